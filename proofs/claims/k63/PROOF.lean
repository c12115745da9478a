import PyProof.Rows.All
import Wide.All
import OpenK.AllK
import Wide.FinOn
import HandS.ForMost
import HandS.ForExc
import HandS.Walk
import HandS.TupAny
import HandS.TupLe
import HandS.IsInst
import HandS.Style
import HandS.Wide
import HandS.Zip
import HandS.CallSlots
import HandS.Defaults
import HandS.SortInts
import HandS.Deep
import HandS.Dict
import HandS.Small
import HandS.TupLen
import HandS.Text
import KE.DatumOrd
import HandS.HeadEnd
import HandS.HeadHook2
import HandS.Head2
import PySem.Challenge.RW_doorroads_k63_whole_common_cells_of_stee
set_option Elab.async false
set_option linter.all false
set_option maxRecDepth 100000
/-! DR core: Python values as trees, the heap hidden. -/
namespace DR
open PySem PySem.Spec PyProof.Rows L2
/-! ### values -/
inductive PV where
  | non | bl (b : Bool) | int (i : Int) | str (x : Str) | ty (n : String) | fn (a : Addr) | cell (k : Nat)
  | tup (c : Bool) (xs : List PV) | lst (xs : List PV) | scr (xs : List PV)
  | dK (kvs : List (Key × PV)) | dT (kvs : List (List Key × PV))
  | ins (C : Addr) (fs : List (Str × PV))
  deriving Inhabited
mutual
def Rep (K : PySem.W.Frag) (cs : List Addr) (H : Hp) : PV → V → Prop
  | .non, v => v = .non
  | .bl b, v => v = .bl b
  | .int i, v => v = .int i
  | .str x, v => v = .str x
  | .ty n, v => v = .ty n
  | .fn a, v => v = .ref a
  | .cell k, v => ∃ a, v = .ref a ∧ cs[k]? = some a
  | .tup c ps, v => ∃ a vs, v = .ref a ∧ (if c = true then SqT K H a vs else H a = some (.tup vs)) ∧ Reps K cs H ps vs
  | .lst ps, v => ∃ a vs, v = .ref a ∧ H a = some (.lst vs) ∧ Reps K cs H ps vs
  | .scr ps, v => ∃ a vs, v = .ref a ∧ SqL K H a vs ∧ Reps K cs H ps vs
  | .dK kvs, v => ∃ a ws, v = .ref a ∧ H a = some (.dK ws) ∧ RepK K cs H kvs ws
  | .dT kvs, v => ∃ a ws, v = .ref a ∧ H a = some (.dT ws) ∧ RepT K cs H kvs ws
  | .ins C fs, v => ∃ a dx ws, v = .ref a ∧ H a = some (.ins C dx ws) ∧ RepF K cs H fs ws
def Reps (K : PySem.W.Frag) (cs : List Addr) (H : Hp) : List PV → List V → Prop
  | [], vs => vs = []
  | p :: ps, vs => ∃ v r, vs = v :: r ∧ Rep K cs H p v ∧ Reps K cs H ps r
def RepK (K : PySem.W.Frag) (cs : List Addr) (H : Hp) : List (Key × PV) → List (Key × V) → Prop
  | [], ws => ws = []
  | (k, p) :: ps, ws => ∃ v r, ws = (k, v) :: r ∧ Rep K cs H p v ∧ RepK K cs H ps r
def RepT (K : PySem.W.Frag) (cs : List Addr) (H : Hp) : List (List Key × PV) → List (List Key × V) → Prop
  | [], ws => ws = []
  | (k, p) :: ps, ws => ∃ v r, ws = (k, v) :: r ∧ Rep K cs H p v ∧ RepT K cs H ps r
def RepF (K : PySem.W.Frag) (cs : List Addr) (H : Hp) : List (Str × PV) → List (Str × V) → Prop
  | [], ws => ws = []
  | (k, p) :: ps, ws => ∃ v r, ws = (k, v) :: r ∧ Rep K cs H p v ∧ RepF K cs H ps r
end
def Pre (cs cs' : List Addr) : Prop := ∀ (k : Nat) (a : Addr), cs[k]? = some a → cs'[k]? = some a
theorem Pre.refl (cs : List Addr) : Pre cs cs := fun _ _ h => h
theorem Pre.trans {a b c : List Addr} (h : Pre a b) (g : Pre b c) : Pre a c := fun k x e => g k x (h k x e)
theorem Pre.app (cs more : List Addr) : Pre cs (cs ++ more) := fun k a e => by
  have hk : k < cs.length := (List.getElem?_eq_some_iff.mp e).1
  rw [List.getElem?_append_left hk]
  exact e
theorem rd_mono {H H' : Hp} {a : Addr} {u : HO} (s : Same H H') (r : Rd H a u) : Rd H' a u := by
  rcases r with r | ⟨o, r⟩
  · exact .inl (s _ _ r)
  · exact .inr ⟨o, s _ _ r⟩
theorem sqL_mono {K : PySem.W.Frag} {H H' : Hp} {a : Addr} {vs : List V} (s : Same H H') (r : SqL K H a vs) : SqL K H' a vs := r.imp (rd_mono s) id
theorem sqT_mono {K : PySem.W.Frag} {H H' : Hp} {a : Addr} {vs : List V} (s : Same H H') (r : SqT K H a vs) : SqT K H' a vs := r.imp (rd_mono s) id
section
variable {K : PySem.W.Frag} {cs cs' : List Addr} {H H' : Hp}
mutual
theorem Rep.mono (hc : Pre cs cs') (s : Same H H') : ∀ (p : PV) (v : V), Rep K cs H p v → Rep K cs' H' p v
  | .non, _, h => by unfold Rep at h ⊢; exact h
  | .bl _, _, h => by unfold Rep at h ⊢; exact h
  | .int _, _, h => by unfold Rep at h ⊢; exact h
  | .str _, _, h => by unfold Rep at h ⊢; exact h
  | .ty _, _, h => by unfold Rep at h ⊢; exact h
  | .fn _, _, h => by unfold Rep at h ⊢; exact h
  | .cell _, _, h => by
    unfold Rep at h ⊢
    obtain ⟨a, e, h⟩ := h
    exact ⟨a, e, hc _ _ h⟩
  | .tup true ps, _, h => by
    unfold Rep at h ⊢
    obtain ⟨a, vs, e, h, r⟩ := h
    rw [if_pos rfl] at h
    exact ⟨a, vs, e, by rw [if_pos rfl]; exact sqT_mono s h, Reps.mono hc s ps vs r⟩
  | .tup false ps, _, h => by
    unfold Rep at h ⊢
    obtain ⟨a, vs, e, h, r⟩ := h
    rw [if_neg (by decide)] at h
    exact ⟨a, vs, e, by rw [if_neg (by decide)]; exact s _ _ h, Reps.mono hc s ps vs r⟩
  | .lst ps, _, h => by
    unfold Rep at h ⊢
    obtain ⟨a, vs, e, h, r⟩ := h
    exact ⟨a, vs, e, s _ _ h, Reps.mono hc s ps vs r⟩
  | .scr ps, _, h => by
    unfold Rep at h ⊢
    obtain ⟨a, vs, e, h, r⟩ := h
    exact ⟨a, vs, e, sqL_mono s h, Reps.mono hc s ps vs r⟩
  | .dK ps, _, h => by
    unfold Rep at h ⊢
    obtain ⟨a, vs, e, h, r⟩ := h
    exact ⟨a, vs, e, s _ _ h, RepK.mono hc s ps vs r⟩
  | .dT ps, _, h => by
    unfold Rep at h ⊢
    obtain ⟨a, vs, e, h, r⟩ := h
    exact ⟨a, vs, e, s _ _ h, RepT.mono hc s ps vs r⟩
  | .ins C ps, _, h => by
    unfold Rep at h ⊢
    obtain ⟨a, dx, vs, e, h, r⟩ := h
    exact ⟨a, dx, vs, e, s _ _ h, RepF.mono hc s ps vs r⟩
theorem Reps.mono (hc : Pre cs cs') (s : Same H H') : ∀ (ps : List PV) (vs : List V), Reps K cs H ps vs → Reps K cs' H' ps vs
  | [], _, h => by unfold Reps at h ⊢; exact h
  | p :: ps, _, h => by
    unfold Reps at h ⊢
    obtain ⟨v, r, e, a, b⟩ := h
    exact ⟨v, r, e, Rep.mono hc s p v a, Reps.mono hc s ps r b⟩
theorem RepK.mono (hc : Pre cs cs') (s : Same H H') : ∀ (ps : List (Key × PV)) (vs : List (Key × V)), RepK K cs H ps vs → RepK K cs' H' ps vs
  | [], _, h => by unfold RepK at h ⊢; exact h
  | (k, p) :: ps, _, h => by
    unfold RepK at h ⊢
    obtain ⟨v, r, e, a, b⟩ := h
    exact ⟨v, r, e, Rep.mono hc s p v a, RepK.mono hc s ps r b⟩
theorem RepT.mono (hc : Pre cs cs') (s : Same H H') : ∀ (ps : List (List Key × PV)) (vs : List (List Key × V)), RepT K cs H ps vs → RepT K cs' H' ps vs
  | [], _, h => by unfold RepT at h ⊢; exact h
  | (k, p) :: ps, _, h => by
    unfold RepT at h ⊢
    obtain ⟨v, r, e, a, b⟩ := h
    exact ⟨v, r, e, Rep.mono hc s p v a, RepT.mono hc s ps r b⟩
theorem RepF.mono (hc : Pre cs cs') (s : Same H H') : ∀ (ps : List (Str × PV)) (vs : List (Str × V)), RepF K cs H ps vs → RepF K cs' H' ps vs
  | [], _, h => by unfold RepF at h ⊢; exact h
  | (k, p) :: ps, _, h => by
    unfold RepF at h ⊢
    obtain ⟨v, r, e, a, b⟩ := h
    exact ⟨v, r, e, Rep.mono hc s p v a, RepF.mono hc s ps r b⟩
end
theorem rep_tup {c : Bool} {ps : List PV} {v : V} (r : Rep K cs H (.tup c ps) v) : ∃ a vs, v = .ref a ∧ SqT K H a vs ∧ Reps K cs H ps vs := by
  unfold Rep at r
  obtain ⟨a, vs, e, h, g⟩ := r
  refine ⟨a, vs, e, ?_, g⟩
  cases c with
  | true => rw [if_pos rfl] at h; exact h
  | false => rw [if_neg (by decide)] at h; exact SqT.of h
theorem rep_tup_mk {c : Bool} {ps : List PV} {a : Addr} {vs : List V} (h : H a = some (.tup vs)) (g : Reps K cs H ps vs) : Rep K cs H (.tup c ps) (.ref a) := by
  unfold Rep
  refine ⟨a, vs, rfl, ?_, g⟩
  cases c with
  | true => rw [if_pos rfl]; exact SqT.of h
  | false => rw [if_neg (by decide)]; exact h
theorem rep_tup_mkT {ps : List PV} {a : Addr} {vs : List V} (h : SqT K H a vs) (g : Reps K cs H ps vs) : Rep K cs H (.tup true ps) (.ref a) := by
  unfold Rep
  exact ⟨a, vs, rfl, by rw [if_pos rfl]; exact h, g⟩
theorem rep_tup_up {c d : Bool} {ps : List PV} {v : V} (hcd : c = true → d = true) (r : Rep K cs H (.tup c ps) v) : Rep K cs H (.tup d ps) v := by
  cases d with
  | true => obtain ⟨a, vs, rfl, h, g⟩ := rep_tup r; exact rep_tup_mkT h g
  | false =>
    cases c with
    | true => exact nomatch hcd rfl
    | false => exact r
theorem reps_cons {p : PV} {ps : List PV} {v : V} {vs : List V} (a : Rep K cs H p v) (b : Reps K cs H ps vs) : Reps K cs H (p :: ps) (v :: vs) := by
  unfold Reps
  exact ⟨v, vs, rfl, a, b⟩
theorem reps_nil : Reps K cs H [] [] := by unfold Reps; rfl
theorem Reps.len : ∀ {ps : List PV} {vs : List V}, Reps K cs H ps vs → vs.length = ps.length
  | [], _, h => by unfold Reps at h; subst h; rfl
  | p :: ps, _, h => by
    unfold Reps at h
    obtain ⟨v, r, e, a, b⟩ := h
    subst e
    simp [Reps.len b]
theorem Reps.get : ∀ {ps : List PV} {vs : List V} {i : Nat} {p : PV}, Reps K cs H ps vs → ps[i]? = some p → ∃ v, vs[i]? = some v ∧ Rep K cs H p v
  | [], _, _, _, _, e => by simp at e
  | p :: ps, _, 0, q, h, e => by
    unfold Reps at h
    obtain ⟨v, r, e1, a, b⟩ := h
    subst e1
    simp at e
    subst e
    exact ⟨v, rfl, a⟩
  | p :: ps, _, i + 1, q, h, e => by
    unfold Reps at h
    obtain ⟨v, r, e1, a, b⟩ := h
    subst e1
    simpa using Reps.get (i := i) b (by simpa using e)
theorem Reps.get' {ps : List PV} {vs : List V} {i : Nat} {v : V} (h : Reps K cs H ps vs) (e : vs[i]? = some v) : ∃ p, ps[i]? = some p ∧ Rep K cs H p v := by
  have hi : i < ps.length := by
    have := (List.getElem?_eq_some_iff.mp e).1
    rw [h.len] at this
    exact this
  obtain ⟨w, e2, r⟩ := h.get (List.getElem?_eq_getElem hi)
  rw [e] at e2
  cases e2
  exact ⟨_, List.getElem?_eq_getElem hi, r⟩
theorem Reps.app : ∀ {ps qs : List PV} {vs ws : List V}, Reps K cs H ps vs → Reps K cs H qs ws → Reps K cs H (ps ++ qs) (vs ++ ws)
  | [], _, _, _, h, g => by unfold Reps at h; subst h; exact g
  | p :: ps, _, _, _, h, g => by
    unfold Reps at h
    obtain ⟨v, r, e1, a, b⟩ := h
    subst e1
    exact reps_cons a (Reps.app b g)
theorem Reps.set : ∀ {ps : List PV} {vs : List V} {i : Nat} {p : PV} {v : V}, Reps K cs H ps vs → Rep K cs H p v → Reps K cs H (ps.set i p) (vs.set i v)
  | [], _, _, _, _, h, g => by unfold Reps at h; subst h; exact reps_nil
  | p :: ps, _, 0, _, _, h, g => by
    unfold Reps at h
    obtain ⟨v, r, e1, a, b⟩ := h
    subst e1
    exact reps_cons g b
  | p :: ps, _, i + 1, _, _, h, g => by
    unfold Reps at h
    obtain ⟨v, r, e1, a, b⟩ := h
    subst e1
    exact reps_cons a (Reps.set b g)
theorem Reps.take : ∀ {ps : List PV} {vs : List V} (n : Nat), Reps K cs H ps vs → Reps K cs H (ps.take n) (vs.take n)
  | [], _, n, h => by unfold Reps at h; subst h; simpa using reps_nil
  | p :: ps, _, 0, h => by simpa using reps_nil
  | p :: ps, _, n + 1, h => by
    unfold Reps at h
    obtain ⟨v, r, e1, a, b⟩ := h
    subst e1
    exact reps_cons a (Reps.take n b)
theorem Reps.drop : ∀ {ps : List PV} {vs : List V} (n : Nat), Reps K cs H ps vs → Reps K cs H (ps.drop n) (vs.drop n)
  | [], _, n, h => by unfold Reps at h; subst h; simpa using reps_nil
  | p :: ps, _, 0, h => h
  | p :: ps, _, n + 1, h => by
    unfold Reps at h
    obtain ⟨v, r, e1, a, b⟩ := h
    subst e1
    exact Reps.drop n b
theorem Reps.rev : ∀ {ps : List PV} {vs : List V}, Reps K cs H ps vs → Reps K cs H ps.reverse vs.reverse
  | [], _, h => by unfold Reps at h; subst h; exact reps_nil
  | p :: ps, _, h => by
    unfold Reps at h
    obtain ⟨v, r, e1, a, b⟩ := h
    subst e1
    simp only [List.reverse_cons]
    exact (Reps.rev b).app (reps_cons a reps_nil)
end
/-! ### masks and worlds -/
/-- the heap without the addresses of L -/
def msk (L : List Addr) (H : Hp) : Hp := fun a => if a ∈ L then none else H a
theorem msk_in {L : List Addr} {H : Hp} {a : Addr} (h : a ∈ L) : msk L H a = none := if_pos h
theorem msk_out {L : List Addr} {H : Hp} {a : Addr} (h : a ∉ L) : msk L H a = H a := if_neg h
theorem msk_some {L : List Addr} {H : Hp} {a : Addr} {o : HO} : msk L H a = some o ↔ a ∉ L ∧ H a = some o := by
  unfold msk
  split
  · simp [*]
  · simp [*]
theorem msk_sub (L : List Addr) (H : Hp) : Same (msk L H) H := fun b o e => (msk_some.mp e).2
/-- O: what only one name (or a value in flight) reaches; S: the store; P: what the code around keeps to itself -/
structure Wd where
  O : List Addr
  S : List Addr
  P : List Addr
def Wd.L (W : Wd) : List Addr := W.O ++ (W.S ++ W.P)
theorem Wd.notL {W : Wd} {a : Addr} : a ∉ W.L ↔ a ∉ W.O ∧ a ∉ W.S ∧ a ∉ W.P := by simp [Wd.L]
def Wd.m (W : Wd) (H : Hp) : Hp := msk W.L H
structure Step (W : Wd) (H : Hp) (W' : Wd) (H' : Hp) : Prop where
  same : Same (W.m H) (W'.m H')
  there : ∀ b, H' b = none → H b = none
  new : ∀ b ∈ W'.O, b ∈ W.O ∨ H b = none
  pre : Pre W.S W'.S
  sto : ∀ b ∈ W'.S, b ∈ W.S ∨ b ∈ W.O ∨ H b = none
  prv : W'.P = W.P
  pk : ∀ b ∈ W.P, H' b = H b
theorem Step.refl (W : Wd) (H : Hp) : Step W H W H := ⟨Same.refl _, fun _ h => h, fun _ h => .inl h, Pre.refl _, fun _ h => .inl h, rfl, fun _ _ => rfl⟩
theorem Step.trans {W W1 W2 : Wd} {H H1 H2 : Hp} (a : Step W H W1 H1) (b : Step W1 H1 W2 H2) : Step W H W2 H2 where
  same := a.same.trans b.same
  there := fun c h => a.there c (b.there c h)
  new := fun c h => (b.new c h).elim (a.new c) fun h => .inr (a.there c h)
  pre := a.pre.trans b.pre
  sto := fun c h => (b.sto c h).elim (a.sto c) fun h => h.elim (fun h => .inr (a.new c h)) fun h => .inr (.inr (a.there c h))
  prv := b.prv.trans a.prv
  pk := fun c h => (b.pk c (by rw [a.prv]; exact h)).trans (a.pk c h)
section
variable {K : PySem.W.Frag} {W W' : Wd} {H H' : Hp}
/-- p as v, reached by anything -/
abbrev RV (K : PySem.W.Frag) (W : Wd) (H : Hp) (p : PV) (v : V) : Prop := Rep K W.S (W.m H) p v
abbrev RVs (K : PySem.W.Frag) (W : Wd) (H : Hp) (p : List PV) (v : List V) : Prop := Reps K W.S (W.m H) p v
theorem Step.rv {p : PV} {v : V} (s : Step W H W' H') (r : RV K W H p v) : RV K W' H' p v := r.mono s.pre s.same
theorem Step.rvs {p : List PV} {v : List V} (s : Step W H W' H') (r : RVs K W H p v) : RVs K W' H' p v := r.mono s.pre s.same
/-- what stands at a, the object itself perhaps owned -/
def Con (K : PySem.W.Frag) (W : Wd) (H : Hp) (p : PV) (a : Addr) : Prop :=
  match p with
  | .lst ps => ∃ vs, H a = some (.lst vs) ∧ Reps K W.S (W.m H) ps vs
  | .dK ps => ∃ vs, H a = some (.dK vs) ∧ RepK K W.S (W.m H) ps vs
  | .dT ps => ∃ vs, H a = some (.dT vs) ∧ RepT K W.S (W.m H) ps vs
  | .ins C ps => ∃ dx vs, H a = some (.ins C dx vs) ∧ RepF K W.S (W.m H) ps vs
  | _ => False
theorem Con.step {p : PV} {a : Addr} (s : Step W H W' H') (h : Con K W H p a) (e : H' a = H a) : Con K W' H' p a := by
  cases p with
  | lst ps => obtain ⟨vs, h1, h2⟩ := h; exact ⟨vs, e.trans h1, h2.mono s.pre s.same⟩
  | dK ps => obtain ⟨vs, h1, h2⟩ := h; exact ⟨vs, e.trans h1, h2.mono s.pre s.same⟩
  | dT ps => obtain ⟨vs, h1, h2⟩ := h; exact ⟨vs, e.trans h1, h2.mono s.pre s.same⟩
  | ins C ps => obtain ⟨dx, vs, h1, h2⟩ := h; exact ⟨dx, vs, e.trans h1, h2.mono s.pre s.same⟩
  | _ => exact h.elim
theorem Con.there {p : PV} {a : Addr} (h : Con K W H p a) : ∃ o, H a = some o := by
  cases p with
  | lst ps => obtain ⟨vs, h1, h2⟩ := h; exact ⟨_, h1⟩
  | dK ps => obtain ⟨vs, h1, h2⟩ := h; exact ⟨_, h1⟩
  | dT ps => obtain ⟨vs, h1, h2⟩ := h; exact ⟨_, h1⟩
  | ins C ps => obtain ⟨dx, vs, h1, h2⟩ := h; exact ⟨_, h1⟩
  | _ => exact h.elim
/-- no longer owned: a plain value -/
theorem Con.rv {p : PV} {a : Addr} (h : Con K W H p a) (ha : a ∉ W.L) : RV K W H p (.ref a) := by
  have q : ∀ o, H a = some o → W.m H a = some o := fun o e => msk_some.mpr ⟨ha, e⟩
  cases p with
  | lst ps => obtain ⟨vs, h1, h2⟩ := h; unfold RV Rep; exact ⟨a, vs, rfl, q _ h1, h2⟩
  | dK ps => obtain ⟨vs, h1, h2⟩ := h; unfold RV Rep; exact ⟨a, vs, rfl, q _ h1, h2⟩
  | dT ps => obtain ⟨vs, h1, h2⟩ := h; unfold RV Rep; exact ⟨a, vs, rfl, q _ h1, h2⟩
  | ins C ps => obtain ⟨dx, vs, h1, h2⟩ := h; unfold RV Rep; exact ⟨a, dx, vs, rfl, q _ h1, h2⟩
  | _ => exact h.elim
end
/-! ### frames: slots, the store -/
inductive Sl where
  | no | val (p : PV) | own (p : PV)
  deriving Inhabited
abbrev DE := List Sl
abbrev DT := List PV
structure RE (K : PySem.W.Frag) (W : Wd) (H : Hp) (e : DE) (σ : L2.St) : Prop where
  len : e.length = σ.length
  at_ : ∀ (i : Nat) (p : PV), e[i]? = some (.val p) → ∃ v, σ[i]? = some (some v) ∧ RV K W H p v
  ow : ∀ (i : Nat) (p : PV), e[i]? = some (.own p) → ∃ a, σ[i]? = some (some (.ref a)) ∧ a ∈ W.O ∧ Con K W H p a
  inj : ∀ (i j : Nat) (p q : PV) (a : Addr), e[i]? = some (.own p) → e[j]? = some (.own q) → σ[i]? = some (some (.ref a)) → σ[j]? = some (some (.ref a)) → i = j
structure RS (K : PySem.W.Frag) (W : Wd) (H : Hp) (t : DT) : Prop where
  len : t.length = W.S.length
  at_ : ∀ (k : Nat) (p : PV) (a : Addr), t[k]? = some p → W.S[k]? = some a → Con K W H p a
  nd : W.S.Nodup
  ap : ∀ a ∈ W.O, a ∉ W.S
  pt : ∀ a ∈ W.P, ∃ o, H a = some o
  pa : ∀ a ∈ W.O, a ∉ W.P
  ps : ∀ a ∈ W.S, a ∉ W.P
  ot : ∀ a ∈ W.O, ∃ o, H a = some o
structure DS where
  e : DE
  t : DT
/-- the whole state -/
structure RSt (K : PySem.W.Frag) (W : Wd) (H : Hp) (s : DS) (σ : L2.St) : Prop where
  e : RE K W H s.e σ
  t : RS K W H s.t
end DR
/-! DR: results, readings, names, displays, statements. -/
namespace DR
open PySem PySem.Spec PyProof.Rows L2
structure Exn where
  C : Addr
  fs : Option (List (Str × PV))
inductive Re (α : Type) where
  | ok (a : α) (s : DS) | exc (x : Exn) (s : DS) | bad
def Re.bind {α β : Type} (r : Re α) (g : α → DS → Re β) : Re β :=
  match r with
  | .ok a s => g a s
  | .exc x s => .exc x s
  | .bad => .bad
inductive Fl where
  | nx | rt (p : PV) (fr : Bool) | bk | ct
abbrev EM := DS → Re PV
abbrev OM := DS → Re (PV × Bool)
abbrev AM := DS → Re (List PV)
abbrev TM := DS → Re Bool
abbrev SM := DS → Re Fl
section
variable {K : PySem.W.Frag} {W W' W1 : Wd} {H H' H1 : Hp} {s s1 : DS} {σ : L2.St} {Z : WX}
/-- an exception as it lies -/
def XR (K : PySem.W.Frag) (W : Wd) (H : Hp) (x : Exn) (d : Option Addr) : Prop :=
  match x.fs with
  | none => d = none
  | some l => ∃ dd ws, d = some dd ∧ W.m H dd = some (.xd ws) ∧ RepF K W.S (W.m H) l ws
abbrev RT (α β : Type) := PySem.W.Frag → L2.St → Wd → Hp → DS → α → β → Prop
def Post {α β : Type} (R : RT α β) (K : PySem.W.Frag) (Z : WX) (σ : L2.St) (W : Wd) (H : Hp) (r : Re α) (Q : β → Hp → Prop) : Prop :=
  match r with
  | .ok a s' => ∀ b W' H', Step W H W' H' → RSt K W' H' s' σ → R K σ W' H' s' a b → Q b H'
  | .exc x s' => ∀ d W' H', Step W H W' H' → RSt K W' H' s' σ → XR K W' H' x d → Z (.ref x.C) d σ H'
  | .bad => False
def tG {α β : Type} (R : RT α β) (K : PySem.W.Frag) (Z : WX) (f : DS → Re α) : L2.St → Hp → (β → Hp → Prop) → Prop := fun σ H Q => ∃ W s, RSt K W H s σ ∧ Post R K Z σ W H (f s) Q
def rE : RT PV V := fun K _ W H _ p v => RV K W H p v
def rA : RT (List PV) (List V) := fun K _ W H _ p v => RVs K W H p v
def rT : RT Bool Bool := fun _ _ _ _ _ b c => c = b
/-- owned: a value that nothing else reaches -/
def Own (K : PySem.W.Frag) (σ : L2.St) (W : Wd) (H : Hp) (s : DS) (p : PV) (v : V) : Prop := ∃ a, v = .ref a ∧ a ∈ W.O ∧ Con K W H p a ∧ ∀ (i : Nat) (q : PV), s.e[i]? = some (.own q) → σ[i]? ≠ some (some (.ref a))
def rO : RT (PV × Bool) V := fun K σ W H s p v => if p.2 = true then Own K σ W H s p.1 v else RV K W H p.1 v
abbrev tE := @tG PV V rE
abbrev tA := @tG (List PV) (List V) rA
abbrev tT := @tG Bool Bool rT
abbrev tO := @tG (PV × Bool) V rO
def PostS (K : PySem.W.Frag) (Z : WX) (W : Wd) (H : Hp) (r : Re Fl) (D : Ends) : Prop :=
  match r with
  | .ok .nx s' => ∀ σ' W' H', Step W H W' H' → RSt K W' H' s' σ' → D.nx σ' H'
  | .ok .bk s' => ∀ σ' W' H', Step W H W' H' → RSt K W' H' s' σ' → D.bk σ' H'
  | .ok .ct s' => ∀ σ' W' H', Step W H W' H' → RSt K W' H' s' σ' → D.ct σ' H'
  | .ok (.rt p fr) s' => ∀ σ' v W' H', Step W H W' H' → RSt K W' H' s' σ' → rO K σ' W' H' s' (p, fr) v → D.rt v H'
  | .exc x s' => ∀ σ' d W' H', Step W H W' H' → RSt K W' H' s' σ' → XR K W' H' x d → Z (.ref x.C) d σ' H'
  | .bad => False
def tS (K : PySem.W.Frag) (Z : WX) (f : SM) : TS := fun D σ H => ∃ W s, RSt K W H s σ ∧ PostS K Z W H (f s) D
theorem Post.step {α β : Type} {R : RT α β} {r : Re α} {Q : β → Hp → Prop} (h : Post R K Z σ W H r Q) (st : Step W H W1 H1) : Post R K Z σ W1 H1 r Q := by
  cases r with
  | ok a s' => exact fun b W' H' st' rs rr => h b W' H' (st.trans st') rs rr
  | exc x s' => exact fun d W' H' st' rs rr => h d W' H' (st.trans st') rs rr
  | bad => exact h
theorem PostS.step {r : Re Fl} {D : Ends} (h : PostS K Z W H r D) (st : Step W H W1 H1) : PostS K Z W1 H1 r D := by
  cases r with
  | ok a s' =>
    cases a with
    | nx => exact fun b W' H' st' rs => h b W' H' (st.trans st') rs
    | bk => exact fun b W' H' st' rs => h b W' H' (st.trans st') rs
    | ct => exact fun b W' H' st' rs => h b W' H' (st.trans st') rs
    | rt p fr => exact fun b v W' H' st' rs rr => h b v W' H' (st.trans st') rs rr
  | exc x s' => exact fun b d W' H' st' rs rr => h b d W' H' (st.trans st') rs rr
  | bad => exact h
theorem Post.bind {α β γ δ : Type} {R : RT α β} {R' : RT γ δ} {r : Re α} {g : α → DS → Re γ} {Q : δ → Hp → Prop} {Q' : β → Hp → Prop} (h : Post R' K Z σ W H (r.bind g) Q)
    (k : ∀ a s1 b W1 H1, r = .ok a s1 → Step W H W1 H1 → RSt K W1 H1 s1 σ → R K σ W1 H1 s1 a b → Post R' K Z σ W1 H1 (g a s1) Q → Q' b H1) : Post R K Z σ W H r Q' := by
  cases r with
  | ok a s' => exact fun b W' H' st' rs rr => k a s' b W' H' rfl st' rs rr (Post.step h st')
  | exc x s' => exact h
  | bad => exact h
theorem PostS.bindE {α β : Type} {R : RT α β} {r : Re α} {g : α → DS → Re Fl} {D : Ends} {Q' : β → Hp → Prop} (h : PostS K Z W H (r.bind g) D)
    (k : ∀ a s1 b W1 H1, r = .ok a s1 → Step W H W1 H1 → RSt K W1 H1 s1 σ → R K σ W1 H1 s1 a b → PostS K Z W1 H1 (g a s1) D → Q' b H1) : Post R K Z σ W H r Q' := by
  cases r with
  | ok a s' => exact fun b W' H' st' rs rr => k a s' b W' H' rfl st' rs rr (PostS.step h st')
  | exc x s' => exact fun d W' H' st' rs rr => h σ d W' H' st' rs rr
  | bad => exact h
/-! ### the state: quiet steps, slots -/
theorem RSt.quiet (R : RSt K W H s σ) (st : Step W H W' H') (hO : ∀ a ∈ W.O, a ∈ W'.O) (hS : W'.S = W.S) (hk : ∀ a o, H a = some o → a ∈ W.O ∨ a ∈ W.S → H' a = H a) (ap : ∀ a ∈ W'.O, a ∉ W.S ∧ a ∉ W.P ∧ ∃ o, H' a = some o) : RSt K W' H' s σ := by
  refine ⟨⟨R.e.len, fun i p h => ?_, fun i p h => ?_, R.e.inj⟩, ⟨by rw [hS]; exact R.t.len, fun k p a h1 h2 => ?_, by rw [hS]; exact R.t.nd, fun a h => by rw [hS]; exact (ap a h).1, fun a h => ?_, fun a h => by rw [st.prv]; exact (ap a h).2.1, fun a h => by rw [st.prv]; rw [hS] at h; exact R.t.ps a h, fun a h => (ap a h).2.2⟩⟩
  · obtain ⟨v, h1, h2⟩ := R.e.at_ i p h
    exact ⟨v, h1, st.rv h2⟩
  · obtain ⟨a, h1, h2, h3⟩ := R.e.ow i p h
    obtain ⟨o, ho⟩ := h3.there
    exact ⟨a, h1, hO a h2, h3.step st (hk a o ho (.inl h2))⟩
  · rw [hS] at h2
    obtain ⟨o, ho⟩ := (R.t.at_ k p a h1 h2).there
    exact (R.t.at_ k p a h1 h2).step st (hk a o ho (.inr (List.mem_of_getElem? h2)))
  · rw [st.prv] at h
    obtain ⟨o, ho⟩ := R.t.pt a h
    exact ⟨o, by rw [st.pk a h]; exact ho⟩
theorem RSt.tracked (R : RSt K W H s σ) {a : Addr} (h : a ∈ W.S) : ∃ o, H a = some o := by
  obtain ⟨k, hk, e⟩ := List.mem_iff_getElem.mp h
  have hk2 : k < s.t.length := by rw [R.t.len]; exact hk
  exact (R.t.at_ k s.t[k] a (List.getElem?_eq_getElem hk2) (by rw [List.getElem?_eq_getElem hk, e])).there
theorem RSt.nS (R : RSt K W H s σ) {p : Addr} (hp : H p = none) : p ∉ W.S := fun h => by
  obtain ⟨o, e⟩ := R.tracked h
  rw [hp] at e
  cases e
theorem RSt.nP (R : RSt K W H s σ) {p : Addr} (hp : H p = none) : p ∉ W.P := fun h => by
  obtain ⟨o, e⟩ := R.t.pt p h
  rw [hp] at e
  cases e
theorem Step.alloc {p : Addr} {o : HO} (hp : H p = none) (hP : p ∉ W.P) : Step W H W (upd H p o) := by
  refine ⟨fun b u e => ?_, fun b h => ?_, fun _ h => .inl h, Pre.refl _, fun _ h => .inl h, rfl, fun b h => upd_ne fun z => hP (z ▸ h)⟩
  · obtain ⟨h1, h2⟩ := msk_some.mp e
    exact msk_some.mpr ⟨h1, by rw [upd_ne (ne_of_none h2 hp)]; exact h2⟩
  · by_cases e : b = p
    · rw [e]; exact hp
    · rw [upd_ne e] at h
      exact h
theorem RSt.alloc (R : RSt K W H s σ) {p : Addr} {o : HO} (hp : H p = none) : RSt K W (upd H p o) s σ :=
  R.quiet (Step.alloc hp (R.nP hp)) (fun _ h => h) rfl (fun a o e _ => upd_ne (ne_of_none e hp)) fun a h => ⟨R.t.ap a h, R.t.pa a h, let ⟨u, hu⟩ := R.t.ot a h; ⟨u, by rw [upd_ne (ne_of_none hu hp)]; exact hu⟩⟩
/-- with p owned -/
def Wd.own (W : Wd) (p : Addr) : Wd := ⟨p :: W.O, W.S, W.P⟩
theorem Step.allocO {p : Addr} {o : HO} (hp : H p = none) (hP : p ∉ W.P) : Step W H (W.own p) (upd H p o) := by
  refine ⟨fun b u e => ?_, (Step.alloc (W := W) (o := o) hp hP).there, fun b h => ?_, Pre.refl _, fun _ h => .inl h, rfl, fun b h => upd_ne fun z => hP (z ▸ h)⟩
  · obtain ⟨h1, h2⟩ := msk_some.mp e
    have n := ne_of_none h2 hp
    refine msk_some.mpr ⟨?_, by rw [upd_ne n]; exact h2⟩
    obtain ⟨a1, a2⟩ := Wd.notL.mp h1
    exact Wd.notL.mpr ⟨fun z => (List.mem_cons.mp z).elim n a1, a2⟩
  · rcases List.mem_cons.mp h with h | h
    · rw [h]; exact .inr hp
    · exact .inl h
theorem RSt.allocO (R : RSt K W H s σ) {p : Addr} {o : HO} (hp : H p = none) : RSt K (W.own p) (upd H p o) s σ := by
  refine R.quiet (Step.allocO hp (R.nP hp)) (fun _ h => List.mem_cons_of_mem _ h) rfl (fun a o e _ => upd_ne (ne_of_none e hp)) fun a h => ?_
  rcases List.mem_cons.mp h with h | h
  · rw [h]; exact ⟨R.nS hp, R.nP hp, _, upd_same⟩
  · exact ⟨R.t.ap a h, R.t.pa a h, let ⟨u, hu⟩ := R.t.ot a h; ⟨u, by rw [upd_ne (ne_of_none hu hp)]; exact hu⟩⟩
/-- no longer owned -/
def Wd.drop (W : Wd) (a : Addr) : Wd := ⟨W.O.filter fun b => decide (b ≠ a), W.S, W.P⟩
theorem Step.drop {a : Addr} : Step W H (W.drop a) H := by
  refine ⟨fun b u e => ?_, fun _ h => h, fun b h => .inl (List.mem_filter.mp h).1, Pre.refl _, fun _ h => .inl h, rfl, fun _ _ => rfl⟩
  obtain ⟨h1, h2⟩ := msk_some.mp e
  obtain ⟨a1, a2⟩ := Wd.notL.mp h1
  exact msk_some.mpr ⟨Wd.notL.mpr ⟨fun z => a1 (List.mem_filter.mp z).1, a2⟩, h2⟩
theorem Wd.drop_in {a b : Addr} : b ∈ (W.drop a).O ↔ b ∈ W.O ∧ b ≠ a := by simp [Wd.drop]
theorem RSt.drop_L (R : RSt K W H s σ) {a : Addr} (h : a ∈ W.O) : a ∉ (W.drop a).L :=
  Wd.notL.mpr ⟨fun z => (Wd.drop_in.mp z).2 rfl, R.t.ap a h, R.t.pa a h⟩
theorem RS.drop {t : DT} (R : RS K W H t) (a : Addr) : RS K (W.drop a) H t :=
  ⟨R.len, fun k q b h1 h2 => (R.at_ k q b h1 h2).step Step.drop rfl, R.nd, fun b h => R.ap b (Wd.drop_in.mp h).1, R.pt, fun b h => R.pa b (Wd.drop_in.mp h).1, R.ps, fun b h => R.ot b (Wd.drop_in.mp h).1⟩
/-- the value in flight is let go: it may be reached by anything -/
theorem Own.demote (R : RSt K W H s σ) {p : PV} {v : V} (o : Own K σ W H s p v) : ∃ W1, Step W H W1 H ∧ RSt K W1 H s σ ∧ RV K W1 H p v := by
  obtain ⟨a, e, ha, hc, hn⟩ := o
  have st : Step W H (W.drop a) H := Step.drop
  refine ⟨W.drop a, st, ⟨⟨R.e.len, fun i q h => ?_, fun i q h => ?_, R.e.inj⟩, R.t.drop a⟩, ?_⟩
  · obtain ⟨w, h1, h2⟩ := R.e.at_ i q h
    exact ⟨w, h1, st.rv h2⟩
  · obtain ⟨b, h1, h2, h3⟩ := R.e.ow i q h
    refine ⟨b, h1, Wd.drop_in.mpr ⟨h2, fun z => hn i q h (by rw [h1, z])⟩, h3.step st rfl⟩
  · rw [e]
    exact (hc.step st rfl).rv (R.drop_L ha)
theorem rO_demote (R : RSt K W H s σ) {p : PV} {fr : Bool} {v : V} (o : rO K σ W H s (p, fr) v) : ∃ W1, Step W H W1 H ∧ RSt K W1 H s σ ∧ RV K W1 H p v := by
  cases fr with
  | false => exact ⟨W, Step.refl _ _, R, o⟩
  | true => exact Own.demote R o
/-- a slot's own list is let go -/
theorem RSt.demote (R : RSt K W H s σ) {i : Nat} {p : PV} (h : s.e[i]? = some (.own p)) : ∃ v W1, σ[i]? = some (some v) ∧ Step W H W1 H ∧ RSt K W1 H ⟨s.e.set i (.val p), s.t⟩ σ ∧ RV K W1 H p v := by
  obtain ⟨a, h1, h2, h3⟩ := R.e.ow i p h
  have st : Step W H (W.drop a) H := Step.drop
  have hi : i < s.e.length := (List.getElem?_eq_some_iff.mp h).1
  have rv : RV K (W.drop a) H p (.ref a) := (h3.step st rfl).rv (R.drop_L h2)
  have get : ∀ (j : Nat) (sl : Sl), (s.e.set i (.val p))[j]? = some sl → (j = i ∧ sl = .val p) ∨ (j ≠ i ∧ s.e[j]? = some sl) := fun j sl e => by
    by_cases hj : j = i
    · subst hj
      rw [List.getElem?_set_self hi] at e
      exact .inl ⟨rfl, (Option.some.inj e).symm⟩
    · rw [List.getElem?_set_ne (Ne.symm hj)] at e
      exact .inr ⟨hj, e⟩
  refine ⟨.ref a, W.drop a, h1, st, ⟨⟨by simp [R.e.len], fun j q e => ?_, fun j q e => ?_, fun j k q r b e1 e2 e3 e4 => ?_⟩, R.t.drop a⟩, rv⟩
  · rcases get j _ e with ⟨rfl, e'⟩ | ⟨hj, e'⟩
    · cases e'
      exact ⟨.ref a, h1, rv⟩
    · obtain ⟨w, g1, g2⟩ := R.e.at_ j q e'
      exact ⟨w, g1, st.rv g2⟩
  · rcases get j _ e with ⟨rfl, e'⟩ | ⟨hj, e'⟩
    · cases e'
    · obtain ⟨b, g1, g2, g3⟩ := R.e.ow j q e'
      exact ⟨b, g1, Wd.drop_in.mpr ⟨g2, fun z => hj (R.e.inj j i q p a e' h (by rw [g1, z]) h1)⟩, g3.step st rfl⟩
  · rcases get j _ e1 with ⟨rfl, e'⟩ | ⟨hj, e'⟩
    · cases e'
    · rcases get k _ e2 with ⟨rfl, e''⟩ | ⟨hk, e''⟩
      · cases e''
      · exact R.e.inj j k q r b e' e'' e3 e4
theorem get_set {e : DE} {i j : Nat} {x y : Sl} (h : (e.set i x)[j]? = some y) : (j = i ∧ y = x) ∨ (j ≠ i ∧ e[j]? = some y) := by
  by_cases hj : j = i
  · subst hj
    by_cases hi : j < e.length
    · rw [List.getElem?_set_self hi] at h
      exact .inl ⟨rfl, (Option.some.inj h).symm⟩
    · rw [List.getElem?_eq_none (by simpa using hi)] at h
      cases h
  · rw [List.getElem?_set_ne (Ne.symm hj)] at h
    exact .inr ⟨hj, h⟩
/-- a plain value is stored -/
theorem RSt.setv (R : RSt K W H s σ) {i : Nat} {p : PV} {v : V} (r : RV K W H p v) : RSt K W H ⟨s.e.set i (.val p), s.t⟩ (σ.set i (some v)) := by
  have ne : ∀ {j : Nat}, j ≠ i → (σ.set i (some v))[j]? = σ[j]? := fun h => List.getElem?_set_ne (Ne.symm h)
  refine ⟨⟨by simp [R.e.len], fun j q e => ?_, fun j q e => ?_, fun j k q r b e1 e2 e3 e4 => ?_⟩, R.t⟩
  · rcases get_set e with ⟨rfl, e'⟩ | ⟨hj, e'⟩
    · cases e'
      have hi : j < σ.length := by
        have := (List.getElem?_eq_some_iff.mp e).1
        rw [List.length_set, R.e.len] at this
        exact this
      exact ⟨v, List.getElem?_set_self hi, r⟩
    · rw [ne hj]
      exact R.e.at_ j q e'
  · rcases get_set e with ⟨rfl, e'⟩ | ⟨hj, e'⟩
    · cases e'
    · rw [ne hj]
      exact R.e.ow j q e'
  · rcases get_set e1 with ⟨rfl, e'⟩ | ⟨hj, e'⟩
    · cases e'
    · rcases get_set e2 with ⟨rfl, e''⟩ | ⟨hk, e''⟩
      · cases e''
      · rw [ne hj] at e3
        rw [ne hk] at e4
        exact R.e.inj j k q r b e' e'' e3 e4
/-- an owned value is stored -/
theorem RSt.seto (R : RSt K W H s σ) {i : Nat} {p : PV} {v : V} (o : Own K σ W H s p v) : RSt K W H ⟨s.e.set i (.own p), s.t⟩ (σ.set i (some v)) := by
  obtain ⟨a, e0, ha, hc, hn⟩ := o
  subst e0
  have ne : ∀ {j : Nat}, j ≠ i → (σ.set i (some (V.ref a)))[j]? = σ[j]? := fun h => List.getElem?_set_ne (Ne.symm h)
  have at_i : ∀ {y}, (s.e.set i y)[i]? = some y → (σ.set i (some (V.ref a)))[i]? = some (some (.ref a)) := fun {y} e => by
    have := (List.getElem?_eq_some_iff.mp e).1
    rw [List.length_set, R.e.len] at this
    exact List.getElem?_set_self this
  refine ⟨⟨by simp [R.e.len], fun j q e => ?_, fun j q e => ?_, fun j k q r b e1 e2 e3 e4 => ?_⟩, R.t⟩
  · rcases get_set e with ⟨rfl, e'⟩ | ⟨hj, e'⟩
    · cases e'
    · rw [ne hj]
      exact R.e.at_ j q e'
  · rcases get_set e with ⟨rfl, e'⟩ | ⟨hj, e'⟩
    · cases e'
      exact ⟨a, at_i e, ha, hc⟩
    · rw [ne hj]
      exact R.e.ow j q e'
  · rcases get_set e1 with ⟨rfl, e'⟩ | ⟨hj, e'⟩
    · rcases get_set e2 with ⟨rfl, e''⟩ | ⟨hk, e''⟩
      · rfl
      · cases e'
        rw [at_i e1] at e3
        cases e3
        rw [ne hk] at e4
        exact absurd e4 (hn k r e'')
    · rcases get_set e2 with ⟨rfl, e''⟩ | ⟨hk, e''⟩
      · cases e''
        rw [at_i e2] at e4
        cases e4
        rw [ne hj] at e3
        exact absurd e3 (hn j q e')
      · rw [ne hj] at e3
        rw [ne hk] at e4
        exact R.e.inj j k q r b e' e'' e3 e4
end
/-! ### the judgements -/
structure PX (X : Cx) (Z : WX) (e : Expr) (f : EM) : Prop where
  pe : PE X e (tE X.K Z f)
structure PO (X : Cx) (Z : WX) (e : Expr) (f : OM) : Prop where
  pe : PE X e (tO X.K Z f)
structure PAX (X : Cx) (Z : WX) (es : List Expr) (f : AM) : Prop where
  pa : PA X es (tA X.K Z f)
structure PTX (X : Cx) (Z : WX) (e : Expr) (f : TM) : Prop where
  pt : PT X e (tT X.K Z f)
structure PSX (X : Cx) (Z : WX) (st : Stmt) (f : SM) : Prop where
  ps : PS X st (tS X.K Z f)
structure PSsX (X : Cx) (Z : WX) (st : List Stmt) (f : SM) : Prop where
  ps : PSs X st (tS X.K Z f)
theorem PE_imp {X : Cx} {e : Expr} {t t' : TE} (h : PE X e t) (i : ∀ σ H Q, t' σ H Q → t σ H Q) : PE X e t' := ⟨fun pins s σ H Q I q => h.run pins s σ H Q I (i σ H Q q)⟩
theorem PA_imp {X : Cx} {e : List Expr} {t t' : TA} (h : PA X e t) (i : ∀ σ H Q, t' σ H Q → t σ H Q) : PA X e t' := ⟨fun pos pins s σ H Q I q => h.run pos pins s σ H Q I (i σ H Q q)⟩
theorem PT_imp {X : Cx} {e : Expr} {t t' : TT} (h : PT X e t) (i : ∀ σ H Q, t' σ H Q → t σ H Q) : PT X e t' := ⟨fun pins s σ H Q I q => h.run pins s σ H Q I (i σ H Q q)⟩
theorem PW_imp {X : Cx} {e : Expr} {t t' : TT} (h : PW X e t) (i : ∀ σ H Q, t' σ H Q → t σ H Q) : PW X e t' := ⟨fun wh pins s σ H Q I q => h.run wh pins s σ H Q I (i σ H Q q)⟩
theorem PS_imp {X : Cx} {e : Stmt} {t t' : TS} (h : PS X e t) (i : ∀ D σ H, t' D σ H → t D σ H) : PS X e t' := ⟨fun pins s σ H D I q => h.run pins s σ H D I (i D σ H q)⟩
theorem PSs_imp {X : Cx} {e : List Stmt} {t t' : TS} (h : PSs X e t) (i : ∀ D σ H, t' D σ H → t D σ H) : PSs X e t' := ⟨fun pins s σ H D I q => h.run pins s σ H D I (i D σ H q)⟩
theorem PE_or {X : Cx} {e : Expr} {t t' : TE} (h : PE X e t) (g : PE X e t') : PE X e (fun σ H Q => t σ H Q ∨ t' σ H Q) := ⟨fun pins s σ H Q I q => q.elim (h.run pins s σ H Q I) (g.run pins s σ H Q I)⟩
theorem PE_any {X : Cx} {e : Expr} {ι : Type} {t : ι → TE} (h : ∀ i, PE X e (t i)) : PE X e (fun σ H Q => ∃ i, t i σ H Q) := ⟨fun pins s σ H Q I ⟨i, q⟩ => (h i).run pins s σ H Q I q⟩
section
variable {X : Cx} {Z : WX}
/-! ### names, constants -/
def nameE (i : Nat) : EM := fun s => match s.e[i]? with
  | some (.val p) => .ok p s
  | some (.own p) => .ok p ⟨s.e.set i (.val p), s.t⟩
  | _ => .bad
def constE (p : PV) : EM := fun s => .ok p s
theorem px_name {x : Str} {pos : Pos} (i : Nat) (hN : X.N[i]? = some x := by rfl) (hv : Vis X.env.scope x := by first | exact Or.inl rfl | exact Or.inr (Or.inl rfl) | exact Or.inr (Or.inr rfl)) (hd : (x == ("__debug__" : Str)) = false := by decide)
    (hcd : (x == ("__classdict__" : Str)) = false := by decide) : PX X Z (.Name x pos) (nameE i) := by
  refine ⟨PE_imp (pe_var hN hv hd hcd) fun σ H Q h => ?_⟩
  obtain ⟨W, s, R, h⟩ := h
  unfold nameE at h
  split at h
  · rename_i p e
    obtain ⟨v, h1, h2⟩ := R.e.at_ i p e
    exact ⟨v, h1, h v W H (Step.refl _ _) R h2⟩
  · rename_i p e
    obtain ⟨v, W1, h1, st, R1, rv⟩ := R.demote e
    exact ⟨v, h1, h v W1 H st R1 rv⟩
  · exact h.elim
theorem rv_int {K : PySem.W.Frag} {W : Wd} {H : Hp} {i : Int} : RV K W H (.int i) (.int i) := by unfold RV Rep; rfl
theorem rv_bl {K : PySem.W.Frag} {W : Wd} {H : Hp} {b : Bool} : RV K W H (.bl b) (.bl b) := by unfold RV Rep; rfl
theorem rv_non {K : PySem.W.Frag} {W : Wd} {H : Hp} : RV K W H .non .non := by unfold RV Rep; rfl
theorem rv_str {K : PySem.W.Frag} {W : Wd} {H : Hp} {x : Str} : RV K W H (.str x) (.str x) := by unfold RV Rep; rfl
theorem px_const {e : Expr} {p : PV} {v : V} (h : PE X e (tC v)) (r : ∀ K W H, RV K W H p v) : PX X Z e (constE p) := by
  refine ⟨PE_imp h fun σ H Q h => ?_⟩
  obtain ⟨W, s, R, h⟩ := h
  exact h v W H (Step.refl _ _) R (r _ _ _)
theorem px_int {i j pos} : PX X Z (.Constant (.int i) j pos) (constE (.int i)) := px_const pe_int fun _ _ _ => rv_int
theorem px_bl {i j pos} : PX X Z (.Constant (.bool i) j pos) (constE (.bl i)) := px_const pe_bl fun _ _ _ => rv_bl
theorem px_non {j pos} : PX X Z (.Constant .none j pos) (constE .non) := px_const pe_non fun _ _ _ => rv_non
theorem px_str {i j pos} : PX X Z (.Constant (.str i) j pos) (constE (.str i)) := px_const pe_str fun _ _ _ => rv_str
/-- a def or a class of the module, as a value -/
theorem px_fn {x : Str} {a : Addr} {pos : Pos} (hg : Gl X x) (hm : X.mg x = some (.ref a)) (hd : (x == ("__debug__" : Str)) = false := by decide) : PX X Z (.Name x pos) (constE (.fn a)) :=
  px_const (pe_glob (v := .ref a) hg hm rfl hd) fun _ _ _ => by unfold RV Rep; rfl
/-- a constant of the module that is an int, a text .. -/
theorem px_globi {x : Str} {i : Int} {t : Tok} {pos : Pos} (hg : Gl X x) (hm : X.mg x = some (.int i t)) (hd : (x == ("__debug__" : Str)) = false := by decide) : PX X Z (.Name x pos) (constE (.int i)) :=
  px_const (pe_glob (v := .int i) hg hm ⟨_, rfl⟩ hd) fun _ _ _ => rv_int
/-! ### owned and plain -/
def plainE (f : OM) : EM := fun s => (f s).bind fun p s1 => .ok p.1 s1
def sharedE (f : EM) : OM := fun s => (f s).bind fun p s1 => .ok (p, false) s1
theorem px_of {e : Expr} {f : OM} (h : PO X Z e f) : PX X Z e (plainE f) := by
  refine ⟨PE_imp h.pe fun σ H Q h => ?_⟩
  obtain ⟨W, s, R, h⟩ := h
  refine ⟨W, s, R, Post.bind h fun a s1 b W1 H1 _ st R1 r q => ?_⟩
  obtain ⟨p, fr⟩ := a
  obtain ⟨W2, st2, R2, rv⟩ := rO_demote R1 r
  exact q b W2 H1 st2 R2 rv
theorem po_of {e : Expr} {f : EM} (h : PX X Z e f) : PO X Z e (sharedE f) := by
  refine ⟨PE_imp h.pe fun σ H Q h => ?_⟩
  obtain ⟨W, s, R, h⟩ := h
  exact ⟨W, s, R, Post.bind h fun a s1 b W1 H1 _ st R1 r q => q b W1 H1 (Step.refl _ _) R1 r⟩
/-! ### argument lists, displays -/
def nilA : AM := fun s => .ok [] s
def consA (f : EM) (g : AM) : AM := fun s => (f s).bind fun p s1 => (g s1).bind fun ps s2 => .ok (p :: ps) s2
theorem pa_nilX : PAX X Z [] nilA := ⟨PA_imp pa_nil fun σ H Q ⟨W, s, R, h⟩ => h [] W H (Step.refl _ _) R (show Reps X.K W.S (W.m H) [] [] from reps_nil)⟩
theorem pa_consX {e : Expr} {es : List Expr} {f : EM} {g : AM} (ha : PX X Z e f) (hr : PAX X Z es g) (hs : starEach (e :: es) X.env = (false, eval e X.env) :: starEach es X.env := by rfl) : PAX X Z (e :: es) (consA f g) := by
  refine ⟨PA_imp (L2.pa_cons ha.pe hr.pa hs) fun σ H Q ⟨W, s, R, h⟩ => ?_⟩
  refine ⟨W, s, R, Post.bind h fun p s1 v W1 H1 _ st R1 rv q => ⟨W1, s1, R1, Post.bind q fun ps s2 vs W2 H2 _ st2 R2 rvs q2 => q2 _ W2 H2 (Step.refl _ _) R2 (reps_cons (st2.rv rv) rvs)⟩⟩
def lineOk (n : Nat) : Bool := decide (n ≤ sizeLine)
def tupE (f : AM) : EM := fun s => (f s).bind fun ps s1 => if lineOk ps.length then .ok (.tup false ps) s1 else .bad
def lstE (f : AM) : OM := fun s => (f s).bind fun ps s1 => if lineOk ps.length then .ok (.lst ps, true) s1 else .bad
theorem new_tup {c : Bool} {K : PySem.W.Frag} {W : Wd} {H : Hp} {p : Addr} {ps : List PV} {vs : List V} (hp : H p = none) (hL : p ∉ W.L) (r : RVs K W H ps vs) : RV K W (upd H p (.tup vs)) (.tup c ps) (.ref p) := by
  exact rep_tup_mk (msk_some.mpr ⟨hL, upd_same⟩) ((Step.alloc hp (Wd.notL.mp hL).2.2).rvs r)
theorem RSt.newL {K : PySem.W.Frag} {W : Wd} {H : Hp} {s : DS} {σ : L2.St} (R : RSt K W H s σ) {p : Addr} (hp : H p = none) : ∃ W1, Step W H W1 H ∧ RSt K W1 H s σ ∧ p ∉ W1.L := by
  refine ⟨W.drop p, Step.drop, ⟨⟨R.e.len, fun i q h => ?_, fun i q h => ?_, R.e.inj⟩, R.t.drop p⟩, ?_⟩
  · obtain ⟨w, h1, h2⟩ := R.e.at_ i q h
    exact ⟨w, h1, Step.drop.rv h2⟩
  · obtain ⟨b, h1, h2, h3⟩ := R.e.ow i q h
    obtain ⟨o, ho⟩ := h3.there
    exact ⟨b, h1, Wd.drop_in.mpr ⟨h2, ne_of_none ho hp⟩, h3.step Step.drop rfl⟩
  · exact Wd.notL.mpr ⟨fun z => (Wd.drop_in.mp z).2 rfl, R.nS hp, R.nP hp⟩
/-- a new plain object -/
theorem Post.newP {σ : L2.St} {W : Wd} {H : Hp} {K : PySem.W.Frag} {s : DS} {p : Addr} {o : HO} {q : PV} {Q : VK} (R : RSt K W H s σ) (hp : H p = none) (h : Post rE K Z σ W H (.ok q s) Q)
    (r : ∀ W1, Step W H W1 H → p ∉ W1.L → RV K W1 (upd H p o) q (.ref p)) : Q (.ref p) (upd H p o) := by
  obtain ⟨W1, st, R1, hL⟩ := R.newL hp
  exact h _ W1 _ (st.trans (Step.alloc hp (R1.nP hp))) (R1.alloc hp) (r W1 st hL)
/-- a new owned object -/
theorem Post.newO {σ : L2.St} {W : Wd} {H : Hp} {K : PySem.W.Frag} {s : DS} {p : Addr} {o : HO} {q : PV} {Q : VK} (R : RSt K W H s σ) (hp : H p = none) (h : Post rO K Z σ W H (.ok (q, true) s) Q)
    (r : Con K (W.own p) (upd H p o) q p) : Q (.ref p) (upd H p o) := by
  refine h _ (W.own p) _ (Step.allocO hp (R.nP hp)) (R.allocO hp) ⟨p, rfl, List.mem_cons_self, r, fun i q' e z => ?_⟩
  obtain ⟨a, h1, h2, h3⟩ := R.e.ow i q' e
  obtain ⟨o', ho⟩ := h3.there
  rw [h1] at z
  cases z
  rw [hp] at ho
  cases ho
theorem px_tup {es : List Expr} {f : AM} {x1 pos} (h : PAX X Z es f) : PX X Z (.Tuple es x1 pos) (tupE f) := by
  refine ⟨PE_imp (pe_tup h.pa) fun σ H Q ⟨W, s, R, h⟩ => ⟨W, s, R, Post.bind h fun ps s1 vs W1 H1 _ st R1 r q => ?_⟩⟩
  have r : RVs X.K W1 H1 ps vs := r
  by_cases hl : lineOk ps.length = true
  · rw [if_pos hl] at q
    refine ⟨by rw [r.len]; exact of_decide_eq_true hl, fun p hp => Post.newP R1 hp q fun W2 st2 hL => new_tup hp hL (st2.rvs r)⟩
  · rw [if_neg hl] at q
    exact q.elim
theorem po_lst {es : List Expr} {f : AM} {pos} (h : PAX X Z es f) : PO X Z (.List es pos) (lstE f) := by
  refine ⟨PE_imp (pe_lst h.pa) fun σ H Q ⟨W, s, R, h⟩ => ⟨W, s, R, Post.bind h fun ps s1 vs W1 H1 _ st R1 r q => ?_⟩⟩
  have r : RVs X.K W1 H1 ps vs := r
  by_cases hl : lineOk ps.length = true
  · rw [if_pos hl] at q
    exact ⟨by rw [r.len]; exact of_decide_eq_true hl, fun p hp => Post.newO R1 hp q ⟨vs, upd_same, (Step.allocO hp (R1.nP hp)).rvs r⟩⟩
  · rw [if_neg hl] at q
    exact q.elim
end
end DR
/-! DR: operators, comparisons, tests. -/
namespace DR
open PySem PySem.Spec PyProof.Rows L2
/-! ### data that == takes -/
mutual
def toD : PV → Option PyData
  | .non => some .none
  | .bl b => some (.bool b)
  | .int i => some (.int i)
  | .str x => some (.str x)
  | .tup _ ps => (toDs ps).map .tuple
  | .lst ps => (toDs ps).map .list
  | _ => none
def toDs : List PV → Option (List PyData)
  | [] => some []
  | p :: ps => match toD p, toDs ps with
    | some d, some ds => some (d :: ds)
    | _, _ => none
end
section
variable {K : PySem.W.Frag} {cs : List Addr} {H H' : Hp}
mutual
theorem rep_dp (sub : Same H H') : ∀ (p : PV) (v : V) (d : PyData), Rep K cs H p v → toD p = some d → Dp K H' v d
  | .non, v, d, r, e => by
    unfold Rep at r
    simp only [toD, Option.some.injEq] at e
    subst r e
    exact .non
  | .bl b, v, d, r, e => by
    unfold Rep at r
    simp only [toD, Option.some.injEq] at e
    subst r e
    exact .bl b
  | .int b, v, d, r, e => by
    unfold Rep at r
    simp only [toD, Option.some.injEq] at e
    subst r e
    exact .int b
  | .str b, v, d, r, e => by
    unfold Rep at r
    simp only [toD, Option.some.injEq] at e
    subst r e
    exact .str b
  | .tup _ ps, v, d, r, e => by
    replace r := rep_tup r
    simp only [toD, Option.map_eq_some_iff] at e
    obtain ⟨a, vs, rfl, h1, h2⟩ := r
    obtain ⟨ds, h3, rfl⟩ := e
    exact .tup (sqT_mono sub h1) (reps_dp sub ps vs ds h2 h3)
  | .lst ps, v, d, r, e => by
    unfold Rep at r
    simp only [toD, Option.map_eq_some_iff] at e
    obtain ⟨a, vs, rfl, h1, h2⟩ := r
    obtain ⟨ds, h3, rfl⟩ := e
    exact .lst (SqL.of (sub _ _ h1)) (reps_dp sub ps vs ds h2 h3)
  | .ty _, _, _, _, e => by simp [toD] at e
  | .fn _, _, _, _, e => by simp [toD] at e
  | .cell _, _, _, _, e => by simp [toD] at e
  | .scr _, _, _, _, e => by simp [toD] at e
  | .dK _, _, _, _, e => by simp [toD] at e
  | .dT _, _, _, _, e => by simp [toD] at e
  | .ins _ _, _, _, _, e => by simp [toD] at e
theorem reps_dp (sub : Same H H') : ∀ (ps : List PV) (vs : List V) (ds : List PyData), Reps K cs H ps vs → toDs ps = some ds → DpAll K H' vs ds
  | [], vs, ds, r, e => by
    unfold Reps at r
    simp only [toDs, Option.some.injEq] at e
    subst r e
    exact .nil
  | p :: ps, vs, ds, r, e => by
    unfold Reps at r
    obtain ⟨v, w, rfl, h1, h2⟩ := r
    simp only [toDs] at e
    cases e1 : toD p with
    | none => rw [e1] at e; simp at e
    | some d =>
      cases e2 : toDs ps with
      | none => rw [e1, e2] at e; simp at e
      | some ds' =>
        rw [e1, e2] at e
        simp only [Option.some.injEq] at e
        subst e
        exact .cons (rep_dp sub p v d h1 e1) (reps_dp sub ps w ds' h2 e2)
end
end
/-- data of at most sixty-four deep -/
def okD (p : PV) : Bool := match toD p with
  | some d => SeqAt.shaped d
  | none => false
/-- Python's == over data -/
def eqD (p q : PV) : Bool := match toD p, toD q with
  | some d, some e => PyData.eqv d e
  | _, _ => false
abbrev B2 := PV → PV → Option (PV × Bool)
/-- what a two-place operator is worth -/
def BinR (X : Cx) (f : Value → Value → Sem Value) (g : B2) : Prop :=
  ∀ (Z : WX), ∃ r : R2, OpR X f r ∧ ∀ (W : Wd) (H : Hp) (s : DS) (σ : L2.St) (p q : PV) (x y : V) (res : PV × Bool) (Q : VK), RSt X.K W H s σ → RV X.K W H p x → RV X.K W H q y → g p q = some res → Post rO X.K Z σ W H (.ok res s) Q → r x y H Q
def binO (g : B2) (fa fb : EM) : OM := fun s => (fa s).bind fun p s1 => (fb s1).bind fun q s2 => match g p q with
  | some r => .ok r s2
  | none => .bad
theorem OpR_or {X : Cx} {f : Value → Value → Sem Value} {r r' : R2} (h : OpR X f r) (h' : OpR X f r') : OpR X f (fun x y H Q => r x y H Q ∨ r' x y H Q) := fun pins s σ H x y v u Q I rx ry q => q.elim (h pins s σ H x y v u Q I rx ry) (h' pins s σ H x y v u Q I rx ry)
theorem BinR.or {X : Cx} {f : Value → Value → Sem Value} {g g' : B2} (h : BinR X f g) (h' : BinR X f g') : BinR X f (fun p q => (g p q).or (g' p q)) := fun Z => by
  obtain ⟨r, o, k⟩ := h Z
  obtain ⟨r', o', k'⟩ := h' Z
  refine ⟨_, OpR_or o o', fun W H s σ p q x y res Q R rx ry e po => ?_⟩
  replace e : (g p q).or (g' p q) = some res := e
  cases e1 : g p q with
  | some z =>
    rw [e1] at e
    exact .inl (k W H s σ p q x y res Q R rx ry (by rw [e1]; simpa using e) po)
  | none =>
    rw [e1] at e
    exact .inr (k' W H s σ p q x y res Q R rx ry (by simpa using e) po)
section
variable {X : Cx} {Z : WX} {a b : Expr} {fa fb : EM} {pos : Pos} {g : B2}
theorem tO_bin {r : R2} (k : ∀ (W : Wd) (H : Hp) (s : DS) (σ : L2.St) (p q : PV) (x y : V) (res : PV × Bool) (Q : VK), RSt X.K W H s σ → RV X.K W H p x → RV X.K W H q y → g p q = some res → Post rO X.K Z σ W H (.ok res s) Q → r x y H Q)
    (σ : L2.St) (H : Hp) (Q : VK) (h : tO X.K Z (binO g fa fb) σ H Q) : tOp r (tE X.K Z fa) (tE X.K Z fb) σ H Q := by
  obtain ⟨W, s, R, h⟩ := h
  refine ⟨W, s, R, Post.bind h fun p s1 x W1 H1 _ st R1 rx q => ⟨W1, s1, R1, Post.bind q fun p2 s2 y W2 H2 _ st2 R2 ry q2 => ?_⟩⟩
  cases e : g p p2 with
  | none => simp only [e] at q2; exact q2.elim
  | some res =>
    simp only [e] at q2
    exact k W2 H2 s2 σ p p2 x y res Q R2 (st2.rv rx) ry e q2
theorem po_bin {op : Operator} (hg : BinR X (binaryOp op) g) (ha : PX X Z a fa) (hb : PX X Z b fb) : PO X Z (.BinOp a op b pos) (binO g fa fb) := by
  obtain ⟨r, o, k⟩ := hg Z
  exact ⟨PE_imp (L2.pe_op o ha.pe hb.pe) fun σ H Q h => tO_bin k σ H Q h⟩
/-- an operator with plain answers -/
abbrev P2 := PV → PV → Option PV
def p2 (g : P2) : B2 := fun p q => (g p q).map fun r => (r, false)
def binE (g : P2) (fa fb : EM) : EM := plainE (binO (p2 g) fa fb)
theorem px_bin {op : Operator} {g : P2} (hg : BinR X (binaryOp op) (p2 g)) (ha : PX X Z a fa) (hb : PX X Z b fb) : PX X Z (.BinOp a op b pos) (binE g fa fb) := px_of (po_bin hg ha hb)
theorem px_cmp {op : CmpOp} {g : P2} (hg : BinR X (compareOp op) (p2 g)) (ha : PX X Z a fa) (hb : PX X Z b fb) (hm : behindInMarks op b = false := by first | exact nomark _ | rfl | with_unfolding_all rfl) : PX X Z (.Compare a [op] [b] pos) (binE g fa fb) := by
  obtain ⟨r, o, k⟩ := hg Z
  exact px_of ⟨PE_imp (L2.pe_cmpR o ha.pe hb.pe hm) fun σ H Q h => tO_bin k σ H Q h⟩
/-- a rule over plain values, by their trees -/
theorem BinR.plain {f : Value → Value → Sem Value} {r : R2} {g : P2} (o : OpR X f r) (k : ∀ (W : Wd) (H : Hp) (p q : PV) (x y : V) (res : PV) (Q : VK), RV X.K W H p x → RV X.K W H q y → g p q = some res → (∀ v, RV X.K W H res v → Q v H) → r x y H Q) : BinR X f (p2 g) := fun Z => by
  refine ⟨r, o, fun W H s σ p q x y res Q R rx ry e po => ?_⟩
  simp only [p2, Option.map_eq_some_iff] at e
  obtain ⟨z, e, rfl⟩ := e
  exact k W H p q x y z Q rx ry e fun v rv => po v W H (Step.refl _ _) R rv
/-- two ints -/
def ii (C : Int → Int → Bool) (g : Int → Int → PV) : P2 := fun p q => match p, q with
  | .int i, .int j => if C i j then some (g i j) else none
  | _, _ => none
theorem ii_some {C : Int → Int → Bool} {g : Int → Int → PV} {p q r : PV} (e : ii C g p q = some r) : ∃ i j, p = .int i ∧ q = .int j ∧ C i j = true ∧ r = g i j := by
  unfold ii at e
  split at e
  · rename_i i j
    split at e
    · rename_i h
      exact ⟨i, j, rfl, rfl, h, (Option.some.inj e).symm⟩
    · cases e
  · cases e
theorem rv_int_inv {K : PySem.W.Frag} {W : Wd} {H : Hp} {i : Int} {v : V} (r : RV K W H (.int i) v) : v = .int i := by unfold RV Rep at r; exact r
theorem rv_bl_inv {K : PySem.W.Frag} {W : Wd} {H : Hp} {i : Bool} {v : V} (r : RV K W H (.bl i) v) : v = .bl i := by unfold RV Rep at r; exact r
theorem rv_str_inv {K : PySem.W.Frag} {W : Wd} {H : Hp} {i : Str} {v : V} (r : RV K W H (.str i) v) : v = .str i := by unfold RV Rep at r; exact r
theorem rE_bl {K : PySem.W.Frag} {σ : L2.St} {W : Wd} {H : Hp} {s : DS} {i : Bool} : rE K σ W H s (.bl i) (.bl i) := rv_bl (K := K) (W := W) (H := H)
theorem rE_int {K : PySem.W.Frag} {σ : L2.St} {W : Wd} {H : Hp} {s : DS} {i : Int} : rE K σ W H s (.int i) (.int i) := rv_int (K := K) (W := W) (H := H)
theorem rE_bl_inv {K : PySem.W.Frag} {σ : L2.St} {W : Wd} {H : Hp} {s : DS} {i : Bool} {v : V} (r : rE K σ W H s (.bl i) v) : v = .bl i := rv_bl_inv (K := K) (W := W) (H := H) r
theorem rE_int_inv {K : PySem.W.Frag} {σ : L2.St} {W : Wd} {H : Hp} {s : DS} {i : Int} {v : V} (r : rE K σ W H s (.int i) v) : v = .int i := rv_int_inv (K := K) (W := W) (H := H) r
theorem rv_tup_inv {K : PySem.W.Frag} {W : Wd} {H : Hp} {c : Bool} {ps : List PV} {v : V} (r : RV K W H (.tup c ps) v) : ∃ a vs, v = .ref a ∧ SqT K H a vs ∧ RVs K W H ps vs := by
  obtain ⟨a, vs, e, h1, h2⟩ := rep_tup r
  exact ⟨a, vs, e, sqT_mono (msk_sub _ _) h1, h2⟩
theorem rv_lst_inv {K : PySem.W.Frag} {W : Wd} {H : Hp} {ps : List PV} {v : V} (r : RV K W H (.lst ps) v) : ∃ a vs, v = .ref a ∧ a ∉ W.L ∧ H a = some (.lst vs) ∧ RVs K W H ps vs := by
  unfold RV Rep at r
  obtain ⟨a, vs, e, h1, h2⟩ := r
  obtain ⟨h3, h4⟩ := msk_some.mp h1
  exact ⟨a, vs, e, h3, h4, h2⟩
theorem BinR.ints {f : Value → Value → Sem Value} {C' : Int → Int → Prop} {C : Int → Int → Bool} {g : Int → Int → V} {g' : Int → Int → PV} (o : OpR X f (rI C' g)) (hC : ∀ i j, C i j = true → C' i j) (hg : ∀ W H i j, RV X.K W H (g' i j) (g i j)) : BinR X f (p2 (ii C g')) :=
  BinR.plain o fun W H p q x y res Q rx ry e k => by
    obtain ⟨i, j, rfl, rfl, hc, rfl⟩ := ii_some e
    exact ⟨i, j, rv_int_inv rx, rv_int_inv ry, hC i j hc, k _ (hg W H i j)⟩
theorem BinR.ints0 {f : Value → Value → Sem Value} {g : Int → Int → V} {g' : Int → Int → PV} (o : OpR X f (rI0 g)) (hg : ∀ W H i j, RV X.K W H (g' i j) (g i j)) : BinR X f (p2 (ii (fun _ _ => true) g')) :=
  BinR.plain o fun W H p q x y res Q rx ry e k => by
    obtain ⟨i, j, rfl, rfl, hc, rfl⟩ := ii_some e
    exact ⟨i, j, rv_int_inv rx, rv_int_inv ry, k _ (hg W H i j)⟩
def subI : P2 := ii (fun _ _ => true) fun i j => .int (i - j)
theorem br_sub : BinR X (binaryOp .Sub) (p2 subI) := BinR.ints0 op_sub fun _ _ _ _ => rv_int
def fdivI : P2 := ii (fun _ j => decide (0 < j ∧ j < 1073741824)) fun i j => .int (i / j)
theorem br_fdiv : BinR X (binaryOp .FloorDiv) (p2 fdivI) := BinR.ints op_fdiv (fun i j h => show 0 < j ∧ j < 1073741824 from of_decide_eq_true h) fun _ _ _ _ => rv_int
def modI : P2 := ii (fun _ j => decide (0 < j)) fun i j => .int (i % j)
theorem br_mod : BinR X (binaryOp .Mod) (p2 modI) := BinR.ints op_mod (fun _ _ h => of_decide_eq_true h) fun _ _ _ _ => rv_int
def powI : P2 := ii (fun i j => decide (0 ≤ j ∧ j ≤ 1000000 ∧ i.natAbs < 2 ^ 64)) fun i j => .int (i ^ j.toNat)
theorem br_pow : BinR X (binaryOp .Pow) (p2 powI) := BinR.ints op_pow (fun i j h => show 0 ≤ j ∧ j ≤ 1000000 ∧ i.natAbs < 2 ^ 64 from of_decide_eq_true h) fun _ _ _ _ => rv_int
def mulI : P2 := ii (fun i j => decide ((-18446744073709551616 < i ∧ i < 18446744073709551616) ∨ (-18446744073709551616 < j ∧ j < 18446744073709551616))) fun i j => .int (i * j)
theorem br_mulI : BinR X (binaryOp .Mult) (p2 mulI) := BinR.ints op_mul (fun _ _ h => by
  have h := of_decide_eq_true h
  unfold CMul
  omega) fun _ _ _ _ => rv_int
def cmpI (c : Int → Int → Bool) : P2 := ii (fun _ _ => true) fun i j => .bl (c i j)
abbrev ltI : P2 := cmpI fun i j => decide (i < j)
abbrev leI : P2 := cmpI fun i j => decide (i ≤ j)
abbrev gtI : P2 := cmpI fun i j => decide (j < i)
abbrev geI : P2 := cmpI fun i j => decide (j ≤ i)
theorem br_lt : BinR X (compareOp .Lt) (p2 ltI) := BinR.ints0 op_lt fun _ _ _ _ => rv_bl
theorem br_le : BinR X (compareOp .LtE) (p2 leI) := BinR.ints0 op_le fun _ _ _ _ => rv_bl
theorem br_gt : BinR X (compareOp .Gt) (p2 gtI) := BinR.ints0 op_gt fun _ _ _ _ => rv_bl
theorem br_ge : BinR X (compareOp .GtE) (p2 geI) := BinR.ints0 op_ge fun _ _ _ _ => rv_bl
/-- == and != over data -/
def eqG (n : Bool) : P2 := fun p q => if okD p && okD q then some (.bl (n != eqD p q)) else none
theorem okD_data {p : PV} (h : okD p = true) : ∃ d, toD p = some d ∧ SeqAt.shaped d = true := by
  unfold okD at h
  split at h
  · rename_i d e
    exact ⟨d, e, h⟩
  · cases h
theorem eqG_some {n : Bool} {p q r : PV} (e : eqG n p q = some r) : ∃ d d', toD p = some d ∧ toD q = some d' ∧ SeqAt.shaped d = true ∧ SeqAt.shaped d' = true ∧ r = .bl (n != PyData.eqv d d') := by
  unfold eqG at e
  split at e
  · rename_i h
    rw [Bool.and_eq_true] at h
    obtain ⟨d, e1, s1⟩ := okD_data h.1
    obtain ⟨d', e2, s2⟩ := okD_data h.2
    refine ⟨d, d', e1, e2, s1, s2, ?_⟩
    rw [← Option.some.inj e]
    simp [eqD, e1, e2]
  · cases e
theorem br_eq (hu : X.A.units + 64 < cLine) : BinR X (compareOp .Eq) (p2 (eqG false)) := BinR.plain (op_eqD hu) fun W H p q x y res Q rx ry e k => by
  obtain ⟨d, d', e1, e2, s1, s2, rfl⟩ := eqG_some e
  refine ⟨d, d', rep_dp (msk_sub _ _) p x d rx e1, rep_dp (msk_sub _ _) q y d' ry e2, s1, s2, ?_⟩
  have := k (.bl (PyData.eqv d d')) (by simp only [Bool.false_bne]; exact rv_bl)
  exact this
theorem br_ne (hu : X.A.units + 64 < cLine) : BinR X (compareOp .NotEq) (p2 (eqG true)) := BinR.plain (op_neD hu) fun W H p q x y res Q rx ry e k => by
  obtain ⟨d, d', e1, e2, s1, s2, rfl⟩ := eqG_some e
  refine ⟨d, d', rep_dp (msk_sub _ _) p x d rx e1, rep_dp (msk_sub _ _) q y d' ry e2, s1, s2, ?_⟩
  have := k (.bl (!PyData.eqv d d')) (by simp only [Bool.true_bne]; exact rv_bl)
  exact this
/-- a + b -/
def addStr : P2 := fun p q => match p, q with
  | .str i, .str j => if lineOk (i.length + j.length) then some (.str (i ++ j)) else none
  | _, _ => none
theorem br_addStr : BinR X (binaryOp .Add) (p2 addStr) := BinR.plain op_add_str fun W H p q x y res Q rx ry e k => by
  unfold addStr at e
  split at e
  · rename_i i j
    split at e
    · rename_i h
      cases e
      exact ⟨i, j, rv_str_inv rx, rv_str_inv ry, of_decide_eq_true h, k _ rv_str⟩
    · cases e
  · cases e
def addI : P2 := ii (fun _ _ => true) fun i j => .int (i + j)
theorem br_addI : BinR X (binaryOp .Add) (p2 addI) := BinR.ints0 op_add fun _ _ _ _ => rv_int
def addL : B2 := fun p q => match p, q with
  | .lst a, .lst b => if lineOk (a.length + b.length) then some (.lst (a ++ b), true) else none
  | _, _ => none
theorem br_addL : BinR X (binaryOp .Add) addL := fun Z => by
  refine ⟨_, op_cat, fun W H s σ p q x y res Q R rx ry e po => ?_⟩
  unfold addL at e
  split at e
  · rename_i u w
    split at e
    · rename_i h
      cases e
      obtain ⟨a1, vs, rfl, n1, h1, g1⟩ := rv_lst_inv rx
      obtain ⟨a2, ws, rfl, n2, h2, g2⟩ := rv_lst_inv ry
      refine ⟨a1, a2, vs, ws, rfl, rfl, h1, h2, by rw [g1.len, g2.len]; exact of_decide_eq_true h, fun p hp => Post.newO R hp po ⟨_, upd_same, (Step.allocO hp (R.nP hp)).rvs (g1.app g2)⟩⟩
    · cases e
  · cases e
def addT : P2 := fun p q => match p, q with
  | .tup c a, .tup d b => if lineOk (a.length + b.length) then some (.tup (c || d) (a ++ b)) else none
  | _, _ => none
theorem br_addT : BinR X (binaryOp .Add) (p2 addT) := fun Z => by
  refine ⟨_, op_catA, fun W H s σ p q x y res Q R rx ry e po => ?_⟩
  simp only [p2, Option.map_eq_some_iff] at e
  obtain ⟨z, e, rfl⟩ := e
  unfold addT at e
  split at e
  · rename_i c u d w
    split at e
    · rename_i h
      cases e
      obtain ⟨a1, vs, e1, h1, g1⟩ := rv_tup_inv rx
      obtain ⟨a2, ws, e2, h2, g2⟩ := rv_tup_inv ry
      refine ⟨a1, a2, vs, ws, e1, e2, h1, h2, by rw [g1.len, g2.len]; exact of_decide_eq_true h, fun hz => ?_, fun _ hz => ?_, fun _ _ p hp => ?_⟩
      · have hu : u = [] := List.eq_nil_of_length_eq_zero (by rw [← g1.len, hz]; rfl)
        subst hu
        rw [← e2]
        exact po y W H (Step.refl _ _) R (rep_tup_up (c := d) (by intro h; rw [h]; exact Bool.or_true _) ry)
      · have hw : w = [] := List.eq_nil_of_length_eq_zero (by rw [← g2.len, hz]; rfl)
        subst hw
        rw [← e1]
        exact po x W H (Step.refl _ _) R (by rw [List.append_nil]; exact rep_tup_up (c := c) (by intro h; rw [h]; exact Bool.true_or _) rx)
      · obtain ⟨W1, st, R1, hL⟩ := R.newL hp
        exact po _ W1 _ (st.trans (Step.alloc hp (R1.nP hp))) (R1.alloc hp) (new_tup hp hL (st.rvs (g1.app g2)))
    · cases e
  · cases e
/-- a + b, all kinds -/
def addO : B2 := fun p q => (p2 addI p q).or ((addL p q).or ((p2 addT p q).or (p2 addStr p q)))
theorem br_add : BinR X (binaryOp .Add) addO := br_addI.or (br_addL.or (br_addT.or br_addStr))
def mulL : B2 := fun p q => match p, q with
  | .lst a, .int k => if decide (-9223372036854775808 ≤ k ∧ k < 9223372036854775808) && lineOk (a.length * k.toNat) then some (.lst (List.replicate k.toNat a).flatten, true) else none
  | _, _ => none
theorem reps_rep {K : PySem.W.Frag} {cs : List Addr} {H : Hp} {ps : List PV} {vs : List V} (r : Reps K cs H ps vs) : ∀ n : Nat, Reps K cs H (List.replicate n ps).flatten (List.replicate n vs).flatten
  | 0 => reps_nil
  | n + 1 => by
    simp only [List.replicate_succ, List.flatten_cons]
    exact r.app (reps_rep r n)
theorem br_mulL : BinR X (binaryOp .Mult) mulL := fun Z => by
  refine ⟨_, op_rep, fun W H s σ p q x y res Q R rx ry e po => ?_⟩
  unfold mulL at e
  split at e
  · rename_i u k
    split at e
    · rename_i h
      cases e
      simp only [Bool.and_eq_true, decide_eq_true_eq] at h
      obtain ⟨a1, vs, rfl, n1, h1, g1⟩ := rv_lst_inv rx
      refine ⟨a1, k, vs, rfl, rv_int_inv ry, h1, by omega, by omega, by rw [g1.len]; exact of_decide_eq_true h.2, fun p hp => Post.newO R hp po ⟨_, upd_same, (Step.allocO hp (R.nP hp)).rvs (reps_rep g1 _)⟩⟩
    · cases e
  · cases e
def mulO : B2 := fun p q => (p2 mulI p q).or (mulL p q)
theorem br_mul : BinR X (binaryOp .Mult) mulO := br_mulI.or br_mulL
/-- is None, is not None; is of truth values -/
def isG (n : Bool) : P2 := fun p q => match p, q with
  | .bl a, .bl b => some (.bl (n != decide (a = b)))
  | .non, .non => some (.bl (!n))
  | .bl _, .non => some (.bl n) | .int _, .non => some (.bl n) | .str _, .non => some (.bl n) | .tup _ _, .non => some (.bl n) | .lst _, .non => some (.bl n) | .dK _, .non => some (.bl n) | .dT _, .non => some (.bl n)
  | _, _ => none
theorem isG_non {n : Bool} {p r : PV} {K : PySem.W.Frag} {W : Wd} {H : Hp} {x : V} (rx : RV K W H p x) (e : isG n p .non = some r) : r = .bl (n != decide (x = .non)) := by
  cases p <;> simp only [isG, Option.some.injEq] at e <;> (try cases e) <;> unfold RV Rep at rx
  · subst rx; cases n <;> rfl
  · subst rx; cases n <;> rfl
  · subst rx; cases n <;> rfl
  · subst rx; cases n <;> rfl
  · obtain ⟨a, vs, rfl, _⟩ := rx; cases n <;> rfl
  · obtain ⟨a, vs, rfl, _⟩ := rx; cases n <;> rfl
  · obtain ⟨a, vs, rfl, _⟩ := rx; cases n <;> rfl
  · obtain ⟨a, vs, rfl, _⟩ := rx; cases n <;> rfl
theorem isG_bl {n : Bool} {r : PV} {a b : Bool} (e : isG n (.bl a) (.bl b) = some r) : r = .bl (n != decide (a = b)) := by
  simp only [isG, Option.some.injEq] at e
  exact e.symm
theorem br_is : BinR X (compareOp .Is) (p2 (isG false)) := BinR.plain (OpR_or op_isN op_is_bl) fun W H p q x y res Q rx ry e k => by
  cases q with
  | non =>
    have hy : y = .non := by unfold RV Rep at ry; exact ry
    have hr := isG_non rx e
    subst hr
    exact .inl ⟨hy, k _ (by simp only [Bool.false_bne]; exact rv_bl)⟩
  | bl b =>
    cases p with
    | bl a =>
      have hr := isG_bl e
      subst hr
      exact .inr ⟨a, b, rv_bl_inv rx, rv_bl_inv ry, k _ (by simp only [Bool.false_bne]; exact rv_bl)⟩
    | _ => simp [isG] at e
  | _ => cases p <;> simp [isG] at e
theorem br_isnot : BinR X (compareOp .IsNot) (p2 (isG true)) := BinR.plain (OpR_or op_notN op_isnot_bl) fun W H p q x y res Q rx ry e k => by
  cases q with
  | non =>
    have hy : y = .non := by unfold RV Rep at ry; exact ry
    have hr := isG_non rx e
    subst hr
    exact .inl ⟨hy, k _ (by simp only [Bool.true_bne]; exact rv_bl)⟩
  | bl b =>
    cases p with
    | bl a =>
      have hr := isG_bl e
      subst hr
      exact .inr ⟨a, b, rv_bl_inv rx, rv_bl_inv ry, k _ (by simp only [Bool.true_bne]; exact rv_bl)⟩
    | _ => simp [isG] at e
  | _ => cases p <;> simp [isG] at e
/-! ### truth values -/
def toB (p : PV) (s : DS) : Re Bool := match p with
  | .bl b => .ok b s
  | _ => .bad
def testE (f : EM) : TM := fun s => (f s).bind toB
theorem toB_post {K : PySem.W.Frag} {W : Wd} {H : Hp} {s : DS} {σ : L2.St} {p : PV} {v : V} {Q : Bool → Hp → Prop} (R : RSt K W H s σ) (r : RV K W H p v) (q : Post rT K Z σ W H (toB p s) Q) : ∃ c, v = .bl c ∧ Q c H := by
  unfold toB at q
  split at q
  · rename_i b
    exact ⟨b, rv_bl_inv r, q b W H (Step.refl _ _) R rfl⟩
  · exact q.elim
theorem tT_test {f : EM} (σ : L2.St) (H : Hp) (Q : Bool → Hp → Prop) (h : tT X.K Z (testE f) σ H Q) : tB (tE X.K Z f) σ H Q := by
  obtain ⟨W, s, R, h⟩ := h
  exact ⟨W, s, R, Post.bind h fun p s1 x W1 H1 _ st R1 rx q => toB_post R1 rx q⟩
theorem pt_of {e : Expr} {f : EM} (h : PX X Z e f) (he : ∀ whole, isTrue e X.env whole = (do let v ← whole; standAt e.pos; holding [v] (truthy v)) := by intro _; rfl) : PTX X Z e (testE f) := ⟨PT_imp (L2.pt_val h.pe he) fun σ H Q h => tT_test σ H Q h⟩
theorem pt_cmp {op : CmpOp} {g : P2} (hg : BinR X (compareOp op) (p2 g)) (ha : PX X Z a fa) (hb : PX X Z b fb) (hm : behindInMarks op b = false := by first | exact nomark _ | rfl | with_unfolding_all rfl) : PTX X Z (.Compare a [op] [b] pos) (testE (binE g fa fb)) := by
  obtain ⟨r, o, k⟩ := hg Z
  refine ⟨PT_imp (L2.pt_cmpR o ha.pe hb.pe hm) fun σ H Q h => ?_⟩
  obtain ⟨W, s, R, h⟩ := h
  refine tO_bin k σ H _ ⟨W, s, R, ?_⟩
  unfold testE binE plainE at h
  cases e : binO (p2 g) fa fb s with
  | ok z s1 =>
    rw [e] at h
    intro v W1 H1 st R1 ro
    obtain ⟨p, fr⟩ := z
    obtain ⟨W2, st2, R2, rv⟩ := rO_demote R1 ro
    exact toB_post R2 rv (Post.step h (st.trans st2))
  | exc x s1 => rw [e] at h; exact h
  | bad => rw [e] at h; exact h
/-- a op b op' c -/
def chainE (g g' : P2) (fa fb fc : EM) : EM := fun s => (fa s).bind fun p s1 => (fb s1).bind fun q s2 => match g p q with
  | some (.bl true) => (fc s2).bind fun r s3 => match g' q r with
    | some z => .ok z s3
    | none => .bad
  | some (.bl false) => .ok (.bl false) s2
  | _ => .bad
theorem tE_chain {g g' : P2} {r r' : R2} {fc : EM} (k : ∀ (W : Wd) (H : Hp) (s : DS) (σ : L2.St) (p q : PV) (x y : V) (res : PV × Bool) (Q : VK), RSt X.K W H s σ → RV X.K W H p x → RV X.K W H q y → p2 g p q = some res → Post rO X.K Z σ W H (.ok res s) Q → r x y H Q)
    (k' : ∀ (W : Wd) (H : Hp) (s : DS) (σ : L2.St) (p q : PV) (x y : V) (res : PV × Bool) (Q : VK), RSt X.K W H s σ → RV X.K W H p x → RV X.K W H q y → p2 g' p q = some res → Post rO X.K Z σ W H (.ok res s) Q → r' x y H Q)
    (σ : L2.St) (H : Hp) (Q : VK) (h : tE X.K Z (chainE g g' fa fb fc) σ H Q) : tChain r r' (tE X.K Z fa) (tE X.K Z fb) (tE X.K Z fc) σ H Q := by
  obtain ⟨W, s, R, h⟩ := h
  refine ⟨W, s, R, Post.bind h fun p s1 x W1 H1 _ st R1 rx q => ⟨W1, s1, R1, Post.bind q fun p2 s2 y W2 H2 _ st2 R2 ry q2 => ?_⟩⟩
  cases e : g p p2 with
  | none => simp only [e] at q2; exact q2.elim
  | some z =>
    refine k W2 H2 s2 σ p p2 x y (z, false) _ R2 (st2.rv rx) ry (by simp [DR.p2, e]) fun v W3 H3 st3 R3 rz => ?_
    have rz : RV X.K W3 H3 z v := rz
    cases z with
    | bl c =>
      simp only [e] at q2
      refine ⟨c, rv_bl_inv rz, ?_⟩
      cases c with
      | true =>
        rw [if_pos rfl]
        refine ⟨W3, s2, R3, Post.bind (Post.step q2 st3) fun p3 s4 w W4 H4 _ st4 R4 rw' q4 => ?_⟩
        cases e4 : g' p2 p3 with
        | none => simp only [e4] at q4; exact q4.elim
        | some z4 =>
          simp only [e4] at q4
          exact k' W4 H4 s4 σ p2 p3 y w (z4, false) Q R4 ((st3.trans st4).rv ry) rw' (by simp [DR.p2, e4]) q4
      | false =>
        rw [if_neg (by decide)]
        exact Post.step q2 st3 _ W3 H3 (Step.refl _ _) R3 rE_bl
    | _ => simp only [e] at q2; exact q2.elim
theorem px_chain {op op' : CmpOp} {g g' : P2} {c : Expr} {fc : EM} (hg : BinR X (compareOp op) (p2 g)) (hg' : BinR X (compareOp op') (p2 g')) (ha : PX X Z a fa) (hb : PX X Z b fb) (hc : PX X Z c fc) (hm : lastMarks [op, op'] [b, c] = false := by with_unfolding_all rfl) :
    PX X Z (.Compare a [op, op'] [b, c] pos) (chainE g g' fa fb fc) := by
  obtain ⟨r, o, k⟩ := hg Z
  obtain ⟨r', o', k'⟩ := hg' Z
  exact ⟨PE_imp (L2.pe_chain o o' ha.pe hb.pe hc.pe hm) fun σ H Q h => tE_chain k k' σ H Q h⟩
theorem pt_chain {op op' : CmpOp} {g g' : P2} {c : Expr} {fc : EM} (hg : BinR X (compareOp op) (p2 g)) (hg' : BinR X (compareOp op') (p2 g')) (ha : PX X Z a fa) (hb : PX X Z b fb) (hc : PX X Z c fc) (hm : lastMarks [op, op'] [b, c] = false := by with_unfolding_all rfl) :
    PTX X Z (.Compare a [op, op'] [b, c] pos) (testE (chainE g g' fa fb fc)) := by
  obtain ⟨r, o, k⟩ := hg Z
  obtain ⟨r', o', k'⟩ := hg' Z
  refine ⟨PT_imp (L2.pt_chain o o' ha.pe hb.pe hc.pe hm) fun σ H Q h => ?_⟩
  obtain ⟨W, s, R, h⟩ := h
  refine tE_chain k k' σ H _ ⟨W, s, R, Post.bind (R := rE) h fun p s1 v W1 H1 _ st R1 rv q => toB_post R1 rv q⟩
/-! ### and, or, not, if .. else -/
def andE (f g : EM) : EM := fun s => (f s).bind fun p s1 => match p with
  | .bl true => g s1
  | .bl false => .ok (.bl false) s1
  | _ => .bad
def orE (f g : EM) : EM := fun s => (f s).bind fun p s1 => match p with
  | .bl true => .ok (.bl true) s1
  | .bl false => g s1
  | _ => .bad
def notE (f : EM) : EM := fun s => (f s).bind fun p s1 => match p with
  | .bl b => .ok (.bl (!b)) s1
  | _ => .bad
def andT (f g : TM) : TM := fun s => (f s).bind fun b s1 => if b = true then g s1 else .ok false s1
def orT (f g : TM) : TM := fun s => (f s).bind fun b s1 => if b = true then .ok true s1 else g s1
def notT (f : TM) : TM := fun s => (f s).bind fun b s1 => .ok (!b) s1
def ifE (t : TM) (f g : EM) : EM := fun s => (t s).bind fun b s1 => if b = true then f s1 else g s1
def ifO (t : TM) (f g : OM) : OM := fun s => (t s).bind fun b s1 => if b = true then f s1 else g s1
variable {rest : List Expr} {ta tb : TM}
theorem px_one {op : BoolOp} (h : PX X Z a fa) : PX X Z (.BoolOp op [a] pos) fa := ⟨L2.pe_one h.pe⟩
theorem px_and (ha : PX X Z a fa) (hb : PX X Z (.BoolOp .And (b :: rest) pos) fb) : PX X Z (.BoolOp .And (a :: b :: rest) pos) (andE fa fb) := by
  refine ⟨PE_imp (L2.pe_and ha.pe hb.pe) fun σ H Q h => ?_⟩
  obtain ⟨W, s, R, h⟩ := h
  refine ⟨W, s, R, Post.bind h fun p s1 x W1 H1 _ st R1 rx q => ?_⟩
  cases p with
  | bl c =>
    refine ⟨c, rE_bl_inv rx, ?_⟩
    cases c with
    | true => rw [if_pos rfl]; exact ⟨W1, s1, R1, q⟩
    | false => rw [if_neg (by decide)]; exact q _ W1 H1 (Step.refl _ _) R1 rE_bl
  | _ => exact q.elim
theorem px_or (ha : PX X Z a fa) (hb : PX X Z (.BoolOp .Or (b :: rest) pos) fb) : PX X Z (.BoolOp .Or (a :: b :: rest) pos) (orE fa fb) := by
  refine ⟨PE_imp (L2.pe_or ha.pe hb.pe) fun σ H Q h => ?_⟩
  obtain ⟨W, s, R, h⟩ := h
  refine ⟨W, s, R, Post.bind h fun p s1 x W1 H1 _ st R1 rx q => ?_⟩
  cases p with
  | bl c =>
    refine ⟨c, rE_bl_inv rx, ?_⟩
    cases c with
    | true => rw [if_pos rfl]; exact q _ W1 H1 (Step.refl _ _) R1 rE_bl
    | false => rw [if_neg (by decide)]; exact ⟨W1, s1, R1, q⟩
  | _ => exact q.elim
theorem px_not (ha : PX X Z a fa) : PX X Z (.UnaryOp .Not a pos) (notE fa) := by
  refine ⟨PE_imp (L2.pe_not ha.pe) fun σ H Q h => ?_⟩
  obtain ⟨W, s, R, h⟩ := h
  refine ⟨W, s, R, Post.bind h fun p s1 x W1 H1 _ st R1 rx q => ?_⟩
  cases p with
  | bl c => exact ⟨c, rE_bl_inv rx, q _ W1 H1 (Step.refl _ _) R1 rE_bl⟩
  | _ => exact q.elim
structure PWX (X : Cx) (Z : WX) (e : Expr) (f : TM) : Prop where
  pw : PW X e (tT X.K Z f)
theorem pw_lastA (ha : PTX X Z a ta) : PWX X Z (.BoolOp .And [a] pos) ta := ⟨L2.pw_and1 ha.pt⟩
theorem pw_lastO (ha : PTX X Z a ta) : PWX X Z (.BoolOp .Or [a] pos) ta := ⟨L2.pw_or1 ha.pt⟩
theorem pw_andX (ha : PTX X Z a ta) (hb : PWX X Z (.BoolOp .And (b :: rest) pos) tb) : PWX X Z (.BoolOp .And (a :: b :: rest) pos) (andT ta tb) := by
  refine ⟨PW_imp (L2.pw_and ha.pt hb.pw) fun σ H Q h => ?_⟩
  obtain ⟨W, s, R, h⟩ := h
  refine ⟨W, s, R, Post.bind h fun p s1 x W1 H1 _ st R1 rx q => ?_⟩
  obtain rfl : x = p := rx
  cases x with
  | true => rw [if_pos rfl]; exact ⟨W1, s1, R1, q⟩
  | false => rw [if_neg (by decide)]; exact q _ W1 H1 (Step.refl _ _) R1 rfl
theorem pw_orX (ha : PTX X Z a ta) (hb : PWX X Z (.BoolOp .Or (b :: rest) pos) tb) : PWX X Z (.BoolOp .Or (a :: b :: rest) pos) (orT ta tb) := by
  refine ⟨PW_imp (L2.pw_or ha.pt hb.pw) fun σ H Q h => ?_⟩
  obtain ⟨W, s, R, h⟩ := h
  refine ⟨W, s, R, Post.bind h fun p s1 x W1 H1 _ st R1 rx q => ?_⟩
  obtain rfl : x = p := rx
  cases x with
  | true => rw [if_pos rfl]; exact q _ W1 H1 (Step.refl _ _) R1 rfl
  | false => rw [if_neg (by decide)]; exact ⟨W1, s1, R1, q⟩
theorem pt_w {e : Expr} {t : TM} (h : PWX X Z e t) : PTX X Z e t := ⟨h.pw.pt⟩
theorem pt_notX (ha : PTX X Z a ta) : PTX X Z (.UnaryOp .Not a pos) (notT ta) := by
  refine ⟨PT_imp (L2.pt_not ha.pt) fun σ H Q h => ?_⟩
  obtain ⟨W, s, R, h⟩ := h
  refine ⟨W, s, R, Post.bind h fun p s1 x W1 H1 _ st R1 rx q => ?_⟩
  obtain rfl : x = p := rx
  exact q _ W1 H1 (Step.refl _ _) R1 rfl
theorem px_if {c : Expr} (hc : PTX X Z c ta) (ha : PX X Z a fa) (hb : PX X Z b fb) : PX X Z (.IfExp c a b pos) (ifE ta fa fb) := by
  refine ⟨PE_imp (L2.pe_ifExp hc.pt ha.pe hb.pe) fun σ H Q h => ?_⟩
  obtain ⟨W, s, R, h⟩ := h
  refine ⟨W, s, R, Post.bind h fun p s1 x W1 H1 _ st R1 rx q => ?_⟩
  obtain rfl : x = p := rx
  cases x with
  | true => rw [if_pos rfl] at q ⊢; exact ⟨W1, s1, R1, q⟩
  | false => rw [if_neg (by decide)] at q ⊢; exact ⟨W1, s1, R1, q⟩
theorem po_if {c : Expr} {ga gb : OM} (hc : PTX X Z c ta) (ha : PO X Z a ga) (hb : PO X Z b gb) : PO X Z (.IfExp c a b pos) (ifO ta ga gb) := by
  refine ⟨PE_imp (L2.pe_ifExp hc.pt ha.pe hb.pe) fun σ H Q h => ?_⟩
  obtain ⟨W, s, R, h⟩ := h
  refine ⟨W, s, R, Post.bind h fun p s1 x W1 H1 _ st R1 rx q => ?_⟩
  obtain rfl : x = p := rx
  cases x with
  | true => rw [if_pos rfl] at q ⊢; exact ⟨W1, s1, R1, q⟩
  | false => rw [if_neg (by decide)] at q ⊢; exact ⟨W1, s1, R1, q⟩
/-- -a -/
def negE (f : EM) : EM := fun s => (f s).bind fun p s1 => match p with
  | .int i => .ok (.int (-i)) s1
  | _ => .bad
theorem px_neg (ha : PX X Z a fa) : PX X Z (.UnaryOp .USub a pos) (negE fa) := by
  refine ⟨PE_imp (L2.pe_un un_neg ha.pe) fun σ H Q h => ?_⟩
  obtain ⟨W, s, R, h⟩ := h
  refine ⟨W, s, R, Post.bind h fun p s1 x W1 H1 _ st R1 rx q => ?_⟩
  cases p with
  | int c => exact ⟨c, rE_int_inv rx, q _ W1 H1 (Step.refl _ _) R1 rE_int⟩
  | _ => exact q.elim
end
end DR
/-! DR: statements, targets, loops, comprehensions. -/
namespace DR
open PySem PySem.Spec PyProof.Rows L2
section
variable {X : Cx} {Z : WX} {e : Expr} {f : EM} {g : OM} {st : Stmt} {rest : List Stmt} {u v : SM} {pos : Pos}
/-! ### blocks and small statements -/
def nextS : SM := fun s => .ok .nx s
def seqS (u v : SM) : SM := fun s => (u s).bind fun fl s1 => match fl with
  | .nx => v s1
  | o => .ok o s1
def retS (g : OM) : SM := fun s => (g s).bind fun p s1 => .ok (.rt p.1 p.2) s1
def retN : SM := fun s => .ok (.rt .non false) s
def exprS (f : EM) : SM := fun s => (f s).bind fun _ s1 => .ok .nx s1
def ifS (t : TM) (u v : SM) : SM := fun s => (t s).bind fun b s1 => if b = true then u s1 else v s1
def badS : SM := fun _ => .bad
theorem ss_nil : PSsX X Z [] nextS := ⟨PSs_imp L2.pss_nil fun D σ H ⟨W, s, R, h⟩ => h σ W H (Step.refl _ _) R⟩
theorem ss_cons (h1 : PSX X Z st u) (h2 : PSsX X Z rest v) : PSsX X Z (st :: rest) (seqS u v) := by
  refine ⟨PSs_imp (L2.pss_cons h1.ps h2.ps) fun D σ H ⟨W, s, R, h⟩ => ⟨W, s, R, ?_⟩⟩
  unfold seqS at h
  cases e : u s with
  | ok fl s1 =>
    rw [e] at h
    cases fl with
    | nx => exact fun σ' W' H' st' R' => ⟨W', s1, R', PostS.step h st'⟩
    | rt p fr => exact h
    | bk => exact h
    | ct => exact h
  | exc x s1 => rw [e] at h; exact h
  | bad => rw [e] at h; exact h
theorem ss_one (h1 : PSX X Z st u) : PSsX X Z [st] u := ⟨L2.pss_one h1.ps⟩
theorem ps_passX : PSX X Z (.Pass pos) nextS := ⟨PS_imp L2.ps_pass fun D σ H ⟨W, s, R, h⟩ => h σ W H (Step.refl _ _) R⟩
theorem ps_breakX : PSX X Z (.Break pos) (fun s => .ok .bk s) := ⟨PS_imp L2.ps_break fun D σ H ⟨W, s, R, h⟩ => h σ W H (Step.refl _ _) R⟩
theorem ps_contX : PSX X Z (.Continue pos) (fun s => .ok .ct s) := ⟨PS_imp L2.ps_continue fun D σ H ⟨W, s, R, h⟩ => h σ W H (Step.refl _ _) R⟩
theorem ps_badX : PSX X Z st badS := ⟨PS_imp L2.ps_never fun D σ H ⟨W, s, R, h⟩ => h.elim⟩
theorem ps_exprX (he : PX X Z e f) (hs : swapsWith e none pos.line X.env = pure false := by rfl) : PSX X Z (.Expr e pos) (exprS f) :=
  ⟨PS_imp (L2.ps_expr he.pe hs) fun D σ H ⟨W, s, R, h⟩ => ⟨W, s, R, PostS.bindE h fun p s1 x W1 H1 _ st R1 rx q => q σ W1 H1 (Step.refl _ _) R1⟩⟩
theorem ps_retX (he : PO X Z e g) : PSX X Z (.Return (some e) pos) (retS g) :=
  ⟨PS_imp (L2.ps_ret he.pe) fun D σ H ⟨W, s, R, h⟩ => ⟨W, s, R, PostS.bindE h fun p s1 x W1 H1 _ st R1 rx q => q σ x W1 H1 (Step.refl _ _) R1 rx⟩⟩
theorem ps_retNX : PSX X Z (.Return none pos) retN := ⟨PS_imp L2.ps_retN fun D σ H ⟨W, s, R, h⟩ => h σ .non W H (Step.refl _ _) R (show RV X.K W H .non .non from rv_non)⟩
theorem ps_ifX {c : Expr} {a b : List Stmt} {t : TM} (hc : PTX X Z c t) (ha : PSsX X Z a u) (hb : PSsX X Z b v) : PSX X Z (.If c a b pos) (ifS t u v) := by
  refine ⟨PS_imp (L2.ps_if hc.pt ha.ps hb.ps) fun D σ H ⟨W, s, R, h⟩ => ⟨W, s, R, PostS.bindE h fun p s1 x W1 H1 _ st R1 rx q => ?_⟩⟩
  obtain rfl : x = p := rx
  cases x with
  | true => rw [if_pos rfl] at q ⊢; exact ⟨W1, s1, R1, q⟩
  | false => rw [if_neg (by decide)] at q ⊢; exact ⟨W1, s1, R1, q⟩
/-! ### stores -/
def putSl (p : PV × Bool) : Sl := if p.2 = true then .own p.1 else .val p.1
def setS (i : Nat) (g : OM) : SM := fun s => (g s).bind fun p s1 => .ok .nx ⟨s1.e.set i (putSl p), s1.t⟩
theorem RSt.put {K : PySem.W.Frag} {W : Wd} {H : Hp} {s : DS} {σ : L2.St} (R : RSt K W H s σ) {i : Nat} {p : PV × Bool} {x : V} (r : rO K σ W H s p x) : RSt K W H ⟨s.e.set i (putSl p), s.t⟩ (σ.set i (some x)) := by
  obtain ⟨p, fr⟩ := p
  cases fr with
  | true => exact R.seto (show Own K σ W H s p x from r)
  | false => exact R.setv (show RV K W H p x from r)
theorem ps_setX (i : Nat) {x : Str} {pos' : Pos} (hN : X.N.Nodup) (he : PO X Z e g) (hi : X.N[i]? = some x := by rfl) (hx : Loc X.env.scope x := by first | exact Or.inl rfl | exact Or.inr rfl) (hs : swapsWith e (some (.Name x pos')) pos.line X.env = pure false := by rfl)
    (hf : X.fn x = true ∨ X.env.scope.names.lookup x = some .local := by first | exact .inl rfl | exact .inr rfl) : PSX X Z (.Assign [.Name x pos'] e pos) (setS i g) :=
  ⟨PS_imp (L2.ps_set hN hi hx he.pe hs hf) fun D σ H ⟨W, s, R, h⟩ => ⟨W, s, R, PostS.bindE h fun p s1 y W1 H1 _ st R1 ry q => q _ W1 H1 (Step.refl _ _) (R1.put ry)⟩⟩
/-- a, b = x, y over two plain locals: both are reckoned first -/
def setS2 (i j : Nat) (f g : EM) : SM := fun s => (f s).bind fun p s1 => (g s1).bind fun q s2 => .ok .nx ⟨(s2.e.set i (.val p)).set j (.val q), s2.t⟩
theorem ps_setX2 {i j : Nat} {x y : Str} {a b : Expr} {fa fb : EM} {px py pt : Pos} {kt k2 pt2} (hc : X.calm = true) (hN : X.N.Nodup) (hi : X.N[i]? = some x) (hj : X.N[j]? = some y) (hij : i ≠ j)
    (hx : X.env.scope.names.lookup x = some .local) (hy : X.env.scope.names.lookup y = some .local) (ha : PX X Z a fa) (hb : PX X Z b fb) (hst : starEach [a, b] X.env = (false, eval a X.env) :: starEach [b] X.env := by rfl) (hst2 : starEach [b] X.env = (false, eval b X.env) :: starEach [] X.env := by rfl)
    (hw : swappedStores [.Tuple [.Name x px, .Name y py] kt pt] (.Tuple [a, b] k2 pt2) X.env = pure (some [x, y]) := by rfl)
    (hs : swapsWithSole [.Tuple [.Name x px, .Name y py] kt pt] (.Tuple [a, b] k2 pt2) pos.line X.env = pure false := by rfl) :
    PSX X Z (.Assign [.Tuple [.Name x px, .Name y py] kt pt] (.Tuple [a, b] k2 pt2) pos) (setS2 i j fa fb) := by
  refine ⟨PS_imp (L2.ps_par hc hN hi hj hij hx hy (pa_consX ha (pa_consX hb pa_nilX hst2) hst).pa hw hs) fun D σ H ⟨W, s, R, h⟩ => ⟨W, s, R, ?_⟩⟩
  show Post rA X.K Z σ W H (consA fa (consA fb nilA) s) _
  unfold setS2 at h
  unfold consA nilA
  cases e1 : fa s with
  | bad => rw [e1] at h; exact h
  | exc x s1 => rw [e1] at h; exact fun d W' H' st' R' xr => h σ d W' H' st' R' xr
  | ok p s1 =>
    rw [e1] at h
    cases e2 : fb s1 with
    | bad => simp only [Re.bind, e2] at h; exact h.elim
    | exc x s2 => simp only [Re.bind, e2] at h ⊢; exact fun d W' H' st' R' xr => h σ d W' H' st' R' xr
    | ok q s2 =>
      simp only [Re.bind, e2] at h ⊢
      intro vs W' H' st' R' rv
      have rv : Reps X.K W'.S (W'.m H') [p, q] vs := rv
      unfold Reps at rv
      obtain ⟨v1, r1, rfl, a1, rv⟩ := rv
      unfold Reps at rv
      obtain ⟨v2, r2, rfl, a2, rv⟩ := rv
      unfold Reps at rv
      subst rv
      exact ⟨v1, v2, rfl, h _ W' H' st' ((R'.setv (i := i) a1).setv (i := j) a2)⟩
/-- targets -/
inductive Tg where
  | nm (i : Nat) | tp (ts : List Tg)
mutual
def asgT : Tg → PV → DE → Option DE
  | .nm i, p, e => some (e.set i (.val p))
  | .tp ts, .tup _ ps, e => asgTs ts ps e
  | .tp _, _, _ => none
def asgTs : List Tg → List PV → DE → Option DE
  | [], [], e => some e
  | t :: ts, p :: ps, e => match asgT t p e with
    | some e' => asgTs ts ps e'
    | none => none
  | _, _, _ => none
end
mutual
def tgIn : Tg → List Nat → Bool
  | .nm i, vs => decide (i ∈ vs)
  | .tp ts, vs => tgsIn ts vs
def tgsIn : List Tg → List Nat → Bool
  | [], _ => true
  | t :: ts, vs => tgIn t vs && tgsIn ts vs
end
theorem wipe_get (σ : L2.St) (j : Nat) : ∀ vs : List Nat, (wipe σ vs)[j]? = if j ∈ vs then σ[j]?.map (fun _ => none) else σ[j]?
  | [] => by simp [wipe]
  | v :: vs => by
    unfold wipe
    by_cases h : v = j
    · subst h
      rw [if_pos List.mem_cons_self]
      by_cases hv : v < σ.length
      · rw [List.getElem?_set_self (by rw [wipe_length]; exact hv), List.getElem?_eq_getElem hv]
        rfl
      · rw [List.getElem?_eq_none (by rw [List.length_set, wipe_length]; omega), List.getElem?_eq_none (by omega)]
        rfl
    · rw [List.getElem?_set_ne h, wipe_get σ j vs]
      by_cases hj : j ∈ vs
      · rw [if_pos hj, if_pos (List.mem_cons_of_mem _ hj)]
      · rw [if_neg hj, if_neg (by simp [hj, Ne.symm h])]
theorem wipe_set {σ : L2.St} {i : Nat} {x : Option V} {vs : List Nat} (h : i ∈ vs) : wipe (σ.set i x) vs = wipe σ vs := by
  refine List.ext_getElem? fun j => ?_
  rw [wipe_get, wipe_get]
  by_cases hj : j = i
  · subst hj
    rw [if_pos h, if_pos h]
    by_cases hv : j < σ.length
    · rw [List.getElem?_set_self hv, List.getElem?_eq_getElem hv]
      rfl
    · rw [List.getElem?_eq_none (by rw [List.length_set]; omega), List.getElem?_eq_none (by omega)]
  · rw [List.getElem?_set_ne (Ne.symm hj)]
def gX (K : PySem.W.Frag) (t : Tg) : TG := fun v σ H Q => ∃ W s p, RSt K W H s σ ∧ RV K W H p v ∧ ∃ e', asgT t p s.e = some e' ∧ ∀ σ', (∀ vs, tgIn t vs = true → wipe σ' vs = wipe σ vs) → RSt K W H ⟨e', s.t⟩ σ' → Q σ' H
def gsX (K : PySem.W.Frag) (t : List Tg) : TGs := fun vs σ H Q => ∃ W s ps, RSt K W H s σ ∧ RVs K W H ps vs ∧ ∃ e', asgTs t ps s.e = some e' ∧ ∀ σ', (∀ vs, tgsIn t vs = true → wipe σ' vs = wipe σ vs) → RSt K W H ⟨e', s.t⟩ σ' → Q σ' H
structure PGX (X : Cx) (e : Expr) (t : Tg) : Prop where
  pg : PG X e (gX X.K t)
structure PGsX (X : Cx) (es : List Expr) (t : List Tg) : Prop where
  pgs : PGs X es (gsX X.K t)
theorem PG_imp {X : Cx} {e : Expr} {t t' : TG} (h : PG X e t) (i : ∀ v σ H Q, t' v σ H Q → t v σ H Q) : PG X e t' := ⟨fun pins s σ H v u Q I r q => h.run pins s σ H v u Q I r (i v σ H Q q)⟩
theorem PGs_imp {X : Cx} {e : List Expr} {t t' : TGs} (h : PGs X e t) (i : ∀ v σ H Q, t' v σ H Q → t v σ H Q) : PGs X e t' := ⟨fun pins s σ H v u Q I r q => h.run pins s σ H v u Q I r (i v σ H Q q)⟩
theorem g_nm (i : Nat) {x : Str} {pos : Pos} (hN : X.N.Nodup) (hi : X.N[i]? = some x := by rfl) (hx : Loc X.env.scope x := by first | exact Or.inl rfl | exact Or.inr rfl) (hf : X.fn x = true ∨ X.env.scope.names.lookup x = some .local := by first | exact .inl rfl | exact .inr rfl) : PGX X (.Name x pos) (.nm i) := by
  refine ⟨PG_imp (L2.pg_name hN hi hx hf) fun v σ H Q ⟨W, s, p, R, rv, e', he, k⟩ => ?_⟩
  simp only [asgT, Option.some.injEq] at he
  subst he
  exact k _ (fun vs hv => wipe_set (of_decide_eq_true hv)) (R.setv rv)
theorem gs_nil : PGsX X [] [] := by
  refine ⟨PGs_imp L2.pgs_nil fun v σ H Q ⟨W, s, p, R, rv, e', he, k⟩ => ?_⟩
  cases p with
  | nil =>
    simp only [asgTs, Option.some.injEq] at he
    subst he
    unfold RVs Reps at rv
    exact ⟨rv, k σ (fun _ _ => rfl) R⟩
  | cons a b => simp [asgTs] at he
theorem gs_cons {e : Expr} {es : List Expr} {t : Tg} {ts : List Tg} (h1 : PGX X e t) (h2 : PGsX X es ts) (hs : (assignEach (e :: es) X.env).map (·.2) = assign e X.env :: (assignEach es X.env).map (·.2) := by rfl) : PGsX X (e :: es) (t :: ts) := by
  refine ⟨PGs_imp (L2.pgs_cons h1.pg h2.pgs hs) fun v σ H Q ⟨W, s, p, R, rv, e', he, k⟩ => ?_⟩
  cases p with
  | nil => simp [asgTs] at he
  | cons a b =>
    simp only [asgTs] at he
    cases e1 : asgT t a s.e with
    | none => rw [e1] at he; cases he
    | some e2 =>
      rw [e1] at he
      unfold RVs Reps at rv
      obtain ⟨v1, r1, rfl, ra, rb⟩ := rv
      refine ⟨v1, r1, rfl, W, s, a, R, ra, e2, e1, fun σ' hw R' => ⟨W, ⟨e2, s.t⟩, b, R', rb, e', he, fun σ2 hw2 R2 => k σ2 (fun vs hv => ?_) R2⟩⟩
      simp only [tgsIn, Bool.and_eq_true] at hv
      rw [hw2 vs hv.2, hw vs hv.1]
theorem g_tp {es : List Expr} {k : Nat} {ts : List Tg} {pos : Pos} (hc : X.calm = true) (h : PGsX X es ts) (hn : (assignEach es X.env).length = ts.length := by rfl) (hst : (assignEach es X.env).findIdx? (·.1) = none := by rfl) : PGX X (.Tuple es k pos) (.tp ts) := by
  refine ⟨PG_imp (L2.pg_tup hc h.pgs hn hst) fun v σ H Q ⟨W, s, p, R, rv, e', he, k⟩ => ?_⟩
  cases p with
  | tup c ps =>
    simp only [asgT] at he
    obtain ⟨a, vs, rfl, h1, h2⟩ := rv_tup_inv rv
    refine ⟨a, vs, rfl, h1, ?_, W, s, ps, R, h2, e', he, k⟩
    rw [h2.len]
    clear k rv h1 h2 R h hn hst
    have : ∀ (ts : List Tg) (ps : List PV) (e e' : DE), asgTs ts ps e = some e' → ps.length = ts.length := by
      intro ts
      induction ts with
      | nil =>
        intro ps e e' he
        cases ps with
        | nil => rfl
        | cons a b => simp [asgTs] at he
      | cons t ts ih =>
        intro ps e e' he
        cases ps with
        | nil => simp [asgTs] at he
        | cons a b =>
          simp only [asgTs] at he
          cases e1 : asgT t a e with
          | none => rw [e1] at he; cases he
          | some e2 =>
            rw [e1] at he
            simp [ih b e2 e' he]
    exact this ts ps s.e e' he
  | _ => simp [asgT] at he
/-- target = value, the target of any form -/
def asgS (t : Tg) (f : EM) : SM := fun s => (f s).bind fun p s1 => match asgT t p s1.e with
  | some e' => .ok .nx ⟨e', s1.t⟩
  | none => .bad
theorem ps_asgX {tg : Expr} {t : Tg} (he : PX X Z e f) (hg : PGX X tg t) (hs : swapsWithSole [tg] e pos.line X.env = pure false := by rfl) (hw : swappedStores [tg] e X.env = pure none := by rfl)
    (h1 : (assignEach [tg] X.env).map (·.2) = [assign tg X.env] := by rfl) : PSX X Z (.Assign [tg] e pos) (asgS t f) := by
  refine ⟨PS_imp (L2.ps_asg he.pe hg.pg hs hw h1) fun D σ H ⟨W, s, R, h⟩ => ⟨W, s, R, PostS.bindE h fun p s1 x W1 H1 _ st R1 rx q => ?_⟩⟩
  cases e1 : asgT t p s1.e with
  | none => simp only [e1] at q; exact q.elim
  | some e2 =>
    simp only [e1] at q
    exact ⟨W1, s1, p, R1, rx, e2, e1, fun σ' _ R' => q σ' W1 H1 (Step.refl _ _) R'⟩
/-! ### what is walked -/
/-- what could be reached can be reached -/
structure Vw (W : Wd) (H : Hp) (W' : Wd) (H' : Hp) : Prop where
  same : Same (W.m H) (W'.m H')
  pre : Pre W.S W'.S
theorem Step.vw {W W' : Wd} {H H' : Hp} (s : Step W H W' H') : Vw W H W' H' := ⟨s.same, s.pre⟩
theorem Vw.trans {W W1 W2 : Wd} {H H1 H2 : Hp} (a : Vw W H W1 H1) (b : Vw W1 H1 W2 H2) : Vw W H W2 H2 := ⟨a.same.trans b.same, a.pre.trans b.pre⟩
structure Goes (K : PySem.W.Frag) (J : It) (ps : List PV) (W : Wd) (H : Hp) : Prop where
  go : ∀ W1 H1 i, Vw W H W1 H1 → i < ps.length → J.go i H1
  stop : ∀ W1 H1, Vw W H W1 H1 → J.stop ps.length H1
  yld : ∀ (W1 : Wd) (H1 : Hp) (i : Nat) (x : V) (H2 : Hp) (p : PV) (s : DS) (σ : L2.St), Vw W H W1 H1 → ps[i]? = some p → RSt K W1 H1 s σ → J.yld i H1 x H2 → ∃ W2, Step W1 H1 W2 H2 ∧ RSt K W2 H2 s σ ∧ RV K W2 H2 p x
abbrev IM := DS → Re (List PV)
def rI : RT (List PV) It := fun K _ W H _ ps J => Goes K J ps W H
def tI (K : PySem.W.Frag) (Z : WX) (f : IM) : TI := fun σ H R => tG rI K Z f σ H R
structure PIX (X : Cx) (Z : WX) (tg e : Expr) (f : IM) : Prop where
  pi : PI X tg e (tI X.K Z f)
theorem PI_imp {X : Cx} {tg e : Expr} {t t' : TI} (h : PI X tg e t) (i : ∀ σ H Q, t' σ H Q → t σ H Q) : PI X tg e t' := ⟨fun pins s σ H R I q => h.run pins s σ H R I (i σ H R q)⟩
theorem PI_or {X : Cx} {tg e : Expr} {t t' : TI} (h : PI X tg e t) (h' : PI X tg e t') : PI X tg e (fun σ H R => t σ H R ∨ t' σ H R) := ⟨fun pins s σ H R I q => q.elim (h.run pins s σ H R I) (h'.run pins s σ H R I)⟩
def forL (t : Tg) (b : SM) : List PV → SM
  | [], s => .ok .nx s
  | p :: ps, s => match asgT t p s.e with
    | none => .bad
    | some e' => (b ⟨e', s.t⟩).bind fun fl s1 => match fl with
      | .nx => forL t b ps s1
      | .ct => forL t b ps s1
      | .bk => .ok .nx s1
      | .rt p fr => .ok (.rt p fr) s1
def forS (it : IM) (t : Tg) (b : SM) : SM := fun s => (it s).bind fun ps s1 => forL t b ps s1
theorem ps_forX {tg iter : Expr} {body : List Stmt} {it : IM} {t : Tg} {b : SM} (hp : PassesOwn (model X.prog X.w) X.A X.env X.xe) (hc : X.calm = true) (hi : PIX X Z tg iter it) (hg : PGX X tg t) (hb : PSsX X Z body b)
    (hs : ∀ x, foldedSetIterable iter X.env x = pure x := by intro _; rfl) : PSX X Z (.For tg iter body [] pos) (forS it t b) := by
  refine ⟨PS_imp (L2.ps_for hp hc hi.pi hg.pg hb.ps hs) fun D σ H ⟨W, s, R, h⟩ => ⟨W, s, R, PostS.bindE h fun ps s1 J W1 H1 _ st R1 G q => ?_⟩⟩
  have G : Goes X.K J ps W1 H1 := G
  refine ⟨fun i m σ2 H2 => m = ps.length - i ∧ i ≤ ps.length ∧ ∃ W2 s2, Step W1 H1 W2 H2 ∧ RSt X.K W2 H2 s2 σ2 ∧ PostS X.K Z W2 H2 (forL t b (ps.drop i) s2) D, ⟨ps.length, by simp, Nat.zero_le _, W1, s1, Step.refl _ _, R1, q⟩, ?_⟩
  rintro i m σ2 H2 ⟨rfl, hi, W2, s2, st2, R2, q2⟩
  by_cases hlt : i < ps.length
  · refine .inr ⟨G.go W2 H2 i st2.vw hlt, fun σ3 H3 => i + 1 ≤ ps.length ∧ ∃ W3 s3, Step W1 H1 W3 H3 ∧ RSt X.K W3 H3 s3 σ3 ∧ PostS X.K Z W3 H3 (forL t b (ps.drop (i + 1)) s3) D, fun σ' H' ⟨hi', W3, s3, a, b, c⟩ => ⟨ps.length - (i + 1), by omega, rfl, hi', W3, s3, a, b, c⟩, fun x H3 y => ?_⟩
    obtain ⟨W3, st3, R3, rv⟩ := G.yld W2 H2 i x H3 ps[i] s2 σ2 st2.vw (List.getElem?_eq_getElem hlt) R2 y
    rw [List.drop_eq_getElem_cons hlt] at q2
    unfold forL at q2
    cases e1 : asgT t ps[i] s2.e with
    | none => simp only [e1] at q2; exact q2.elim
    | some e2 =>
      simp only [e1] at q2
      refine ⟨W3, s2, ps[i], R3, rv, e2, e1, fun σ4 _ R4 => ⟨W3, ⟨e2, s2.t⟩, R4, ?_⟩⟩
      have q3 := PostS.step q2 st3
      cases e3 : b ⟨e2, s2.t⟩ with
      | bad => rw [e3] at q3; exact q3.elim
      | exc x s5 => rw [e3] at q3; exact q3
      | ok fl s5 =>
        rw [e3] at q3
        cases fl with
        | nx => exact fun σ' W' H' st' R' => ⟨hlt, W', s5, (st2.trans st3).trans st', R', PostS.step q3 st'⟩
        | ct => exact fun σ' W' H' st' R' => ⟨hlt, W', s5, (st2.trans st3).trans st', R', PostS.step q3 st'⟩
        | bk => exact q3
        | rt p fr => exact q3
  · have e : i = ps.length := by omega
    subst e
    rw [List.drop_length] at q2
    exact .inl ⟨G.stop W2 H2 st2.vw, q2 σ2 W2 H2 (Step.refl _ _) R2⟩
def whileN (t : TM) (b : SM) : Nat → SM
  | 0, _ => .bad
  | n + 1, s => (t s).bind fun c s1 => if c = true then (b s1).bind fun fl s2 => match fl with
      | .nx => whileN t b n s2
      | .ct => whileN t b n s2
      | .bk => .ok .nx s2
      | .rt p fr => .ok (.rt p fr) s2
    else .ok .nx s1
theorem ps_whileX {c : Expr} {body : List Stmt} {t : TM} {b : SM} (n : Nat) (hp : PassesOwn (model X.prog X.w) X.A X.env X.xe) (hc : PTX X Z c t) (hb : PSsX X Z body b) : PSX X Z (.While c body [] pos) (whileN t b n) := by
  refine ⟨PS_imp (L2.ps_while hp hc.pt hb.ps) fun D σ H ⟨W, s, R, h⟩ => ?_⟩
  refine ⟨fun m σ2 H2 => ∃ W2 s2, RSt X.K W2 H2 s2 σ2 ∧ PostS X.K Z W2 H2 (whileN t b m s2) D, ⟨n, W, s, R, h⟩, ?_⟩
  rintro m σ2 H2 ⟨W2, s2, R2, q2⟩
  cases m with
  | zero => exact q2.elim
  | succ m =>
    unfold whileN at q2
    refine ⟨W2, s2, R2, PostS.bindE q2 fun c s3 x W3 H3 _ st3 R3 rx q3 => ?_⟩
    obtain rfl : x = c := rx
    cases x with
    | false => rw [if_neg (by decide)] at q3 ⊢; exact q3 σ2 W3 H3 (Step.refl _ _) R3
    | true =>
      rw [if_pos rfl] at q3 ⊢
      refine ⟨fun σ4 H4 => ∃ W4 s4, RSt X.K W4 H4 s4 σ4 ∧ PostS X.K Z W4 H4 (whileN t b m s4) D, fun σ' H' q => ⟨m, Nat.lt_succ_self _, q⟩, W3, s3, R3, ?_⟩
      cases e3 : b s3 with
      | bad => rw [e3] at q3; exact q3.elim
      | exc x s5 => rw [e3] at q3; exact q3
      | ok fl s5 =>
        rw [e3] at q3
        cases fl with
        | nx => exact fun σ' W' H' st' R' => ⟨W', s5, R', PostS.step q3 st'⟩
        | ct => exact fun σ' W' H' st' R' => ⟨W', s5, R', PostS.step q3 st'⟩
        | bk => exact q3
        | rt p fr => exact q3
end
end DR
/-! DR: what is walked; list comprehensions. -/
namespace DR
open PySem PySem.Spec PyProof.Rows L2
section
variable {K : PySem.W.Frag} {W W1 : Wd} {H H1 : Hp} {a b : Addr} {ps qs : List PV} {vs ws : List V}
theorem yldP {H2 : Hp} {s : DS} {σ : L2.St} {x : V} {p : PV} (R : RSt K W1 H1 s σ) (e : H2 = H1) (r : RV K W1 H1 p x) : ∃ W3, Step W1 H1 W3 H2 ∧ RSt K W3 H2 s σ ∧ RV K W3 H2 p x := by
  subst e
  exact ⟨W1, Step.refl _ _, R, r⟩
theorem atRep (st : Vw W H W1 H1) (h : RVs K W H ps vs) {i : Nat} {p : PV} {x : V} (hp : ps[i]? = some p) (hx : vs[i]? = some x) : RV K W1 H1 p x := by
  obtain ⟨v, e, r⟩ := h.get hp
  rw [hx] at e
  cases e
  exact r.mono st.pre st.same
theorem goes_list (hL : a ∉ W.L) (h : H a = some (.lst vs)) (r : RVs K W H ps vs) : Goes K (Itl K a) ps W H := by
  have at_ : ∀ {W1 H1}, Vw W H W1 H1 → SqL K H1 a vs := fun st => SqL.of (msk_some.mp (st.same _ _ (msk_some.mpr ⟨hL, h⟩))).2
  refine ⟨fun W1 H1 i st hi => ?_, fun W1 H1 st => ⟨vs, at_ st, by rw [r.len]; exact Nat.le_refl _⟩, fun W1 H1 i x H2 p s σ st hp R y => ?_⟩
  · have hi' : i < vs.length := by rw [r.len]; exact hi
    exact ⟨vs, vs[i], at_ st, List.getElem?_eq_getElem hi'⟩
  · exact yldP R y.1 (atRep st r hp (y.2 _ (at_ st)))
theorem goes_scr (h : SqL K (W.m H) a vs) (r : RVs K W H ps vs) : Goes K (Itl K a) ps W H := by
  have at_ : ∀ {W1 H1}, Vw W H W1 H1 → SqL K H1 a vs := fun st => sqL_mono (msk_sub _ _) (sqL_mono st.same h)
  refine ⟨fun W1 H1 i st hi => ?_, fun W1 H1 st => ⟨vs, at_ st, by rw [r.len]; exact Nat.le_refl _⟩, fun W1 H1 i x H2 p s σ st hp R y => ?_⟩
  · have hi' : i < vs.length := by rw [r.len]; exact hi
    exact ⟨vs, vs[i], at_ st, List.getElem?_eq_getElem hi'⟩
  · exact yldP R y.1 (atRep st r hp (y.2 _ (at_ st)))
theorem goes_tup (h : SqT K (W.m H) a vs) (r : RVs K W H ps vs) : Goes K (Itt K a) ps W H := by
  have at_ : ∀ {W1 H1}, Vw W H W1 H1 → SqT K H1 a vs := fun st => sqT_mono (msk_sub _ _) (sqT_mono st.same h)
  refine ⟨fun W1 H1 i st hi => ?_, fun W1 H1 st => ⟨vs, at_ st, by rw [r.len]; exact Nat.le_refl _⟩, fun W1 H1 i x H2 p s σ st hp R y => ?_⟩
  · have hi' : i < vs.length := by rw [r.len]; exact hi
    exact ⟨vs, vs[i], at_ st, List.getElem?_eq_getElem hi'⟩
  · exact yldP R y.1 (atRep st r hp (y.2 _ (at_ st)))
def rangeP (lo : Int) (n : Nat) : List PV := (List.range n).map fun (i : Nat) => PV.int (lo + (i : Int))
theorem rangeP_len (lo : Int) (n : Nat) : (rangeP lo n).length = n := by simp [rangeP]
theorem rangeP_get {lo : Int} {n i : Nat} {p : PV} (h : (rangeP lo n)[i]? = some p) : p = .int (lo + (i : Int)) := by
  unfold rangeP at h
  rw [List.getElem?_map] at h
  cases e : (List.range n)[i]? with
  | none => rw [e] at h; cases h
  | some j =>
    rw [e] at h
    have hi := (List.getElem?_eq_some_iff.mp e)
    obtain ⟨hi, e2⟩ := hi
    simp at e2
    subst e2
    exact (Option.some.inj h).symm
theorem goes_range {lo : Int} {n : Nat} : Goes K (Itr lo n) (rangeP lo n) W H := by
  refine ⟨fun W1 H1 i st hi => by rw [rangeP_len] at hi; exact hi, fun W1 H1 st => by rw [rangeP_len]; exact Nat.le_refl _, fun W1 H1 i x H2 p s σ st hp R y => ?_⟩
  obtain ⟨e1, e2⟩ := y
  rw [rangeP_get hp, e2]
  exact yldP R e1 rv_int
/-- a new pair in flight -/
theorem yldPair {H2 : Hp} {s : DS} {σ : L2.St} {x y v : V} {p q : PV} {T : Addr} (R : RSt K W1 H1 s σ) (hT : H1 T = none) (e : H2 = upd H1 T (.tup [x, y])) (ev : v = .ref T) (r : RV K W1 H1 p x) (r' : RV K W1 H1 q y) :
    ∃ W3, Step W1 H1 W3 H2 ∧ RSt K W3 H2 s σ ∧ RV K W3 H2 (.tup false [p, q]) v := by
  subst e ev
  obtain ⟨W2, st, R2, hL⟩ := R.newL hT
  exact ⟨W2, st.trans (Step.alloc hT (R2.nP hT)), R2.alloc hT, new_tup hT hL (reps_cons (st.rv r) (reps_cons (st.rv r') reps_nil))⟩
def enumP : Nat → List PV → List PV
  | _, [] => []
  | i, p :: ps => .tup false [.int (i : Int), p] :: enumP (i + 1) ps
theorem enumP_len : ∀ (i : Nat) (ps : List PV), (enumP i ps).length = ps.length
  | _, [] => rfl
  | i, p :: ps => by simp [enumP, enumP_len (i + 1) ps]
theorem enumP_get : ∀ {i j : Nat} {ps : List PV} {p : PV}, (enumP i ps)[j]? = some p → ∃ q, ps[j]? = some q ∧ p = .tup false [.int ((i + j : Nat) : Int), q]
  | _, _, [], _, h => by simp [enumP] at h
  | i, 0, q :: ps, p, h => by
    simp [enumP] at h
    exact ⟨q, rfl, by rw [← h]; rfl⟩
  | i, j + 1, q :: ps, p, h => by
    simp only [enumP, List.getElem?_cons_succ] at h
    obtain ⟨r, h1, h2⟩ := enumP_get h
    exact ⟨r, by simpa using h1, by rw [h2]; congr 4; omega⟩
theorem goes_enum (hL : a ∉ W.L) (h : H a = some (.lst vs)) (r : RVs K W H ps vs) : Goes K (Ite K a) (enumP 0 ps) W H := by
  have at_ : ∀ {W1 H1}, Vw W H W1 H1 → SqL K H1 a vs := fun st => SqL.of (msk_some.mp (st.same _ _ (msk_some.mpr ⟨hL, h⟩))).2
  refine ⟨fun W1 H1 i st hi => ?_, fun W1 H1 st => ⟨vs, at_ st, by rw [enumP_len, r.len]; exact Nat.le_refl _⟩, fun W1 H1 i x H2 p s σ st hp R y => ?_⟩
  · have hi' : i < vs.length := by rw [enumP_len] at hi; rw [r.len]; exact hi
    exact ⟨vs, vs[i], at_ st, List.getElem?_eq_getElem hi'⟩
  · obtain ⟨T, z, e1, e2, e3, e4⟩ := y
    obtain ⟨q, h1, h2⟩ := enumP_get hp
    rw [h2]
    exact yldPair R e2 e3 e1 (by rw [Nat.zero_add]; exact rv_int) (atRep st r h1 (e4 _ (at_ st)))
def zipP : List PV → List PV → List PV
  | p :: ps, q :: qs => .tup false [p, q] :: zipP ps qs
  | _, _ => []
theorem zipP_len : ∀ (ps qs : List PV), (zipP ps qs).length = min ps.length qs.length
  | [], _ => by simp [zipP]
  | _ :: _, [] => by simp [zipP]
  | p :: ps, q :: qs => by simp [zipP, zipP_len ps qs]
theorem zipP_get : ∀ {j : Nat} {ps qs : List PV} {p : PV}, (zipP ps qs)[j]? = some p → ∃ x y, ps[j]? = some x ∧ qs[j]? = some y ∧ p = .tup false [x, y]
  | _, [], _, _, h => by simp [zipP] at h
  | _, _ :: _, [], _, h => by simp [zipP] at h
  | 0, x :: ps, y :: qs, p, h => by
    simp [zipP] at h
    exact ⟨x, y, rfl, rfl, h.symm⟩
  | j + 1, x :: ps, y :: qs, p, h => by
    simp only [zipP, List.getElem?_cons_succ] at h
    obtain ⟨u, v, h1, h2, h3⟩ := zipP_get h
    exact ⟨u, v, by simpa using h1, by simpa using h2, h3⟩
theorem goes_zipL (hL : a ∉ W.L) (h : H a = some (.lst vs)) (r : RVs K W H ps vs) (hM : b ∉ W.L) (h' : H b = some (.lst ws)) (r' : RVs K W H qs ws) : Goes K (Itz K a b) (zipP ps qs) W H := by
  have at_ : ∀ {W1 H1}, Vw W H W1 H1 → SqL K H1 a vs := fun st => SqL.of (msk_some.mp (st.same _ _ (msk_some.mpr ⟨hL, h⟩))).2
  have bt_ : ∀ {W1 H1}, Vw W H W1 H1 → SqL K H1 b ws := fun st => SqL.of (msk_some.mp (st.same _ _ (msk_some.mpr ⟨hM, h'⟩))).2
  refine ⟨fun W1 H1 i st hi => ?_, fun W1 H1 st => ⟨vs, ws, at_ st, bt_ st, by rw [zipP_len, r.len, r'.len]; omega⟩, fun W1 H1 i x H2 p s σ st hp R y => ?_⟩
  · rw [zipP_len] at hi
    have h1 : i < vs.length := by rw [r.len]; omega
    have h2 : i < ws.length := by rw [r'.len]; omega
    exact ⟨vs, ws, vs[i], ws[i], at_ st, bt_ st, List.getElem?_eq_getElem h1, List.getElem?_eq_getElem h2⟩
  · obtain ⟨T, z, z', e1, e2, e3, e4, e5⟩ := y
    obtain ⟨u, v, h1, h2, h3⟩ := zipP_get hp
    rw [h3]
    exact yldPair R e2 e3 e1 (atRep st r h1 (e4 _ (at_ st))) (atRep st r' h2 (e5 _ (bt_ st)))
theorem goes_zipT (h : SqT K (W.m H) a vs) (r : RVs K W H ps vs) (h' : SqT K (W.m H) b ws) (r' : RVs K W H qs ws) : Goes K (RZ.ItzT K a b) (zipP ps qs) W H := by
  have at_ : ∀ {W1 H1}, Vw W H W1 H1 → SqT K H1 a vs := fun st => sqT_mono (msk_sub _ _) (sqT_mono st.same h)
  have bt_ : ∀ {W1 H1}, Vw W H W1 H1 → SqT K H1 b ws := fun st => sqT_mono (msk_sub _ _) (sqT_mono st.same h')
  refine ⟨fun W1 H1 i st hi => ?_, fun W1 H1 st => ⟨vs, ws, at_ st, bt_ st, by rw [zipP_len, r.len, r'.len]; omega⟩, fun W1 H1 i x H2 p s σ st hp R y => ?_⟩
  · rw [zipP_len] at hi
    have h1 : i < vs.length := by rw [r.len]; omega
    have h2 : i < ws.length := by rw [r'.len]; omega
    exact ⟨vs, ws, vs[i], ws[i], at_ st, bt_ st, List.getElem?_eq_getElem h1, List.getElem?_eq_getElem h2⟩
  · obtain ⟨T, z, z', e1, e2, e3, e4, e5⟩ := y
    obtain ⟨u, v, h1, h2, h3⟩ := zipP_get hp
    rw [h3]
    exact yldPair R e2 e3 e1 (atRep st r h1 (e4 _ (at_ st))) (atRep st r' h2 (e5 _ (bt_ st)))
theorem rvT_m {c : Bool} {v : V} (r : RV K W H (.tup c ps) v) : ∃ a vs, v = .ref a ∧ SqT K (W.m H) a vs ∧ RVs K W H ps vs := rep_tup r
theorem rvS_m {v : V} (r : RV K W H (.scr ps) v) : ∃ a vs, v = .ref a ∧ SqL K (W.m H) a vs ∧ RVs K W H ps vs := by unfold RV Rep at r; exact r
end
section
variable {X : Cx} {Z : WX} {tg e e2 : Expr} {f f2 : EM} {ga : AM} {pos p : Pos}
def seqP (p : PV) (s : DS) : Re (List PV) := match p with
  | .lst ps => .ok ps s
  | .tup _ ps => .ok ps s
  | .scr ps => .ok ps s
  | _ => .bad
def seqI (f : EM) : IM := fun s => (f s).bind seqP
theorem i_seq (h : PX X Z e f) : PIX X Z tg e (seqI f) := by
  refine ⟨PI_imp (PI_or (L2.pi_list h.pe) (L2.pi_tup h.pe)) fun σ H Q ⟨W, s, R, h⟩ => ?_⟩
  unfold seqI at h
  cases e1 : f s with
  | bad => rw [e1] at h; exact h.elim
  | exc x s1 => rw [e1] at h; exact .inl ⟨W, s, R, by rw [e1]; exact h⟩
  | ok p s1 =>
    rw [e1] at h
    cases p with
    | lst ps =>
      refine .inl ⟨W, s, R, ?_⟩
      rw [e1]
      intro v W1 H1 st R1 rv
      obtain ⟨a, vs, rfl, h1, h2, h3⟩ := rv_lst_inv rv
      exact ⟨a, rfl, ⟨vs, SqL.of h2⟩, h _ W1 H1 st R1 (goes_list h1 h2 h3)⟩
    | scr ps =>
      refine .inl ⟨W, s, R, ?_⟩
      rw [e1]
      intro v W1 H1 st R1 rv
      obtain ⟨a, vs, rfl, h1, h3⟩ := rvS_m rv
      exact ⟨a, rfl, ⟨vs, sqL_mono (msk_sub _ _) h1⟩, h _ W1 H1 st R1 (goes_scr h1 h3)⟩
    | tup c ps =>
      refine .inr ⟨W, s, R, ?_⟩
      rw [e1]
      intro v W1 H1 st R1 rv
      obtain ⟨a, vs, rfl, h1, h3⟩ := rvT_m rv
      exact ⟨a, rfl, ⟨vs, sqT_mono (msk_sub _ _) h1⟩, h _ W1 H1 st R1 (goes_tup h1 h3)⟩
    | _ => exact h.elim
def big62 (i : Int) : Bool := decide (-(4611686018427387904) ≤ i ∧ i < 4611686018427387904)
def range1I (f : EM) : IM := fun s => (f s).bind fun p s1 => match p with
  | .int j => if big62 j then .ok (rangeP 0 j.toNat) s1 else .bad
  | _ => .bad
def range2I (f g : EM) : IM := fun s => (f s).bind fun p s1 => (g s1).bind fun q s2 => match p, q with
  | .int i, .int j => if big62 i && big62 j then .ok (rangeP i (j - i).toNat) s2 else .bad
  | _, _ => .bad
theorem i_range1 (hg : Gl X "range") (hm : X.mg "range" = none) (h : PX X Z e f) (hs : starEach [e] X.env = [(false, eval e X.env)] := by rfl) : PIX X Z tg (.Call (.Name "range" p) [e] [] pos) (range1I f) := by
  refine ⟨PI_imp (L2.pi_range1 hg hm (pa_consX h pa_nilX hs).pa hs) fun σ H Q ⟨W, s, R, h⟩ => ⟨W, s, R, ?_⟩⟩
  unfold range1I at h
  unfold consA nilA
  cases e1 : f s with
  | bad => rw [e1] at h; exact h.elim
  | exc x s1 => rw [e1] at h; exact h
  | ok p s1 =>
    rw [e1] at h
    intro vs W1 H1 st R1 rv
    have rv : Reps X.K W1.S (W1.m H1) [p] vs := rv
    unfold Reps at rv
    obtain ⟨v, r, rfl, h1, rv⟩ := rv
    unfold Reps at rv
    subst rv
    cases p with
    | int j =>
      simp only [Re.bind] at h
      by_cases hb : big62 j = true
      · rw [if_pos hb] at h
        have hb := of_decide_eq_true hb
        exact ⟨j, by rw [rv_int_inv h1], by omega, by omega, h _ W1 H1 st R1 goes_range⟩
      · rw [if_neg hb] at h
        exact h.elim
    | _ => exact h.elim
theorem i_range2 (hg : Gl X "range") (hm : X.mg "range" = none) (h : PX X Z e f) (h2 : PX X Z e2 f2) (hs : starEach [e, e2] X.env = [(false, eval e X.env), (false, eval e2 X.env)] := by rfl) (hs2 : starEach [e2] X.env = [(false, eval e2 X.env)] := by rfl) : PIX X Z tg (.Call (.Name "range" p) [e, e2] [] pos) (range2I f f2) := by
  refine ⟨PI_imp (L2.pi_range2 hg hm (pa_consX h (pa_consX h2 pa_nilX hs2) (by rw [hs, hs2])).pa hs hs2) fun σ H Q ⟨W, s, R, h⟩ => ⟨W, s, R, ?_⟩⟩
  unfold range2I at h
  unfold consA nilA
  cases e1 : f s with
  | bad => rw [e1] at h; exact h.elim
  | exc x s1 => rw [e1] at h; exact h
  | ok p s1 =>
    rw [e1] at h
    simp only [Re.bind] at h ⊢
    cases e3 : f2 s1 with
    | bad => rw [e3] at h; exact h.elim
    | exc x s2 => rw [e3] at h; exact h
    | ok q s2 =>
      rw [e3] at h
      intro vs W1 H1 st R1 rv
      have rv : Reps X.K W1.S (W1.m H1) [p, q] vs := rv
      unfold Reps at rv
      obtain ⟨v, r, rfl, h1, rv⟩ := rv
      unfold Reps at rv
      obtain ⟨v', r', rfl, h1', rv⟩ := rv
      unfold Reps at rv
      subst rv
      cases p with
      | int i =>
        cases q with
        | int j =>
          simp only at h
          by_cases hb : (big62 i && big62 j) = true
          · rw [if_pos hb] at h
            rw [Bool.and_eq_true] at hb
            have hb1 := of_decide_eq_true hb.1
            have hb2 := of_decide_eq_true hb.2
            exact ⟨i, j, by rw [rv_int_inv h1, rv_int_inv h1'], ⟨by omega, by omega, by omega, by omega⟩, h _ W1 H1 st R1 goes_range⟩
          · rw [if_neg hb] at h
            exact h.elim
        | _ => exact h.elim
      | _ => exact h.elim
def enumI (f : EM) : IM := fun s => (f s).bind fun p s1 => match p with
  | .lst ps => .ok (enumP 0 ps) s1
  | _ => .bad
theorem i_enum {elts : List Expr} {kk : Nat} {tpos : Pos} (hg : Gl X "enumerate") (hm : X.mg "enumerate" = none) (h : PX X Z e f) (hs : starEach [e] X.env = [(false, eval e X.env)] := by rfl) : PIX X Z (.Tuple elts kk tpos) (.Call (.Name "enumerate" p) [e] [] pos) (enumI f) := by
  refine ⟨PI_imp (L2.pi_enum hg hm (pa_consX h pa_nilX hs).pa hs) fun σ H Q ⟨W, s, R, h⟩ => ⟨W, s, R, ?_⟩⟩
  unfold enumI at h
  unfold consA nilA
  cases e1 : f s with
  | bad => rw [e1] at h; exact h.elim
  | exc x s1 => rw [e1] at h; exact h
  | ok p s1 =>
    rw [e1] at h
    intro vs W1 H1 st R1 rv
    have rv : Reps X.K W1.S (W1.m H1) [p] vs := rv
    unfold Reps at rv
    obtain ⟨v, r, rfl, h1, rv⟩ := rv
    unfold Reps at rv
    subst rv
    cases p with
    | lst ps =>
      obtain ⟨a, vs, rfl, g1, g2, g3⟩ := rv_lst_inv h1
      exact ⟨a, vs, rfl, SqL.of g2, h _ W1 H1 st R1 (goes_enum g1 g2 g3)⟩
    | _ => exact h.elim
def zipI (f g : EM) : IM := fun s => (f s).bind fun p s1 => (g s1).bind fun q s2 => match p, q with
  | .lst ps, .lst qs => .ok (zipP ps qs) s2
  | .tup _ ps, .tup _ qs => .ok (zipP ps qs) s2
  | _, _ => .bad
theorem i_zip {elts : List Expr} {kk : Nat} {tpos : Pos} (hg : Gl X "zip") (hm : X.mg "zip" = none) (h : PX X Z e f) (h2 : PX X Z e2 f2) (hs : starEach [e, e2] X.env = (false, eval e X.env) :: starEach [e2] X.env := by rfl) (hs2 : starEach [e2] X.env = (false, eval e2 X.env) :: starEach [] X.env := by rfl)
    (hpl : (backTo pos (starEach [e2] X.env)).any (·.1) = false := by rfl) : PIX X Z (.Tuple elts kk tpos) (.Call (.Name "zip" p) [e, e2] [] pos) (zipI f f2) := by
  refine ⟨PI_imp (RZ.pi_zipA hg hm (pa_consX h (pa_consX h2 pa_nilX hs2) hs).pa hs hpl) fun σ H Q ⟨W, s, R, h⟩ => ⟨W, s, R, ?_⟩⟩
  unfold zipI at h
  unfold consA nilA
  cases e1 : f s with
  | bad => rw [e1] at h; exact h.elim
  | exc x s1 => rw [e1] at h; exact h
  | ok p s1 =>
    rw [e1] at h
    simp only [Re.bind] at h ⊢
    cases e3 : f2 s1 with
    | bad => rw [e3] at h; exact h.elim
    | exc x s2 => rw [e3] at h; exact h
    | ok q s2 =>
      rw [e3] at h
      intro vs W1 H1 st R1 rv
      have rv : Reps X.K W1.S (W1.m H1) [p, q] vs := rv
      unfold Reps at rv
      obtain ⟨v, r, rfl, h1, rv⟩ := rv
      unfold Reps at rv
      obtain ⟨v', r', rfl, h1', rv⟩ := rv
      unfold Reps at rv
      subst rv
      cases p with
      | lst ps =>
        cases q with
        | lst qs =>
          obtain ⟨a, vs, rfl, g1, g2, g3⟩ := rv_lst_inv h1
          obtain ⟨b, ws, rfl, k1, k2, k3⟩ := rv_lst_inv h1'
          exact ⟨a, b, vs, ws, rfl, .inl ⟨SqL.of g2, SqL.of k2, h _ W1 H1 st R1 (goes_zipL g1 g2 g3 k1 k2 k3)⟩⟩
        | _ => exact h.elim
      | tup c ps =>
        cases q with
        | tup c' qs =>
          obtain ⟨a, vs, rfl, g1, g2⟩ := rvT_m h1
          obtain ⟨b, ws, rfl, k1, k2⟩ := rvT_m h1'
          exact ⟨a, b, vs, ws, rfl, .inr ⟨sqT_mono (msk_sub _ _) g1, sqT_mono (msk_sub _ _) k1, h _ W1 H1 st R1 (goes_zipT g1 g2 k1 k2)⟩⟩
        | _ => exact h.elim
      | _ => exact h.elim
/-! ### list comprehensions -/
def Z0 : WX := fun _ _ _ _ => False
def noX {α : Type} (r : Re α) : Re α := match r with
  | .exc _ _ => .bad
  | r => r
def wipeE : List Nat → DE → DE
  | [], e => e
  | v :: vs, e => (wipeE vs e).set v .no
def rest1 (sl : Sl) : Sl := match sl with
  | .val p => .val p
  | _ => .no
def restE : List Nat → DE → DE → DE
  | [], _, e => e
  | v :: vs, e0, e => (restE vs e0 e).set v (rest1 (e0.getD v .no))
def lcL (t : Tg) (tt : TM) (f : EM) (vs : List Nat) : List PV → List PV → DS → Re (List PV)
  | [], acc, s => .ok acc s
  | p :: ps, acc, s => match asgT t p (wipeE vs s.e) with
    | none => .bad
    | some e' => (tt ⟨e', s.t⟩).bind fun b s1 => if b = true then (f s1).bind fun y s2 => if acc.length < sizeLine then lcL t tt f vs ps (acc ++ [y]) s2 else .bad
      else lcL t tt f vs ps acc s1
def lcO (it : IM) (t : Tg) (tt : TM) (f : EM) (vs : List Nat) : OM := fun s => (it s).bind fun ps s1 => (noX (lcL t tt f vs ps [] s1)).bind fun acc s2 => .ok (.lst acc, true) ⟨restE vs s1.e s2.e, s2.t⟩
theorem wipeE_get (e : DE) (j : Nat) : ∀ vs : List Nat, (wipeE vs e)[j]? = if j ∈ vs then e[j]?.map (fun _ => Sl.no) else e[j]?
  | [] => by simp [wipeE]
  | v :: vs => by
    have hl : ∀ vs : List Nat, (wipeE vs e).length = e.length := fun vs => by
      induction vs with
      | nil => rfl
      | cons a b ih => simp [wipeE, ih]
    unfold wipeE
    by_cases h : v = j
    · subst h
      rw [if_pos List.mem_cons_self]
      by_cases hv : v < e.length
      · rw [List.getElem?_set_self (by rw [hl]; exact hv), List.getElem?_eq_getElem hv]
        rfl
      · rw [List.getElem?_eq_none (by rw [List.length_set, hl]; omega), List.getElem?_eq_none (by omega)]
        rfl
    · rw [List.getElem?_set_ne h, wipeE_get e j vs]
      by_cases hj : j ∈ vs
      · rw [if_pos hj, if_pos (List.mem_cons_of_mem _ hj)]
      · rw [if_neg hj, if_neg (by simp [hj, Ne.symm h])]
theorem wipeE_len (e : DE) : ∀ vs : List Nat, (wipeE vs e).length = e.length
  | [] => rfl
  | v :: vs => by simp [wipeE, wipeE_len e vs]
theorem restE_len (e0 e : DE) : ∀ vs : List Nat, (restE vs e0 e).length = e.length
  | [] => rfl
  | v :: vs => by simp [restE, restE_len e0 e vs]
theorem restE_get (e0 e : DE) (j : Nat) : ∀ vs : List Nat, (restE vs e0 e)[j]? = if j ∈ vs then e[j]?.map (fun _ => rest1 (e0.getD j .no)) else e[j]?
  | [] => by simp [restE]
  | v :: vs => by
    unfold restE
    by_cases h : v = j
    · subst h
      rw [if_pos List.mem_cons_self]
      by_cases hv : v < e.length
      · rw [List.getElem?_set_self (by rw [restE_len]; exact hv), List.getElem?_eq_getElem hv]
        rfl
      · rw [List.getElem?_eq_none (by rw [List.length_set, restE_len]; omega), List.getElem?_eq_none (by omega)]
        rfl
    · rw [List.getElem?_set_ne h, restE_get e0 e j vs]
      by_cases hj : j ∈ vs
      · rw [if_pos hj, if_pos (List.mem_cons_of_mem _ hj)]
      · rw [if_neg hj, if_neg (by simp [hj, Ne.symm h])]
section
variable {K : PySem.W.Frag} {W W1 W2 : Wd} {H H1 H2 : Hp} {s s1 : DS} {σ : L2.St}
theorem RSt.wipe (R : RSt K W H s σ) (vs : List Nat) : RSt K W H ⟨wipeE vs s.e, s.t⟩ (wipe σ vs) := by
  have get : ∀ {j : Nat} {sl : Sl}, (wipeE vs s.e)[j]? = some sl → sl ≠ .no → j ∉ vs ∧ s.e[j]? = some sl := fun {j sl} h hn => by
    rw [wipeE_get] at h
    split at h
    · cases e : s.e[j]? with
      | none => rw [e] at h; cases h
      | some z => rw [e] at h; exact absurd (Option.some.inj h).symm hn
    · rename_i hj
      exact ⟨hj, h⟩
  have at_ : ∀ {j : Nat}, j ∉ vs → (L2.wipe σ vs)[j]? = σ[j]? := fun {j} h => by rw [wipe_get, if_neg h]
  refine ⟨⟨by rw [wipeE_len, wipe_length]; exact R.e.len, fun i p h => ?_, fun i p h => ?_, fun i j p q a h1 h2 h3 h4 => ?_⟩, R.t⟩
  · obtain ⟨n, e⟩ := get h (by simp)
    rw [at_ n]
    exact R.e.at_ i p e
  · obtain ⟨n, e⟩ := get h (by simp)
    rw [at_ n]
    exact R.e.ow i p e
  · obtain ⟨n1, e1⟩ := get h1 (by simp)
    obtain ⟨n2, e2⟩ := get h2 (by simp)
    rw [at_ n1] at h3
    rw [at_ n2] at h4
    exact R.e.inj i j p q a e1 e2 h3 h4
theorem Wd.m_upd {D : Addr} {o : HO} (h : D ∈ W.L) : W.m (upd H D o) = W.m H := by
  funext b
  unfold Wd.m msk
  split
  · rfl
  · rename_i hb
    exact upd_ne fun z => hb (z ▸ h)
/-- what the code around keeps is changed by it -/
theorem RSt.poke (R : RSt K W H s σ) {D : Addr} {o : HO} (h : D ∈ W.P) : RSt K W (upd H D o) s σ := by
  have hL : D ∈ W.L := by simp [Wd.L, h]
  have con : ∀ {p : PV} {a : Addr}, a ≠ D → Con K W H p a → Con K W (upd H D o) p a := fun {p a} hn c => by
    unfold Con at c ⊢
    cases p <;> simp only [Wd.m_upd hL, upd_ne hn] <;> exact c
  refine ⟨⟨R.e.len, fun i p e => ?_, fun i p e => ?_, R.e.inj⟩, ⟨R.t.len, fun k p a e1 e2 => con (fun z => R.t.ps a (List.mem_of_getElem? e2) (z ▸ h)) (R.t.at_ k p a e1 e2), R.t.nd, R.t.ap, fun a ha => ?_, R.t.pa, R.t.ps, fun a ha => let ⟨u, hu⟩ := R.t.ot a ha; ⟨u, by rw [upd_ne (show a ≠ D from fun z => R.t.pa a ha (z ▸ h))]; exact hu⟩⟩⟩
  · obtain ⟨v, e1, r⟩ := R.e.at_ i p e
    refine ⟨v, e1, ?_⟩
    show Rep K W.S (W.m (upd H D o)) p v
    rw [Wd.m_upd hL]
    exact r
  · obtain ⟨a, e1, e2, c⟩ := R.e.ow i p e
    exact ⟨a, e1, e2, con (fun z => R.t.pa a e2 (z ▸ h)) c⟩
  · by_cases z : a = D
    · rw [z]; exact ⟨_, upd_same⟩
    · rw [upd_ne z]; exact R.t.pt a ha
/-- the world with D kept -/
def Wd.keep (W : Wd) (D : Addr) : Wd := ⟨W.O, W.S, D :: W.P⟩
/-- the world with what the code around keeps as it was at W0 -/
def Wd.un (W W0 : Wd) : Wd := ⟨W.O, W.S, W0.P⟩
theorem RSt.keep (R : RSt K W H s σ) {D : Addr} {o : HO} (hD : H D = none) (hO : D ∉ W.O) : RSt K (W.keep D) (upd H D o) s σ ∧ Vw W H (W.keep D) (upd H D o) := by
  have vw : Vw W H (W.keep D) (upd H D o) := by
    refine ⟨fun b u e => ?_, Pre.refl _⟩
    obtain ⟨h1, h2⟩ := msk_some.mp e
    have n := ne_of_none h2 hD
    obtain ⟨a1, a2, a3⟩ := Wd.notL.mp h1
    exact msk_some.mpr ⟨Wd.notL.mpr ⟨a1, a2, fun z => (List.mem_cons.mp z).elim n a3⟩, by rw [upd_ne n]; exact h2⟩
  have con : ∀ {p : PV} {a : Addr}, Con K W H p a → Con K (W.keep D) (upd H D o) p a := fun {p a} c => by
    obtain ⟨u, hu⟩ := c.there
    have n := ne_of_none hu hD
    unfold Con at c ⊢
    cases p with
    | lst ps => obtain ⟨vs, h1, h2⟩ := c; exact ⟨vs, by rw [upd_ne n]; exact h1, h2.mono vw.pre vw.same⟩
    | dK ps => obtain ⟨vs, h1, h2⟩ := c; exact ⟨vs, by rw [upd_ne n]; exact h1, h2.mono vw.pre vw.same⟩
    | dT ps => obtain ⟨vs, h1, h2⟩ := c; exact ⟨vs, by rw [upd_ne n]; exact h1, h2.mono vw.pre vw.same⟩
    | ins C ps => obtain ⟨dx, vs, h1, h2⟩ := c; exact ⟨dx, vs, by rw [upd_ne n]; exact h1, h2.mono vw.pre vw.same⟩
    | _ => exact c.elim
  refine ⟨⟨⟨R.e.len, fun i p e => ?_, fun i p e => ?_, R.e.inj⟩, ⟨R.t.len, fun k p a e1 e2 => con (R.t.at_ k p a e1 e2), R.t.nd, R.t.ap, fun a ha => ?_, fun a ha z => ?_, fun a ha z => ?_, fun a ha => let ⟨u, hu⟩ := R.t.ot a ha; ⟨u, by rw [upd_ne (ne_of_none hu hD)]; exact hu⟩⟩⟩, vw⟩
  · obtain ⟨v, e1, r⟩ := R.e.at_ i p e
    exact ⟨v, e1, r.mono vw.pre vw.same⟩
  · obtain ⟨a, e1, e2, c⟩ := R.e.ow i p e
    exact ⟨a, e1, e2, con c⟩
  · rcases List.mem_cons.mp ha with z | z
    · rw [z]; exact ⟨_, upd_same⟩
    · obtain ⟨u, hu⟩ := R.t.pt a z
      exact ⟨u, by rw [upd_ne (ne_of_none hu hD)]; exact hu⟩
  · rcases List.mem_cons.mp z with z | z
    · rw [z] at ha
      exact hO ha
    · exact R.t.pa a ha z
  · rcases List.mem_cons.mp z with z | z
    · rw [z] at ha
      exact R.nS hD ha
    · exact R.t.ps a ha z
/-- from the start W1, H1 of a comprehension: how a turn's state lies, its list at D -/
structure LSt (W1 : Wd) (H1 : Hp) (D : Addr) (W2 : Wd) (H2 : Hp) : Prop where
  st : Step W1 H1 (W2.un W1) H2
  P : W2.P = D :: W1.P
  fr : H1 D = none
  nP : D ∉ W1.P
theorem LSt.vw {D : Addr} (l : LSt W1 H1 D W2 H2) : Vw W1 H1 W2 H2 := by
  refine ⟨fun b u e => ?_, l.st.pre⟩
  have n : b ≠ D := ne_of_none (msk_some.mp e).2 l.fr
  obtain ⟨h1, h2⟩ := msk_some.mp (l.st.same b u e)
  obtain ⟨a1, a2, a3⟩ := Wd.notL.mp h1
  exact msk_some.mpr ⟨Wd.notL.mpr ⟨a1, a2, by rw [l.P]; exact fun z => (List.mem_cons.mp z).elim n a3⟩, h2⟩
theorem LSt.step {D : Addr} {W3 : Wd} {H3 : Hp} (l : LSt W1 H1 D W2 H2) (s : Step W2 H2 W3 H3) : LSt W1 H1 D W3 H3 := by
  have vw := l.vw.trans s.vw
  have hP : W3.P = D :: W1.P := s.prv.trans l.P
  refine ⟨⟨fun b u e => ?_, fun b h => l.st.there b (s.there b h), fun b h => (s.new b h).elim (l.st.new b) fun z => .inr (l.st.there b z), vw.pre, fun b h => ?_, rfl, fun b h => ?_⟩, hP, l.fr, l.nP⟩
  · obtain ⟨h1, h2⟩ := msk_some.mp (vw.same b u e)
    obtain ⟨a1, a2, a3⟩ := Wd.notL.mp h1
    exact msk_some.mpr ⟨Wd.notL.mpr ⟨a1, a2, fun z => a3 (by rw [hP]; exact List.mem_cons_of_mem _ z)⟩, h2⟩
  · rcases s.sto b h with z | z | z
    · exact l.st.sto b z
    · exact .inr (l.st.new b z)
    · exact .inr (.inr (l.st.there b z))
  · exact (s.pk b (by rw [l.P]; exact List.mem_cons_of_mem _ h)).trans (l.st.pk b h)
theorem LSt.poke {D : Addr} {o : HO} (l : LSt W1 H1 D W2 H2) : LSt W1 H1 D W2 (upd H2 D o) := by
  refine ⟨⟨fun b u e => ?_, fun b h => ?_, l.st.new, l.st.pre, l.st.sto, rfl, fun b h => ?_⟩, l.P, l.fr, l.nP⟩
  · obtain ⟨h1, h2⟩ := msk_some.mp (l.st.same b u e)
    exact msk_some.mpr ⟨h1, by rw [upd_ne (ne_of_none (msk_some.mp e).2 l.fr)]; exact h2⟩
  · by_cases z : b = D
    · rw [z]; exact l.fr
    · rw [upd_ne z] at h
      exact l.st.there b h
  · have n : b ≠ D := fun z => l.nP (z ▸ h)
    rw [upd_ne n]
    exact l.st.pk b h
theorem LSt.start {D : Addr} {o : HO} (hD : H1 D = none) (hP : D ∉ W1.P) : LSt W1 H1 D (W1.keep D) (upd H1 D o) := by
  refine ⟨?_, rfl, hD, hP⟩
  exact Step.alloc hD hP
/-- the end: the list is owned -/
theorem LSt.fin {D : Addr} (l : LSt W1 H1 D W2 H2) : Step W1 H1 ⟨D :: W2.O, W2.S, W1.P⟩ H2 := by
  refine ⟨fun b u e => ?_, l.st.there, fun b h => ?_, l.st.pre, l.st.sto, rfl, l.st.pk⟩
  · have n : b ≠ D := ne_of_none (msk_some.mp e).2 l.fr
    obtain ⟨h1, h2⟩ := msk_some.mp (l.st.same b u e)
    obtain ⟨a1, a2, a3⟩ := Wd.notL.mp h1
    exact msk_some.mpr ⟨Wd.notL.mpr ⟨fun z => (List.mem_cons.mp z).elim n a1, a2, a3⟩, h2⟩
  · rcases List.mem_cons.mp h with z | z
    · rw [z]; exact .inr l.fr
    · exact l.st.new b z
theorem LSt.fin_m {D : Addr} (l : LSt W1 H1 D W2 H2) : Wd.m ⟨D :: W2.O, W2.S, W1.P⟩ H2 = W2.m H2 := by
  funext b
  unfold Wd.m msk
  have e : b ∈ Wd.L ⟨D :: W2.O, W2.S, W1.P⟩ ↔ b ∈ W2.L := by
    simp only [Wd.L, l.P, List.mem_append, List.mem_cons]
    constructor
    · rintro ((h | h) | h | h) <;> simp [h]
    · rintro (h | h | h | h) <;> simp [h]
  by_cases h : b ∈ W2.L
  · rw [if_pos h, if_pos (e.mpr h)]
  · rw [if_neg h, if_neg (fun z => h (e.mp z))]
theorem LSt.fin_R {D : Addr} {vs : List Nat} {e0 : DE} (l : LSt W1 H1 D W2 H2) (hD : ∃ o, H2 D = some o) (R1 : RE K W1 H1 e0 σ) (R : RSt K W2 H2 ⟨wipeE vs s.e, s.t⟩ (L2.wipe σ vs)) : RSt K ⟨D :: W2.O, W2.S, W1.P⟩ H2 ⟨restE vs e0 s.e, s.t⟩ σ := by
  have hm := l.fin_m
  have con : ∀ {p : PV} {a : Addr}, Con K W2 H2 p a → Con K ⟨D :: W2.O, W2.S, W1.P⟩ H2 p a := fun {p a} c => by
    unfold Con at c ⊢
    rw [hm]
    exact c
  have stf := l.fin
  have len : s.e.length = σ.length := by
    have := R.e.len
    rw [wipeE_len, wipe_length] at this
    exact this
  have out : ∀ {j : Nat}, j ∉ vs → (wipeE vs s.e)[j]? = s.e[j]? ∧ (L2.wipe σ vs)[j]? = σ[j]? := fun {j} h => ⟨by rw [wipeE_get, if_neg h], by rw [wipe_get, if_neg h]⟩
  have get : ∀ {j : Nat} {p : PV}, (restE vs e0 s.e)[j]? = some (.own p) → j ∉ vs ∧ s.e[j]? = some (.own p) := fun {j p} h => by
    rw [restE_get] at h
    split at h
    · cases e : s.e[j]? with
      | none => rw [e] at h; cases h
      | some z =>
        rw [e] at h
        have h := Option.some.inj h
        unfold rest1 at h
        split at h <;> cases h
    · rename_i hj
      exact ⟨hj, h⟩
  refine ⟨⟨by rw [restE_len]; exact len, fun j p h => ?_, fun j p h => ?_, fun i j p q a h1 h2 h3 h4 => ?_⟩, ⟨R.t.len, fun k p a e1 e2 => con (R.t.at_ k p a e1 e2), R.t.nd, fun a ha => ?_, fun a ha => ?_, fun a ha z => ?_, fun a ha z => R.t.ps a ha (by rw [l.P]; exact List.mem_cons_of_mem _ z), fun a ha => (List.mem_cons.mp ha).elim (fun z => z ▸ hD) (R.t.ot a)⟩⟩
  · by_cases hj : j ∈ vs
    · rw [restE_get, if_pos hj] at h
      cases e : s.e[j]? with
      | none => rw [e] at h; cases h
      | some z =>
        rw [e] at h
        have h := Option.some.inj h
        unfold rest1 at h
        split at h
        · rename_i q hq
          have hq2 : e0[j]? = some (.val q) := by
            have : j < e0.length := by
              rw [R1.len, ← len]
              exact (List.getElem?_eq_some_iff.mp e).1
            rw [List.getD_eq_getElem?_getD, List.getElem?_eq_getElem this] at hq
            rw [List.getElem?_eq_getElem this]
            exact congrArg some hq
          cases h
          obtain ⟨v, e1, r⟩ := R1.at_ j _ hq2
          exact ⟨v, e1, stf.rv r⟩
        · cases h
    · obtain ⟨e1, e2⟩ := out hj
      rw [restE_get, if_neg hj, ← e1] at h
      obtain ⟨v, h1, h2⟩ := R.e.at_ j p h
      rw [e2] at h1
      refine ⟨v, h1, ?_⟩
      show Rep K W2.S (Wd.m ⟨D :: W2.O, W2.S, W1.P⟩ H2) p v
      rw [hm]
      exact h2
  · obtain ⟨hj, h⟩ := get h
    obtain ⟨e1, e2⟩ := out hj
    obtain ⟨a, h1, h2, h3⟩ := R.e.ow j p (e1.trans h)
    rw [e2] at h1
    exact ⟨a, h1, List.mem_cons_of_mem _ h2, con h3⟩
  · obtain ⟨hi, g1⟩ := get h1
    obtain ⟨hj, g2⟩ := get h2
    obtain ⟨u1, u2⟩ := out hi
    obtain ⟨w1, w2⟩ := out hj
    exact R.e.inj i j p q a (u1.trans g1) (w1.trans g2) (u2.trans h3) (w2.trans h4)
  · rcases List.mem_cons.mp ha with z | z
    · rw [z]
      intro y
      exact R.t.ps D y (by rw [l.P]; exact List.mem_cons_self)
    · exact R.t.ap a z
  · obtain ⟨o, ho⟩ := R.t.pt a (by rw [l.P]; exact List.mem_cons_of_mem _ ha)
    exact ⟨o, ho⟩
  · rcases List.mem_cons.mp ha with y | y
    · rw [y] at z
      exact l.nP z
    · exact R.t.pa a y (by rw [l.P]; exact List.mem_cons_of_mem _ z)
theorem rvs_poke {D : Addr} {o : HO} {ps : List PV} {vs : List V} (h : D ∈ W.P) (r : RVs K W H ps vs) : RVs K W (upd H D o) ps vs := by
  show Reps K W.S (W.m (upd H D o)) ps vs
  rw [Wd.m_upd (by simp [Wd.L, h])]
  exact r
end
variable {it : IM} {t : Tg} {tt : TM} {vs : List Nat}
theorem lcL_cons (p : PV) (ps acc : List PV) (s : DS) : lcL t tt f vs (p :: ps) acc s = match asgT t p (wipeE vs s.e) with
    | none => .bad
    | some e' => (tt ⟨e', s.t⟩).bind fun b s1 => if b = true then (f s1).bind fun y s2 => if acc.length < sizeLine then lcL t tt f vs ps (acc ++ [y]) s2 else .bad
      else lcL t tt f vs ps acc s1 := rfl
theorem wipe_wipe (σ : L2.St) : L2.wipe (L2.wipe σ vs) vs = L2.wipe σ vs := by
  refine List.ext_getElem? fun j => ?_
  rw [wipe_get, wipe_get]
  split
  · cases σ[j]? <;> rfl
  · rfl
theorem restE_own {e0 e : DE} {j : Nat} {p : PV} (h : (restE vs e0 e)[j]? = some (.own p)) : j ∉ vs ∧ e[j]? = some (.own p) := by
  rw [restE_get] at h
  split at h
  · cases e1 : e[j]? with
    | none => rw [e1] at h; cases h
    | some z =>
      rw [e1] at h
      have h := Option.some.inj h
      unfold rest1 at h
      split at h <;> cases h
  · rename_i hj
    exact ⟨hj, h⟩
theorem tLc_of {Q : VK} {σ : L2.St} {H : Hp} {K : PySem.W.Frag} (ht : tgIn t vs = true) (h : tO K Z (lcO it t tt f vs) σ H Q) : tLc (tI K Z it) (gX K t) (tT K Z0 tt) (tE K Z0 f) vs σ H Q := by
  obtain ⟨W, s, R, h⟩ := h
  refine ⟨W, s, R, Post.bind h fun ps s1 J W1 H1 _ st0 R1 G q D hD => ?_⟩
  have G : Goes K J ps W1 H1 := G
  obtain ⟨W1', stN, R1', hL⟩ := R1.newL hD
  obtain ⟨nO, nS, nP⟩ := Wd.notL.mp hL
  have q := Post.step q stN
  obtain ⟨Rk, vk⟩ := R1'.keep (o := .lst []) hD nO
  refine ⟨fun i m H2 => m = ps.length - i ∧ i ≤ ps.length ∧ ∃ W2 s2 acc av, LSt W1' H1 D W2 H2 ∧ RSt K W2 H2 ⟨wipeE vs s2.e, s2.t⟩ (L2.wipe σ vs) ∧ H2 D = some (.lst av) ∧ RVs K W2 H2 acc av ∧ lcL t tt f vs ps [] s1 = lcL t tt f vs (ps.drop i) acc s2,
    ⟨ps.length, by simp, Nat.zero_le _, W1'.keep D, s1, [], [], LSt.start hD nP, Rk.wipe vs, upd_same, reps_nil, rfl⟩, ?_⟩
  rintro i m H2 ⟨rfl, hi, W2, s2, acc, av, l, R2, hA, rA, eq⟩
  have vw : Vw W1 H1 W2 H2 := stN.vw.trans l.vw
  by_cases hlt : i < ps.length
  · refine .inr ⟨G.go W2 H2 i vw hlt, fun H2 => i + 1 ≤ ps.length ∧ ∃ W2 s2 acc av, LSt W1' H1 D W2 H2 ∧ RSt K W2 H2 ⟨wipeE vs s2.e, s2.t⟩ (L2.wipe σ vs) ∧ H2 D = some (.lst av) ∧ RVs K W2 H2 acc av ∧ lcL t tt f vs ps [] s1 = lcL t tt f vs (ps.drop (i + 1)) acc s2, fun H' z => ⟨ps.length - (i + 1), by omega, rfl, z⟩, fun x H3 y => ?_⟩
    obtain ⟨W3, st3, R3, rv⟩ := G.yld W2 H2 i x H3 ps[i] ⟨wipeE vs s2.e, s2.t⟩ (L2.wipe σ vs) vw (List.getElem?_eq_getElem hlt) R2 y
    have l3 := l.step st3
    have eq2 := eq
    rw [List.drop_eq_getElem_cons hlt, lcL_cons] at eq2
    -- the result is no failure
    have good : ∀ {P : Prop}, (lcL t tt f vs ps [] s1 = .bad ∨ ∃ x s', lcL t tt f vs ps [] s1 = .exc x s') → P := fun {P} z => by
      rcases z with z | ⟨x, s', z⟩ <;> (rw [z] at q; exact q.elim)
    cases e1 : asgT t ps[i] (wipeE vs s2.e) with
    | none => simp only [e1] at eq2; exact good (.inl eq2)
    | some e2 =>
      simp only [e1] at eq2
      refine ⟨W3, ⟨wipeE vs s2.e, s2.t⟩, ps[i], R3, rv, e2, e1, fun σ4 hw R4 => ⟨(hw vs ht).trans (wipe_wipe σ), W3, ⟨e2, s2.t⟩, R4, ?_⟩⟩
      have hw4 : L2.wipe σ4 vs = L2.wipe σ vs := (hw vs ht).trans (wipe_wipe σ)
      have inP : ∀ {W' : Wd}, W'.P = D :: W1'.P → D ∈ W'.P := fun z => by rw [z]; exact List.mem_cons_self
      cases e3 : tt ⟨e2, s2.t⟩ with
      | bad => rw [e3] at eq2; exact good (.inl eq2)
      | exc x s3 => rw [e3] at eq2; exact good (.inr ⟨x, s3, eq2⟩)
      | ok b s3 =>
        rw [e3] at eq2
        simp only [Re.bind] at eq2
        intro c W4 H4 st4 R5 rc
        obtain rfl : c = b := rc
        have l4 := l3.step st4
        have hA4 : H4 D = some (.lst av) := by
          rw [st4.pk D (inP l3.P), st3.pk D (inP l.P)]
          exact hA
        cases c with
        | false =>
          rw [if_neg (by decide)] at eq2 ⊢
          exact ⟨hlt, W4, s3, acc, av, l4, by rw [← hw4]; exact R5.wipe vs, hA4, (st3.trans st4).rvs rA, eq2⟩
        | true =>
          rw [if_pos rfl] at eq2 ⊢
          refine ⟨W4, s3, R5, ?_⟩
          cases e4 : f s3 with
          | bad => rw [e4] at eq2; exact good (.inl eq2)
          | exc x s4 => rw [e4] at eq2; exact good (.inr ⟨x, s4, eq2⟩)
          | ok y s4 =>
            rw [e4] at eq2
            simp only at eq2
            intro v W5 H5 st5 R6 rv5
            have l5 := l4.step st5
            have hA5 : H5 D = some (.lst av) := by
              rw [st5.pk D (inP l4.P)]
              exact hA4
            by_cases hz : acc.length < sizeLine
            · rw [if_pos hz] at eq2
              exact ⟨av, hA5, by rw [rA.len]; exact hz, hlt, W5, s4, acc ++ [y], av ++ [v], l5.poke, by rw [← hw4]; exact (R6.wipe vs).poke (inP l5.P), upd_same,
                rvs_poke (inP l5.P) ((((st3.trans st4).trans st5).rvs rA).app (reps_cons rv5 reps_nil)), eq2⟩
            · rw [if_neg hz] at eq2
              exact good (.inl eq2)
  · have e : i = ps.length := by omega
    subst e
    rw [List.drop_length] at eq
    refine .inl ⟨G.stop W2 H2 vw, ?_⟩
    rw [eq] at q
    refine q (.ref D) ⟨D :: W2.O, W2.S, W1'.P⟩ H2 l.fin (l.fin_R ⟨_, hA⟩ R1'.e R2) ⟨D, rfl, List.mem_cons_self, ?_, fun j p hj z => ?_⟩
    · refine ⟨av, hA, ?_⟩
      show Reps K W2.S (Wd.m ⟨D :: W2.O, W2.S, W1'.P⟩ H2) acc av
      rw [l.fin_m]
      exact rA
    · obtain ⟨hj, hj2⟩ := restE_own hj
      obtain ⟨a, g1, g2, _⟩ := R2.e.ow j p (by rw [wipeE_get, if_neg hj]; exact hj2)
      rw [wipe_get, if_neg hj] at g1
      rw [g1] at z
      have za : a = D := by injection z with z; injection z with z; injection z
      exact R2.t.pa a g2 (by rw [l.P, za]; exact List.mem_cons_self)
structure PTsX (X : Cx) (ifs : List Expr) (f : TM) : Prop where
  pts : PTs X ifs (tT X.K Z0 f)
def yesT : TM := fun s => .ok true s
theorem t_nil : PTsX X [] yesT := ⟨⟨fun pins s σ H Q I ⟨W, s1, R, h⟩ => L2.pts_nil.run pins s σ H Q I (h true W H (Step.refl _ _) R rfl)⟩⟩
theorem t_one {c : Expr} (h : PTX X Z0 c tt) : PTsX X [c] tt := ⟨L2.pts_one h.pt⟩
/-- the block of a comprehension, wherever it starts -/
def Blk (X : Cx) (scope : Scope) (C : Cx → Prop) : Prop := ∀ (s : Shared) (H : Hp) (L : Addr) (cl : List (Str × Addr)) (fp : List Addr), C (X.blk s H scope (compEnvC scope cl L X.env) fp)
theorem po_lc {elt tgt iter : Expr} {ifs : List Expr} {scope : Scope} {own : List (Str × Nat)} (hc : X.calm = true) (hN : X.N.Nodup) (hi : PIX X Z tgt iter it) (ok : BlkOk X.N X.env.scope scope own) (hg : Blk X scope fun Y => PGX Y tgt t) (ht : Blk X scope fun Y => PTsX Y ifs tt) (he : Blk X scope fun Y => PX Y Z0 elt f)
    (hv : own.map (·.2) = vs := by rfl) (hin : tgIn t vs = true := by rfl) (hs : ∀ x, foldedSetIterable iter X.env x = pure x := by intro _; rfl) : PO X Z (.ListComp elt [⟨tgt, iter, ifs, 0⟩] scope pos) (lcO it t tt f vs) := by
  subst hv
  exact ⟨PE_imp (L2.pe_lc (wi := tI X.K Z it) (g := gX X.K t) (tt := tT X.K Z0 tt) (te := tE X.K Z0 f) hc hN hi.pi ok (fun s H L cl fp => (hg s H L cl fp).pg) (fun s H L cl fp => (ht s H L cl fp).pts) (fun s H L cl fp => (he s H L cl fp).pe) hs) fun σ H Q h => tLc_of hin h⟩
theorem ps_setLcX {i : Nat} {y : Str} {py spos : Pos} {elt tgt iter : Expr} {ifs : List Expr} {scope : Scope} {own : List (Str × Nat)} (hc : X.calm = true) (hN : X.N.Nodup) (hy : X.N[i]? = some y) (hyl : X.env.scope.names.lookup y = some .local)
    (hsw : swapsWith (.ListComp elt [⟨tgt, iter, ifs, 0⟩] scope pos) (some (.Name y py)) spos.line X.env = pure true) (hi : PIX X Z tgt iter it) (ok : BlkOk X.N X.env.scope scope own) (hg : Blk X scope fun Y => PGX Y tgt t) (ht : Blk X scope fun Y => PTsX Y ifs tt) (he : Blk X scope fun Y => PX Y Z0 elt f)
    (hv : own.map (·.2) = vs := by rfl) (hin : tgIn t vs = true := by rfl) (hs : ∀ x, foldedSetIterable iter X.env x = pure x := by intro _; rfl) : PSX X Z (.Assign [.Name y py] (.ListComp elt [⟨tgt, iter, ifs, 0⟩] scope pos) spos) (setS i (lcO it t tt f vs)) := by
  subst hv
  refine ⟨PS_imp (L2.ps_setLc (wi := tI X.K Z it) (g := gX X.K t) (tt := tT X.K Z0 tt) (te := tE X.K Z0 f) hc hN hy hyl hsw hi.pi ok (fun s H L cl fp => (hg s H L cl fp).pg) (fun s H L cl fp => (ht s H L cl fp).pts) (fun s H L cl fp => (he s H L cl fp).pe) hs) fun D σ H ⟨W, s, R, h⟩ => ?_⟩
  exact tLc_of hin ⟨W, s, R, PostS.bindE h fun p s1 y W1 H1 _ st R1 ry q => q _ W1 H1 (Step.refl _ _) (R1.put ry)⟩
end
end DR
/-! DR: functions and calls. -/
namespace DR
open PySem PySem.Spec PyProof.Rows L2
/-- how a call ends -/
inductive FR where
  | ok (p : PV) (fr : Bool) (t : DT) | exc (x : Exn) (t : DT) | bad
abbrev SemF := List PV → DT → FR
def frameE (n : Nat) (ps : List PV) : DE := ps.map Sl.val ++ List.replicate (n - ps.length) .no
/-- a def by its body over n names -/
def bodyF (n : Nat) (b : SM) : SemF := fun ps t => match b ⟨frameE n ps, t⟩ with
  | .ok (.rt p fr) s => .ok p fr s.t
  | .ok .nx s => .ok .non false s.t
  | .ok .bk _ => .bad
  | .ok .ct _ => .bad
  | .exc x s => .exc x s.t
  | .bad => .bad
def rF (K : PySem.W.Frag) (W : Wd) (H : Hp) (p : PV) (fr : Bool) (v : V) : Prop := if fr = true then ∃ a, v = .ref a ∧ a ∈ W.O ∧ Con K W H p a else RV K W H p v
def PostF (K : PySem.W.Frag) (W : Wd) (H : Hp) (r : FR) (Q : VK) (E : XK) : Prop := match r with
  | .ok p fr t' => ∀ v W' H', Step W H W' H' → RS K W' H' t' → rF K W' H' p fr v → Q v H'
  | .exc x t' => ∀ d W' H', Step W H W' H' → RS K W' H' t' → XR K W' H' x d → E (.ref x.C) d H'
  | .bad => False
/-- the promise of a def of n parameters -/
def spF (K : PySem.W.Frag) (n : Nat) (f : SemF) : Sp := fun vs H Q E => vs.length = n ∧ ∃ W t ps, W.O = [] ∧ RS K W H t ∧ RVs K W H ps vs ∧ PostF K W H (f ps t) Q E
section
variable {P : Program} {w : World} {K : PySem.W.Frag} {mg : Str → Option Value} {base : Heap}
theorem frame_start {W : Wd} {H : Hp} {t : DT} {ps : List PV} {vs : List V} {N : List Str} (hO : W.O = []) (R : RS K W H t) (r : RVs K W H ps vs) (hl : vs.length ≤ N.length) : RSt K W H ⟨frameE N.length ps, t⟩ (L2.start N vs) := by
  have hp : ps.length = vs.length := r.len.symm
  have get : ∀ {i : Nat} {sl : Sl}, (frameE N.length ps)[i]? = some sl → sl ≠ .no → ∃ p, ps[i]? = some p ∧ sl = .val p := fun {i sl} e hn => by
    unfold frameE at e
    by_cases hi : i < ps.length
    · rw [List.getElem?_append_left (by simpa using hi), List.getElem?_map, List.getElem?_eq_getElem hi] at e
      exact ⟨_, List.getElem?_eq_getElem hi, (Option.some.inj e).symm⟩
    · rw [List.getElem?_append_right (by simpa using hi), List.getElem?_replicate] at e
      split at e
      · exact absurd (Option.some.inj e).symm hn
      · cases e
  refine ⟨⟨?_, fun i p e => ?_, fun i p e => ?_, fun i j p q a h1 => ?_⟩, R⟩
  · unfold frameE L2.start
    simp only [List.length_append, List.length_map, List.length_replicate, hp]
  · obtain ⟨q, e1, e2⟩ := get e (by simp)
    cases e2
    obtain ⟨v, e3, rv⟩ := r.get e1
    refine ⟨v, ?_, rv⟩
    unfold L2.start
    have hi : i < vs.length := (List.getElem?_eq_some_iff.mp e3).1
    rw [List.getElem?_append_left (by simpa using hi), List.getElem?_map, e3]
    rfl
  · obtain ⟨q, e1, e2⟩ := get e (by simp)
    cases e2
  · obtain ⟨q, e1, e2⟩ := get h1 (by simp)
    cases e2
/-- THE RULE for a def -/
theorem fn_okX {x qual : Str} {st : Stmt} {f : Addr} {fd : FuncData} {N ps : List Str} {k : Nat} {b : SM} (F : Fun K x qual st f fd) (S : FnScope N ps (defScope st))
    (hb : ∀ (cdv : Value) (A : Around) (outer : List PySem.Env) (s : Shared) (H : Hp) (E : XK), Room k (A.deeper (envOfC qual (defScope st) s.heap.objs.size f cdv)) →
      PSsX (cxOf (L2.CX P w) P w K mg base N qual (defScope st) f cdv A outer s H E) (fun cls d _ H => E cls d H) (defBody st) b) : FnOk P w K mg base (L2.CX P w) (k + 1) f fd ps (spF K ps.length (bodyF N.length b)) := by
  refine F.okX S (fun vs H Q E h => h.1) fun cdv A outer s H vs Q E hr h => ⟨_, (hb cdv A outer s H E hr).ps, ?_⟩
  obtain ⟨hl, W, t, qs, hO, R, rv, post⟩ := h
  have hN : ps.length ≤ N.length := by
    have := congrArg List.length S.pre
    rw [List.length_take] at this
    omega
  refine ⟨W, ⟨frameE N.length qs, t⟩, frame_start hO R rv (by rw [hl]; exact hN), ?_⟩
  unfold bodyF at post
  cases e : b ⟨frameE N.length qs, t⟩ with
  | bad => rw [e] at post; exact post.elim
  | exc x s1 => rw [e] at post; exact fun σ' d W' H' st R' xr => post d W' H' st R'.t xr
  | ok fl s1 =>
    rw [e] at post
    cases fl with
    | nx => exact fun σ' W' H' st R' => post .non W' H' st R'.t (show RV K W' H' .non .non from rv_non)
    | bk => exact post.elim
    | ct => exact post.elim
    | rt p fr =>
      intro σ' v W' H' st R' ro
      refine post v W' H' st R'.t ?_
      cases fr with
      | false => exact ro
      | true =>
        obtain ⟨a, e1, e2, e3, _⟩ := ro
        exact ⟨a, e1, e2, e3⟩
theorem fn_okD {x qual : Str} {params : Arguments} {body : List Stmt} {scope : Scope} {dvs : List V} {kws : List (Str × V)} {f : Addr} {fd : FuncData} {N ps : List Str} {k : Nat} {b : SM} (F : FunD K x qual params body scope dvs kws f fd) (S : FnScope N ps scope)
    (hb : ∀ (cdv : Value) (A : Around) (outer : List PySem.Env) (s : Shared) (H : Hp) (E : XK), Room k (A.deeper (envOfC qual scope s.heap.objs.size f cdv)) →
      PSsX (cxOf (L2.CX P w) P w K mg base N qual scope f cdv A outer s H E) (fun cls d _ H => E cls d H) body b) : FnOk P w K mg base (L2.CX P w) (k + 1) f fd ps (spF K ps.length (bodyF N.length b)) := by
  refine F.ok S (fun vs H Q E h => h.1) fun cdv A outer s H vs Q E hr h => ⟨_, (hb cdv A outer s H E hr).ps, ?_⟩
  obtain ⟨hl, W, t, qs, hO, R, rv, post⟩ := h
  have hN : ps.length ≤ N.length := by
    have := congrArg List.length S.pre
    rw [List.length_take] at this
    omega
  refine ⟨W, ⟨frameE N.length qs, t⟩, frame_start hO R rv (by rw [hl]; exact hN), ?_⟩
  unfold bodyF at post
  cases e : b ⟨frameE N.length qs, t⟩ with
  | bad => rw [e] at post; exact post.elim
  | exc x s1 => rw [e] at post; exact fun σ' d W' H' st R' xr => post d W' H' st R'.t xr
  | ok fl s1 =>
    rw [e] at post
    cases fl with
    | nx => exact fun σ' W' H' st R' => post .non W' H' st R'.t (show RV K W' H' .non .non from rv_non)
    | bk => exact post.elim
    | ct => exact post.elim
    | rt p fr =>
      intro σ' v W' H' st R' ro
      refine post v W' H' st R'.t ?_
      cases fr with
      | false => exact ro
      | true =>
        obtain ⟨a, e1, e2, e3, _⟩ := ro
        exact ⟨a, e1, e2, e3⟩
/-- a def of the module, by what it is worth -/
structure Fd (P : Program) (w : World) (K : PySem.W.Frag) (mg : Str → Option Value) (base : Heap) (x : Str) (k n : Nat) (sem : SemF) : Prop where
  ex : ∃ (f : Addr) (fd : FuncData) (ps : List Str), mg x = some (.ref f) ∧ FnOk P w K mg base (L2.CX P w) k f fd ps (spF K n sem) ∧ PySem.W.keepIn K (.ref f) = true ∧ Binds K fd ps [] ∧ ps.length = n
theorem Fd.mk' {x qual : Str} {params : Arguments} {body : List Stmt} {scope : Scope} {kws : List (Str × V)} {f : Addr} {fd : FuncData} {ps : List Str} {k n : Nat} {sem : SemF} (F : FunD K x qual params body scope [] kws f fd) (hm : mg x = some (.ref f)) (hn : ps.length = n)
    (hb : ∀ (kV doc pm : Value) (an : Option Addr) (cdv ct : Value) (us : List Value), us.length = ps.length → bindArgs (PySem.W.fnOf x qual params body scope .none kV doc pm an cdv ct) ⟨us, []⟩ = pure (ps.zip us))
    (ok : FnOk P w K mg base (L2.CX P w) k f fd ps (spF K ps.length sem)) : Fd P w K mg base x k n sem := by
  subst hn
  exact ⟨f, fd, ps, hm, ok, F.kp, F.bindsN hb, rfl⟩
end
/-! ### the worlds of caller and callee -/
def Wd.call (W : Wd) : Wd := ⟨[], W.S, W.O ++ W.P⟩
def Wd.back (W W' : Wd) : Wd := ⟨W.O ++ W'.O, W'.S, W.P⟩
theorem m_of_iff {W W' : Wd} {H : Hp} (h : ∀ b, b ∈ W.L ↔ b ∈ W'.L) : W.m H = W'.m H := by
  funext b
  unfold Wd.m msk
  by_cases hb : b ∈ W.L
  · rw [if_pos hb, if_pos ((h b).mp hb)]
  · rw [if_neg hb, if_neg fun z => hb ((h b).mpr z)]
theorem con_m {K : PySem.W.Frag} {W W' : Wd} {H : Hp} {p : PV} {a : Addr} (hm : W.m H = W'.m H) (hS : W.S = W'.S) (c : Con K W H p a) : Con K W' H p a := by
  unfold Con at c ⊢
  rw [← hm, ← hS]
  exact c
section
variable {K : PySem.W.Frag} {W W' : Wd} {H H' : Hp} {s : DS} {σ : L2.St} {t : DT}
theorem call_m : W.call.m H = W.m H := m_of_iff fun b => by
  simp only [Wd.L, Wd.call, List.mem_append, List.not_mem_nil, false_or]
  constructor
  · rintro (h | h | h) <;> simp [h]
  · rintro (h | h | h) <;> simp [h]
theorem RSt.call (R : RSt K W H s σ) : RS K W.call H s.t :=
  ⟨R.t.len, fun k p a e1 e2 => con_m call_m.symm rfl (R.t.at_ k p a e1 e2), R.t.nd, fun a h => (nomatch (show a ∈ ([] : List Addr) from h)), fun a h => (List.mem_append.mp h).elim (R.t.ot a) (R.t.pt a), fun a h => (nomatch (show a ∈ ([] : List Addr) from h)), fun a h z => (List.mem_append.mp z).elim (fun y => R.t.ap a y h) (R.t.ps a h), fun a h => (nomatch (show a ∈ ([] : List Addr) from h))⟩
theorem back_m (hP : W'.P = W.O ++ W.P) : (W.back W').m H = W'.m H := m_of_iff fun b => by
  simp only [Wd.L, Wd.back, hP, List.mem_append]
  constructor
  · rintro ((h | h) | h | h) <;> simp [h]
  · rintro (h | h | h | h) <;> simp [h]
theorem Step.back (R : RSt K W H s σ) (st : Step W.call H W' H') : Step W H (W.back W') H' := by
  have hP : W'.P = W.O ++ W.P := st.prv
  refine ⟨?_, st.there, fun b h => ?_, st.pre, fun b h => ?_, rfl, fun b h => st.pk b (List.mem_append_right _ h)⟩
  · rw [back_m hP, ← call_m]
    exact st.same
  · rcases List.mem_append.mp h with h | h
    · exact .inl h
    · exact .inr ((st.new b h).elim (fun z => by cases z) id)
  · rcases st.sto b h with z | z | z
    · exact .inl z
    · cases z
    · exact .inr (.inr z)
theorem RSt.back (R : RSt K W H s σ) (st : Step W.call H W' H') (R' : RS K W' H' t) : RSt K (W.back W') H' ⟨s.e, t⟩ σ := by
  have hP : W'.P = W.O ++ W.P := st.prv
  have stb := st.back R
  have hpk : ∀ a ∈ W.O, H' a = H a := fun a h => st.pk a (List.mem_append_left _ h)
  refine ⟨⟨R.e.len, fun i p e => ?_, fun i p e => ?_, R.e.inj⟩, ⟨R'.len, fun k p a e1 e2 => con_m (back_m hP).symm rfl (R'.at_ k p a e1 e2), R'.nd, fun a h => ?_, fun a h => ?_, fun a h => ?_, fun a h => ?_, fun a h => ?_⟩⟩
  · obtain ⟨v, h1, h2⟩ := R.e.at_ i p e
    exact ⟨v, h1, stb.rv h2⟩
  · obtain ⟨a, h1, h2, h3⟩ := R.e.ow i p e
    exact ⟨a, h1, List.mem_append_left _ h2, h3.step stb (hpk a h2)⟩
  · rcases List.mem_append.mp h with h | h
    · exact fun z => R'.ps a z (by rw [hP]; exact List.mem_append_left _ h)
    · exact R'.ap a h
  · exact R'.pt a (by rw [hP]; exact List.mem_append_right _ h)
  · rcases List.mem_append.mp h with h | h
    · exact R.t.pa a h
    · exact fun z => R'.pa a h (by rw [hP]; exact List.mem_append_right _ z)
  · exact fun z => R'.ps a h (by rw [hP]; exact List.mem_append_right _ z)
  · rcases List.mem_append.mp h with h | h
    · obtain ⟨o, ho⟩ := R.t.ot a h
      exact ⟨o, by rw [hpk a h]; exact ho⟩
    · exact R'.ot a h
theorem rO_back (R : RSt K W H s σ) (st : Step W.call H W' H') (R' : RS K W' H' t) {p : PV} {fr : Bool} {v : V} (r : rF K W' H' p fr v) : rO K σ (W.back W') H' ⟨s.e, t⟩ (p, fr) v := by
  have hP : W'.P = W.O ++ W.P := st.prv
  cases fr with
  | false =>
    show Rep K W'.S ((W.back W').m H') p v
    rw [back_m hP]
    exact r
  | true =>
    obtain ⟨a, e1, e2, e3⟩ := r
    refine ⟨a, e1, List.mem_append_right _ e2, con_m (back_m hP).symm rfl e3, fun i q hi z => ?_⟩
    obtain ⟨b, h1, h2, h3⟩ := R.e.ow i q hi
    rw [h1] at z
    have zb : b = a := by injection z with z; injection z with z; injection z
    subst zb
    exact R'.pa b e2 (by rw [hP]; exact List.mem_append_left _ h2)
end
def callF (f : SemF) (ps : List PV) (s : DS) : Re (PV × Bool) := match f ps s.t with
  | .ok p fr t' => .ok (p, fr) ⟨s.e, t'⟩
  | .exc x t' => .exc x ⟨s.e, t'⟩
  | .bad => .bad
def callO (f : SemF) (fa : AM) : OM := fun s => (fa s).bind fun ps s1 => callF f ps s1
theorem callF_post {K : PySem.W.Frag} {Z : WX} {W : Wd} {H : Hp} {s : DS} {σ : L2.St} {f : SemF} {ps : List PV} {vs : List V} {Q : VK} {n : Nat} (hn : vs.length = n) (R : RSt K W H s σ) (r : RVs K W H ps vs) (q : Post rO K Z σ W H (callF f ps s) Q) :
    spF K n f vs H Q (fun cls d H' => Z cls d σ H') := by
  refine ⟨hn, W.call, s.t, ps, rfl, R.call, ?_, ?_⟩
  · show Reps K W.S (W.call.m H) ps vs
    rw [call_m]
    exact r
  · unfold callF at q
    cases e : f ps s.t with
    | bad => rw [e] at q; exact q.elim
    | exc x t' =>
      rw [e] at q
      intro d W' H' st R' xr
      refine q d _ H' (st.back R) (R.back st R') ?_
      unfold XR at xr ⊢
      cases hx : x.fs with
      | none => rw [hx] at xr; exact xr
      | some l =>
        rw [hx] at xr
        obtain ⟨dd, ws, h1, h2, h3⟩ := xr
        refine ⟨dd, ws, h1, ?_, ?_⟩
        · rw [back_m st.prv]; exact h2
        · rw [back_m st.prv]; exact h3
    | ok p fr t' =>
      rw [e] at q
      exact fun v W' H' st R' rf => q v _ H' (st.back R) (R.back st R') (rO_back R st R' rf)
section
variable {X : Cx} {Z : WX} {x : Str} {p pos : Pos} {e : Expr} {es : List Expr} {fa : AM} {sem : SemF} {k j n : Nat}
theorem len_of_consA {K : PySem.W.Frag} {W : Wd} {H : Hp} {ps : List PV} {vs : List V} (r : RVs K W H ps vs) (h : ps.length = n) : vs.length = n := by rw [r.len, h]
/-- f(e, ..) -/
theorem po_call (h : Fd X.prog X.w X.K X.mg X.base x j n sem) (hr : Room k X.A) (hk : j ≤ k) (hg : Gl X x) (tk : Takes X Z) (ha : PAX X Z (e :: es) fa) (hlen : ∀ s ps s1, fa s = .ok ps s1 → ps.length = n) (hdb : (x == ("__debug__" : Str)) = false := by decide)
    (he : starEach (e :: es) X.env = (false, eval e X.env) :: starEach es X.env := by rfl) (hpl : (backTo pos (starEach es X.env)).any (·.1) = false := by rfl) : PO X Z (.Call (.Name x p) (e :: es) [] pos) (callO sem fa) := by
  obtain ⟨f, fd, qs, hm, F, kp, b, hl⟩ := h.ex
  refine ⟨PE_imp (L2.pe_callSD (E := fun σ cls d H' => Z cls d σ H') F (hr.mono hk) hg hm kp b (dvs := []) .nil (fun σ => passAt tk σ) ha.pa hdb he hpl) fun σ H Q ⟨W, s, R, h⟩ => ⟨W, s, R, Post.bind h fun ps s1 vs W1 H1 es st R1 r q => ?_⟩⟩
  have r : RVs X.K W1 H1 ps vs := r
  show spF X.K n sem (vs ++ []) H1 Q _
  rw [List.append_nil]
  exact callF_post (len_of_consA r (hlen s ps s1 es)) R1 r q
theorem len_nilA : ∀ s ps s1, nilA s = .ok ps s1 → ps.length = 0 := fun s ps s1 h => by cases h; rfl
theorem len_cons {f : EM} {g : AM} {n : Nat} (h : ∀ s ps s1, g s = .ok ps s1 → ps.length = n) : ∀ s ps s1, consA f g s = .ok ps s1 → ps.length = n + 1 := fun s ps s1 e => by
  unfold consA at e
  cases e1 : f s with
  | bad => rw [e1] at e; cases e
  | exc x s2 => rw [e1] at e; cases e
  | ok q s2 =>
    rw [e1] at e
    cases e2 : g s2 with
    | bad => simp only [Re.bind, e2] at e; cases e
    | exc x s2 => simp only [Re.bind, e2] at e; cases e
    | ok qs s3 =>
      simp only [Re.bind, e2] at e
      cases e
      simp [h _ qs _ e2]
end
end DR
/-! DR: built-in functions, items, slices, methods. -/
namespace DR
open PySem PySem.Spec PyProof.Rows L2
/-! ### looked at, not handed on -/
def BV (K : PySem.W.Frag) (W : Wd) (H : Hp) (p : PV) (v : V) : Prop := RV K W H p v ∨ ∃ a, v = .ref a ∧ Con K W H p a
def rB : RT PV V := fun K _ W H _ p v => BV K W H p v
structure PB (X : Cx) (Z : WX) (e : Expr) (f : EM) : Prop where
  pe : PE X e (tG rB X.K Z f)
def nameB (i : Nat) : EM := fun s => match s.e[i]? with
  | some (.val (.cell k)) => (match s.t[k]? with
    | some p => .ok p s
    | none => .bad)
  | some (.val p) => .ok p s
  | some (.own p) => .ok p s
  | _ => .bad
section
variable {K : PySem.W.Frag} {W : Wd} {H : Hp} {s : DS} {σ : L2.St} {p : PV} {v : V}
theorem bv_lst {ps : List PV} (h : BV K W H (.lst ps) v) : ∃ a vs, v = .ref a ∧ H a = some (.lst vs) ∧ RVs K W H ps vs := by
  rcases h with h | ⟨a, e, h⟩
  · obtain ⟨a, vs, e, _, h1, h2⟩ := rv_lst_inv h
    exact ⟨a, vs, e, h1, h2⟩
  · obtain ⟨vs, h1, h2⟩ := h
    exact ⟨a, vs, e, h1, h2⟩
theorem bv_tup {c : Bool} {ps : List PV} (h : BV K W H (.tup c ps) v) : ∃ a vs, v = .ref a ∧ SqT K H a vs ∧ RVs K W H ps vs := by
  rcases h with h | ⟨a, e, h⟩
  · exact rv_tup_inv h
  · exact h.elim
theorem bv_scr {ps : List PV} (h : BV K W H (.scr ps) v) : ∃ a vs, v = .ref a ∧ SqL K H a vs ∧ RVs K W H ps vs := by
  rcases h with h | ⟨a, e, h⟩
  · obtain ⟨a, vs, e, h1, h2⟩ := rvS_m h
    exact ⟨a, vs, e, sqL_mono (msk_sub _ _) h1, h2⟩
  · exact h.elim
theorem bv_int {i : Int} (h : BV K W H (.int i) v) : v = .int i := by
  rcases h with h | ⟨a, e, h⟩
  · exact rv_int_inv h
  · exact h.elim
theorem bv_bl {i : Bool} (h : BV K W H (.bl i) v) : v = .bl i := by
  rcases h with h | ⟨a, e, h⟩
  · exact rv_bl_inv h
  · exact h.elim
theorem bv_str {i : Str} (h : BV K W H (.str i) v) : v = .str i := by
  rcases h with h | ⟨a, e, h⟩
  · exact rv_str_inv h
  · exact h.elim
/-- what a name's slot holds, looked at -/
theorem nameB_bv (R : RSt K W H s σ) {i : Nat} {s1 : DS} (h : nameB i s = .ok p s1) : s1 = s ∧ ∃ v, σ[i]? = some (some v) ∧ BV K W H p v := by
  unfold nameB at h
  split at h
  · rename_i k e
    cases e1 : s.t[k]? with
    | none => rw [e1] at h; cases h
    | some q =>
      rw [e1] at h
      cases h
      obtain ⟨v, h1, h2⟩ := R.e.at_ i _ e
      unfold RV Rep at h2
      obtain ⟨a, h3, h4⟩ := h2
      exact ⟨rfl, v, h1, .inr ⟨a, h3, R.t.at_ k _ a e1 h4⟩⟩
  · rename_i q _ e
    cases h
    obtain ⟨v, h1, h2⟩ := R.e.at_ i _ e
    exact ⟨rfl, v, h1, .inl h2⟩
  · rename_i q e
    cases h
    obtain ⟨a, h1, h2, h3⟩ := R.e.ow i _ e
    exact ⟨rfl, .ref a, h1, .inr ⟨a, rfl, h3⟩⟩
  · cases h
theorem nameB_no {i : Nat} {x : Exn} {s1 : DS} (h : nameB i s = .exc x s1) : False := by
  unfold nameB at h
  split at h
  · rename_i k e
    cases e1 : s.t[k]? <;> rw [e1] at h <;> cases h
  · cases h
  · cases h
  · cases h
end
section
variable {X : Cx} {Z : WX} {x : Str} {pos pos' : Pos} {e : Expr} {f : EM}
theorem pb_of (h : PX X Z e f) : PB X Z e f := ⟨PE_imp h.pe fun σ H Q ⟨W, s, R, h⟩ => ⟨W, s, R, by
  cases e1 : f s with
  | bad => rw [e1] at h; exact h
  | exc x s1 => rw [e1] at h; exact h
  | ok p s1 => rw [e1] at h; exact fun v W' H' st R' r => h v W' H' st R' (.inl r)⟩⟩
theorem pb_name (i : Nat) (hN : X.N[i]? = some x := by rfl) (hv : Vis X.env.scope x := by first | exact Or.inl rfl | exact Or.inr (Or.inl rfl) | exact Or.inr (Or.inr rfl)) (hd : (x == ("__debug__" : Str)) = false := by decide)
    (hcd : (x == ("__classdict__" : Str)) = false := by decide) : PB X Z (.Name x pos) (nameB i) := by
  refine ⟨PE_imp (pe_var hN hv hd hcd) fun σ H Q ⟨W, s, R, h⟩ => ?_⟩
  cases e1 : nameB i s with
  | bad => rw [e1] at h; exact h.elim
  | exc x s1 => exact (nameB_no e1).elim
  | ok p s1 =>
    rw [e1] at h
    obtain ⟨rfl, v, h1, h2⟩ := nameB_bv R e1
    exact ⟨v, h1, h v W H (Step.refl _ _) R h2⟩
/-! ### built-ins of one argument -/
abbrev G1 := PV → Option PV
abbrev O1 := PV → Option (PV × Bool)
def Un1 (X : Cx) (f : Value) (g : O1) : Prop := ∀ (Z : WX), ∃ r : List V → Hp → VK → Prop, CallR X f r ∧ ∀ (W : Wd) (H : Hp) (s : DS) (σ : L2.St) (p : PV) (x : V) (res : PV × Bool) (Q : VK), RSt X.K W H s σ → BV X.K W H p x → g p = some res → Post rO X.K Z σ W H (.ok res s) Q → r [x] H Q
def un1O (g : O1) (f : EM) : OM := fun s => (f s).bind fun p s1 => match g p with
  | some r => .ok r s1
  | none => .bad
def g1 (g : G1) : O1 := fun p => (g p).map fun r => (r, false)
def un1E (g : G1) (f : EM) : EM := plainE (un1O (g1 g) f)
theorem Un1.plain {f : Value} {r : List V → Hp → VK → Prop} {g : G1} (c : CallR X f r) (k : ∀ (W : Wd) (H : Hp) (p : PV) (x : V) (res : PV) (Q : VK), BV X.K W H p x → g p = some res → (∀ v, RV X.K W H res v → Q v H) → r [x] H Q) : Un1 X f (g1 g) := fun Z => by
  refine ⟨r, c, fun W H s σ p x res Q R rx e po => ?_⟩
  simp only [g1, Option.map_eq_some_iff] at e
  obtain ⟨z, e, rfl⟩ := e
  exact k W H p x z Q rx e fun v rv => po v W H (Step.refl _ _) R rv
theorem CallR_or {f : Value} {r r' : List V → Hp → VK → Prop} (h : CallR X f r) (h' : CallR X f r') : CallR X f (fun xs H Q => r xs H Q ∨ r' xs H Q) := fun pins s σ H xs us Q I rx q => q.elim (h pins s σ H xs us Q I rx) (h' pins s σ H xs us Q I rx)
theorem Un1.or {f : Value} {g g' : O1} (h : Un1 X f g) (h' : Un1 X f g') : Un1 X f (fun p => (g p).or (g' p)) := fun Z => by
  obtain ⟨r, o, k⟩ := h Z
  obtain ⟨r', o', k'⟩ := h' Z
  refine ⟨_, CallR_or o o', fun W H s σ p x res Q R rx e po => ?_⟩
  replace e : (g p).or (g' p) = some res := e
  cases e1 : g p with
  | some z =>
    rw [e1] at e
    exact .inl (k W H s σ p x res Q R rx (by rw [e1]; simpa using e) po)
  | none =>
    rw [e1] at e
    exact .inr (k' W H s σ p x res Q R rx (by simpa using e) po)
theorem tO_un1 {r : List V → Hp → VK → Prop} {g : O1} (k : ∀ (W : Wd) (H : Hp) (s : DS) (σ : L2.St) (p : PV) (x : V) (res : PV × Bool) (Q : VK), RSt X.K W H s σ → BV X.K W H p x → g p = some res → Post rO X.K Z σ W H (.ok res s) Q → r [x] H Q)
    (σ : L2.St) (H : Hp) (Q : VK) (h : tO X.K Z (un1O g f) σ H Q) : tCB r (tCons (tG rB X.K Z f) tNil) σ H Q := by
  obtain ⟨W, s, R, h⟩ := h
  refine ⟨W, s, R, Post.bind h fun p s1 v W1 H1 _ st R1 rx q => ?_⟩
  cases e : g p with
  | none => simp only [e] at q; exact q.elim
  | some res =>
    simp only [e] at q
    exact k W1 H1 s1 σ p v res Q R1 rx e q
theorem po_blt {id : String} {g : O1} {p : Pos} (hf : Un1 X (.builtin id) g) (hg : Gl X x) (hm : X.mg x = none) (hv : bootBuiltins x = some (.builtin id)) (ha : PB X Z e f) (hn : x ≠ "__name__" := by decide) (hdb : (x == ("__debug__" : Str)) = false := by decide)
    (he : starEach [e] X.env = (false, eval e X.env) :: starEach [] X.env := by rfl) : PO X Z (.Call (.Name x p) [e] [] pos) (un1O g f) := by
  obtain ⟨r, c, k⟩ := hf Z
  exact ⟨PE_imp (L2.pe_callB c hg hm hv (L2.pa_cons ha.pe L2.pa_nil he) hn hdb he rfl) fun σ H Q h => tO_un1 k σ H Q h⟩
theorem po_bty {T : String} {g : O1} {p : Pos} (hf : Un1 X (.type T) g) (hg : Gl X x) (hm : X.mg x = none) (hv : bootBuiltins x = some (.type T)) (ha : PB X Z e f) (hn : x ≠ "__name__" := by decide) (hdb : (x == ("__debug__" : Str)) = false := by decide)
    (he : starEach [e] X.env = (false, eval e X.env) :: starEach [] X.env := by rfl) : PO X Z (.Call (.Name x p) [e] [] pos) (un1O g f) := by
  obtain ⟨r, c, k⟩ := hf Z
  exact ⟨PE_imp (L2.pe_callTy c hg hm hv (L2.pa_cons ha.pe L2.pa_nil he) hn hdb he rfl) fun σ H Q h => tO_un1 k σ H Q h⟩
/-- len -/
def lenG : G1 := fun p => match p with
  | .lst ps => some (.int ps.length)
  | .tup _ ps => some (.int ps.length)
  | .scr ps => some (.int ps.length)
  | .str z => if lineOk z.length then some (.int z.length) else none
  | _ => none
theorem u_len : Un1 X (.builtin "len") (g1 lenG) := Un1.plain (CallR_or call_len_seq call_len_str) fun W H p x res Q rx e k => by
  cases p with
  | lst ps =>
    simp only [lenG, Option.some.injEq] at e
    subst e
    obtain ⟨a, vs, rfl, h1, h2⟩ := bv_lst rx
    exact .inl ⟨a, vs, rfl, .inl (SqL.of h1), k _ (by rw [h2.len]; exact rv_int)⟩
  | scr ps =>
    simp only [lenG, Option.some.injEq] at e
    subst e
    obtain ⟨a, vs, rfl, h1, h2⟩ := bv_scr rx
    exact .inl ⟨a, vs, rfl, .inl h1, k _ (by rw [h2.len]; exact rv_int)⟩
  | tup c ps =>
    simp only [lenG, Option.some.injEq] at e
    subst e
    obtain ⟨a, vs, rfl, h1, h2⟩ := bv_tup rx
    exact .inl ⟨a, vs, rfl, .inr h1, k _ (by rw [h2.len]; exact rv_int)⟩
  | str z =>
    simp only [lenG] at e
    by_cases hz : lineOk z.length = true
    · rw [if_pos hz] at e
      cases e
      exact .inr ⟨z, by rw [bv_str rx], of_decide_eq_true hz, k _ rv_int⟩
    · rw [if_neg hz] at e
      cases e
  | _ => simp [lenG] at e
/-- all, any of a list of truth values -/
def bools : List PV → Option (List Bool)
  | [] => some []
  | .bl b :: ps => (bools ps).map fun bs => b :: bs
  | _ :: _ => none
theorem bools_vs {K : PySem.W.Frag} {cs : List Addr} {H : Hp} : ∀ {ps : List PV} {bs : List Bool} {vs : List V}, bools ps = some bs → Reps K cs H ps vs → vs = bs.map V.bl
  | [], bs, vs, e, r => by
    simp only [bools, Option.some.injEq] at e
    unfold Reps at r
    subst e r
    rfl
  | p :: ps, bs, vs, e, r => by
    cases p with
    | bl b =>
      simp only [bools, Option.map_eq_some_iff] at e
      obtain ⟨cs', e1, rfl⟩ := e
      unfold Reps at r
      obtain ⟨v, w, rfl, h1, h2⟩ := r
      unfold Rep at h1
      rw [h1, bools_vs e1 h2]
      rfl
    | _ => simp [bools] at e
def allG : G1 := fun p => match p with
  | .lst ps => (bools ps).map fun bs => .bl (bs.all id)
  | _ => none
def anyG : G1 := fun p => match p with
  | .lst ps => (bools ps).map fun bs => .bl (bs.any id)
  | _ => none
theorem u_all (hc : X.calm = true) : Un1 X (.builtin "all") (g1 allG) := Un1.plain (cr_all hc) fun W H p x res Q rx e k => by
  cases p with
  | lst ps =>
    simp only [allG, Option.map_eq_some_iff] at e
    obtain ⟨bs, e, rfl⟩ := e
    obtain ⟨a, vs, rfl, h1, h2⟩ := bv_lst rx
    have hv := bools_vs e h2
    subst hv
    exact ⟨a, bs, rfl, SqL.of h1, k _ rv_bl⟩
  | _ => simp [allG] at e
theorem u_any (hc : X.calm = true) : Un1 X (.builtin "any") (g1 anyG) := Un1.plain (cr_any hc) fun W H p x res Q rx e k => by
  cases p with
  | lst ps =>
    simp only [anyG, Option.map_eq_some_iff] at e
    obtain ⟨bs, e, rfl⟩ := e
    obtain ⟨a, vs, rfl, h1, h2⟩ := bv_lst rx
    have hv := bools_vs e h2
    subst hv
    exact ⟨a, bs, rfl, SqL.of h1, k _ rv_bl⟩
  | _ => simp [anyG] at e
/-- abs, int -/
def absG : G1 := fun p => match p with
  | .int i => some (.int (if i < 0 then -i else i))
  | _ => none
theorem u_abs : Un1 X (.builtin "abs") (g1 absG) := Un1.plain call_abs fun W H p x res Q rx e k => by
  cases p with
  | int i =>
    simp only [absG, Option.some.injEq] at e
    subst e
    exact ⟨i, by rw [bv_int rx], k _ rv_int⟩
  | _ => simp [absG] at e
def intG : G1 := fun p => match p with
  | .int i => some (.int i)
  | .bl b => some (.int (if b then 1 else 0))
  | _ => none
theorem u_int : Un1 X (.type "int") (g1 intG) := Un1.plain call_int1 fun W H p x res Q rx e k => by
  cases p with
  | int i =>
    simp only [intG, Option.some.injEq] at e
    subst e
    exact .inl ⟨i, by rw [bv_int rx], k _ rv_int⟩
  | bl b =>
    simp only [intG, Option.some.injEq] at e
    subst e
    exact .inr ⟨b, by rw [bv_bl rx], k _ rv_int⟩
  | _ => simp [intG] at e
/-- sum, max, min of a list of ints -/
def intsP : List PV → Option (List Int)
  | [] => some []
  | .int b :: ps => (intsP ps).map fun bs => b :: bs
  | _ :: _ => none
theorem ints_vs {K : PySem.W.Frag} {cs : List Addr} {H : Hp} : ∀ {ps : List PV} {bs : List Int} {vs : List V}, intsP ps = some bs → Reps K cs H ps vs → vs = bs.map V.int
  | [], bs, vs, e, r => by
    simp only [intsP, Option.some.injEq] at e
    unfold Reps at r
    subst e r
    rfl
  | p :: ps, bs, vs, e, r => by
    cases p with
    | int b =>
      simp only [intsP, Option.map_eq_some_iff] at e
      obtain ⟨cs', e1, rfl⟩ := e
      unfold Reps at r
      obtain ⟨v, w, rfl, h1, h2⟩ := r
      unfold Rep at h1
      rw [h1, ints_vs e1 h2]
      rfl
    | _ => simp [intsP] at e
def maxL : List Int → Option Int
  | [] => none
  | i :: is => some (is.foldl max i)
def minL : List Int → Option Int
  | [] => none
  | i :: is => some (is.foldl min i)
theorem foldl_max_mem : ∀ (l : List Int) (i : Int), (l.foldl max i = i ∨ l.foldl max i ∈ l) ∧ i ≤ l.foldl max i ∧ ∀ y ∈ l, y ≤ l.foldl max i
  | [], i => by simp
  | a :: l, i => by
    obtain ⟨h1, h2, h3⟩ := foldl_max_mem l (max i a)
    refine ⟨?_, ?_, fun y hy => ?_⟩
    · rcases h1 with h | h
      · by_cases hh : i ≤ a
        · right; simp only [List.foldl_cons]; rw [h]; simp [Int.max_eq_right hh]
        · left; simp only [List.foldl_cons]; rw [h]; exact Int.max_eq_left (by omega)
      · right; simp only [List.foldl_cons]; exact List.mem_cons_of_mem _ h
    · simp only [List.foldl_cons]; exact Int.le_trans (Int.le_max_left i a) h2
    · simp only [List.foldl_cons]
      rcases List.mem_cons.mp hy with rfl | hy
      · exact Int.le_trans (Int.le_max_right i y) h2
      · exact h3 y hy
theorem foldl_min_mem : ∀ (l : List Int) (i : Int), (l.foldl min i = i ∨ l.foldl min i ∈ l) ∧ l.foldl min i ≤ i ∧ ∀ y ∈ l, l.foldl min i ≤ y
  | [], i => by simp
  | a :: l, i => by
    obtain ⟨h1, h2, h3⟩ := foldl_min_mem l (min i a)
    refine ⟨?_, ?_, fun y hy => ?_⟩
    · rcases h1 with h | h
      · by_cases hh : i ≤ a
        · left; simp only [List.foldl_cons]; rw [h]; exact Int.min_eq_left hh
        · right; simp only [List.foldl_cons]; rw [h]; simp [Int.min_eq_right (show a ≤ i by omega)]
      · right; simp only [List.foldl_cons]; exact List.mem_cons_of_mem _ h
    · simp only [List.foldl_cons]; exact Int.le_trans h2 (Int.min_le_left i a)
    · simp only [List.foldl_cons]
      rcases List.mem_cons.mp hy with rfl | hy
      · exact Int.le_trans h2 (Int.min_le_right i y)
      · exact h3 y hy
theorem maxL_spec {l : List Int} {m : Int} (h : maxL l = some m) : m ∈ l ∧ ∀ y ∈ l, y ≤ m := by
  cases l with
  | nil => cases h
  | cons a l =>
    simp only [maxL, Option.some.injEq] at h
    obtain ⟨h1, h2, h3⟩ := foldl_max_mem l a
    rw [h] at h1 h2 h3
    refine ⟨?_, fun y hy => ?_⟩
    · rcases h1 with e | e
      · rw [e]; exact List.mem_cons_self
      · exact List.mem_cons_of_mem _ e
    · rcases List.mem_cons.mp hy with rfl | hy
      · exact h2
      · exact h3 y hy
theorem minL_spec {l : List Int} {m : Int} (h : minL l = some m) : m ∈ l ∧ ∀ y ∈ l, m ≤ y := by
  cases l with
  | nil => cases h
  | cons a l =>
    simp only [minL, Option.some.injEq] at h
    obtain ⟨h1, h2, h3⟩ := foldl_min_mem l a
    rw [h] at h1 h2 h3
    refine ⟨?_, fun y hy => ?_⟩
    · rcases h1 with e | e
      · rw [e]; exact List.mem_cons_self
      · exact List.mem_cons_of_mem _ e
    · rcases List.mem_cons.mp hy with rfl | hy
      · exact h2
      · exact h3 y hy
def sumG : G1 := fun p => match p with
  | .lst ps => (intsP ps).map fun bs => .int bs.sum
  | _ => none
def maxG : G1 := fun p => match p with
  | .lst ps => ((intsP ps).bind maxL).map PV.int
  | _ => none
def minG : G1 := fun p => match p with
  | .lst ps => ((intsP ps).bind minL).map PV.int
  | _ => none
theorem u_sum (hc : X.calm = true) : Un1 X (.builtin "sum") (g1 sumG) := Un1.plain (cr_sum hc) fun W H p x res Q rx e k => by
  cases p with
  | lst ps =>
    simp only [sumG, Option.map_eq_some_iff] at e
    obtain ⟨bs, e, rfl⟩ := e
    obtain ⟨a, vs, rfl, h1, h2⟩ := bv_lst rx
    have hv := ints_vs e h2
    subst hv
    exact ⟨a, bs, rfl, SqL.of h1, k _ rv_int⟩
  | _ => simp [sumG] at e
theorem u_max (hc : X.calm = true) : Un1 X (.builtin "max") (g1 maxG) := Un1.plain (cr_max hc) fun W H p x res Q rx e k => by
  cases p with
  | lst ps =>
    simp only [maxG, Option.map_eq_some_iff, Option.bind_eq_some_iff] at e
    obtain ⟨m, ⟨bs, e, hm⟩, rfl⟩ := e
    obtain ⟨a, vs, rfl, h1, h2⟩ := bv_lst rx
    have hv := ints_vs e h2
    subst hv
    obtain ⟨g1, g2⟩ := maxL_spec hm
    refine ⟨a, bs, rfl, SqL.of h1, List.length_pos_of_mem g1, fun m' hm' hle => ?_⟩
    have : m' = m := Int.le_antisymm (g2 m' hm') (hle m g1)
    subst this
    exact k _ rv_int
  | _ => simp [maxG] at e
theorem u_min (hc : X.calm = true) : Un1 X (.builtin "min") (g1 minG) := Un1.plain (cr_min hc) fun W H p x res Q rx e k => by
  cases p with
  | lst ps =>
    simp only [minG, Option.map_eq_some_iff, Option.bind_eq_some_iff] at e
    obtain ⟨m, ⟨bs, e, hm⟩, rfl⟩ := e
    obtain ⟨a, vs, rfl, h1, h2⟩ := bv_lst rx
    have hv := ints_vs e h2
    subst hv
    obtain ⟨g1, g2⟩ := minL_spec hm
    refine ⟨a, bs, rfl, SqL.of h1, List.length_pos_of_mem g1, fun m' hm' hle => ?_⟩
    have : m' = m := Int.le_antisymm (hle m g1) (g2 m' hm')
    subst this
    exact k _ rv_int
  | _ => simp [minG] at e
/-- list(x), tuple(x) -/
def listG : O1 := fun p => match p with
  | .lst ps => some (.lst ps, true)
  | .tup _ ps => some (.lst ps, true)
  | _ => none
theorem u_list : Un1 X (.type "list") listG := fun Z => by
  refine ⟨_, call_list_of, fun W H s σ p x res Q R rx e po => ?_⟩
  cases p with
  | lst ps =>
    simp only [listG, Option.some.injEq] at e
    subst e
    obtain ⟨a, vs, rfl, h1, h2⟩ := bv_lst rx
    exact ⟨a, vs, rfl, .inl (SqL.of h1), fun l hl => Post.newO R hl po ⟨vs, upd_same, (Step.allocO hl (R.nP hl)).rvs h2⟩⟩
  | tup c ps =>
    simp only [listG, Option.some.injEq] at e
    subst e
    obtain ⟨a, vs, rfl, h1, h2⟩ := bv_tup rx
    exact ⟨a, vs, rfl, .inr h1, fun l hl => Post.newO R hl po ⟨vs, upd_same, (Step.allocO hl (R.nP hl)).rvs h2⟩⟩
  | _ => simp [listG] at e
def tupG : G1 := fun p => match p with
  | .lst ps => some (.tup false ps)
  | .tup c ps => some (.tup c ps)
  | _ => none
theorem Post.toP {σ : L2.St} {W : Wd} {H : Hp} {K : PySem.W.Frag} {s : DS} {q : PV} {Q : VK} (h : Post rO K Z σ W H (.ok (q, false) s) Q) : Post rE K Z σ W H (.ok q s) Q := h
theorem u_tup : Un1 X (.type "tuple") (g1 tupG) := fun Z => by
  refine ⟨_, call_tuple_of, fun W H s σ p x res Q R rx e po => ?_⟩
  simp only [g1, Option.map_eq_some_iff] at e
  obtain ⟨z, e, rfl⟩ := e
  cases p with
  | lst ps =>
    simp only [tupG, Option.some.injEq] at e
    subst e
    obtain ⟨a, vs, rfl, h1, h2⟩ := bv_lst rx
    exact ⟨a, vs, rfl, .inl ⟨SqL.of h1, fun l hl => Post.newP R hl (Post.toP po) fun W1 st hL => new_tup hl hL (st.rvs h2)⟩⟩
  | tup c ps =>
    simp only [tupG, Option.some.injEq] at e
    subst e
    obtain ⟨a, vs, rfl, h1, h2⟩ := bv_tup rx
    refine ⟨a, vs, rfl, .inr ⟨h1, po _ W H (Step.refl _ _) R ?_⟩⟩
    rcases rx with rx | ⟨b, e, c⟩
    · exact rx
    · exact c.elim
  | _ => simp [tupG] at e
/-- isinstance(x, T), T a built-in class by its name -/
def tyN (p : PV) : Option String := match p with
  | .non => some "NoneType" | .bl _ => some "bool" | .int _ => some "int" | .str _ => some "str"
  | .tup _ _ => some "tuple" | .lst _ => some "list" | .dK _ => some "dict" | .dT _ => some "dict"
  | _ => none
def isiG (T : String) : G1 := fun p => ((tyN p).bind fun n => kitB n T).map PV.bl
theorem ty_of {K : PySem.W.Frag} {W : Wd} {H : Hp} {p : PV} {v : V} {n : String} (r : BV K W H p v) (e : tyN p = some n) : TyX K H v (.type n) := by
  cases p with
  | non => cases e; rcases r with r | ⟨a, _, c⟩; unfold RV Rep at r; rw [r]; exact .base .non; exact c.elim
  | bl b => cases e; rw [bv_bl r]; exact .base (.bl b)
  | int b => cases e; rw [bv_int r]; exact .base (.int b)
  | str b => cases e; rw [bv_str r]; exact .base (.str b)
  | tup c ps =>
    cases e
    obtain ⟨a, vs, rfl, h, _⟩ := bv_tup r
    rcases h with (h | ⟨o, h⟩) | ⟨o, its, n, h1, h2, _⟩
    · exact .base (.tup h)
    · exact .fTuple h
    · exact .kTuple h1 h2
  | lst ps => cases e; obtain ⟨a, vs, rfl, h, _⟩ := bv_lst r; exact .base (.lst h)
  | dK ps =>
    cases e
    rcases r with r | ⟨a, rfl, c⟩
    · unfold RV Rep at r
      obtain ⟨a, ws, rfl, h, _⟩ := r
      exact .base (.dK (msk_some.mp h).2)
    · obtain ⟨ws, h, _⟩ := c
      exact .base (.dK h)
  | dT ps =>
    cases e
    rcases r with r | ⟨a, rfl, c⟩
    · unfold RV Rep at r
      obtain ⟨a, ws, rfl, h, _⟩ := r
      exact .base (.dT (msk_some.mp h).2)
    · obtain ⟨ws, h, _⟩ := c
      exact .base (.dT h)
  | _ => cases e
theorem px_isi {T : String} {y : Str} {p p2 : Pos} (hg : Gl X "isinstance") (hm : X.mg "isinstance" = none) (ha : PB X Z e f) (hgT : Gl X y) (hmT : X.mg y = none) (hvT : bootBuiltins y = some (.type T)) (hb : bootBuiltins "isinstance" = some (.builtin "isinstance") := by decide +kernel)
    (hn : y ≠ "__name__" := by decide) (hd : (y == ("__debug__" : Str)) = false := by decide) (he : starEach [e, .Name y p2] X.env = (false, eval e X.env) :: starEach [.Name y p2] X.env := by rfl) (he2 : starEach [.Name y p2] X.env = (false, eval (.Name y p2) X.env) :: starEach [] X.env := by rfl)
    (hpl : (backTo pos (starEach [.Name y p2] X.env)).any (·.1) = false := by rfl) : PX X Z (.Call (.Name "isinstance" p) [e, .Name y p2] [] pos) (un1E (isiG T) f) := by
  refine px_of ⟨PE_imp (L2.pe_callB call_isi hg hm hb (L2.pa_cons ha.pe (L2.pa_cons (pe_bltn (v := .ty T) hgT hmT hvT rfl hn hd) L2.pa_nil he2) he) (by decide) (by decide) he hpl) fun σ H Q ⟨W, s, R, h⟩ => ⟨W, s, R, Post.bind h fun q s1 v W1 H1 _ st R1 rx po => ?_⟩⟩
  simp only [g1, isiG] at po
  cases e1 : tyN q with
  | none => simp only [e1] at po; exact po.elim
  | some n =>
    cases e2 : kitB n T with
    | none => simp only [e1, Option.bind_some, e2] at po; exact po.elim
    | some b =>
      simp only [e1, Option.bind_some, e2, Option.map_some] at po
      exact ⟨v, .ty T, .type n, .type T, b, rfl, .ty T, ty_of rx e1, kit_ty e2, po _ W1 H1 (Step.refl _ _) R1 (show RV X.K W1 H1 (.bl b) (.bl b) from rv_bl)⟩
end
end DR
/-! DR: dicts; in. -/
namespace DR
open PySem PySem.Spec PyProof.Rows L2
/-! ### tables of trees -/
section
variable {κ : Type} [DecidableEq κ]
def atP (l : List (κ × PV)) (k : κ) : Option PV := match l with
  | [] => none
  | p :: r => if p.1 = k then some p.2 else atP r k
def chP (l : List (κ × PV)) (k : κ) (v : PV) : List (κ × PV) := match l with
  | [] => []
  | p :: r => (if p.1 = k then (p.1, v) else p) :: chP r k v
def putP (l : List (κ × PV)) (k : κ) (v : PV) : List (κ × PV) := if (atP l k).isSome = true then chP l k v else l ++ [(k, v)]
end
section
variable {K : PySem.W.Frag} {cs : List Addr} {H : Hp}
theorem repK_at (k : Key) : ∀ {l : List (Key × PV)} {ws : List (Key × V)}, RepK K cs H l ws → (∀ p, atP l k = some p → ∃ v, valV ws k = some v ∧ Rep K cs H p v) ∧ (atP l k = none → valV ws k = none)
  | [], ws, r => by
    unfold RepK at r
    subst r
    exact And.intro (fun p e => by simp [atP] at e) (fun _ => rfl)
  | (j, q) :: l, ws, r => by
    unfold RepK at r
    obtain ⟨v, w, rfl, h1, h2⟩ := r
    by_cases e : j = k
    · refine ⟨fun p e' => ?_, fun e' => ?_⟩
      · simp only [atP, if_pos e, Option.some.injEq] at e'
        subst e'
        exact ⟨v, valV_pos e, h1⟩
      · simp only [atP, if_pos e] at e'
        cases e'
    · obtain ⟨g1, g2⟩ := repK_at k h2
      refine ⟨fun p e' => ?_, fun e' => ?_⟩
      · simp only [atP, if_neg e] at e'
        obtain ⟨u, u1, u2⟩ := g1 p e'
        exact ⟨u, by rw [valV_neg e]; exact u1, u2⟩
      · simp only [atP, if_neg e] at e'
        rw [valV_neg e]
        exact g2 e'
theorem repT_at (k : List Key) : ∀ {l : List (List Key × PV)} {ws : List (List Key × V)}, RepT K cs H l ws → (∀ p, atP l k = some p → ∃ v, valV ws k = some v ∧ Rep K cs H p v) ∧ (atP l k = none → valV ws k = none)
  | [], ws, r => by
    unfold RepT at r
    subst r
    exact And.intro (fun p e => by simp [atP] at e) (fun _ => rfl)
  | (j, q) :: l, ws, r => by
    unfold RepT at r
    obtain ⟨v, w, rfl, h1, h2⟩ := r
    by_cases e : j = k
    · refine ⟨fun p e' => ?_, fun e' => ?_⟩
      · simp only [atP, if_pos e, Option.some.injEq] at e'
        subst e'
        exact ⟨v, valV_pos e, h1⟩
      · simp only [atP, if_pos e] at e'
        cases e'
    · obtain ⟨g1, g2⟩ := repT_at k h2
      refine ⟨fun p e' => ?_, fun e' => ?_⟩
      · simp only [atP, if_neg e] at e'
        obtain ⟨u, u1, u2⟩ := g1 p e'
        exact ⟨u, by rw [valV_neg e]; exact u1, u2⟩
      · simp only [atP, if_neg e] at e'
        rw [valV_neg e]
        exact g2 e'
theorem repK_ch (k : Key) {p : PV} {v : V} (rp : Rep K cs H p v) : ∀ {l : List (Key × PV)} {ws : List (Key × V)}, RepK K cs H l ws → RepK K cs H (chP l k p) (ws.map fun kv => if kv.1 = k then (kv.1, v) else kv)
  | [], ws, r => by
    unfold RepK at r
    subst r
    unfold chP RepK
    rfl
  | (j, q) :: l, ws, r => by
    unfold RepK at r
    obtain ⟨u, w, rfl, h1, h2⟩ := r
    have ih := repK_ch k rp h2
    unfold chP
    by_cases e : j = k
    · simp only [e, if_true, List.map_cons]
      unfold RepK
      exact ⟨v, _, rfl, rp, ih⟩
    · simp only [e, if_false, List.map_cons]
      unfold RepK
      exact ⟨u, _, rfl, h1, ih⟩
theorem repT_ch (k : List Key) {p : PV} {v : V} (rp : Rep K cs H p v) : ∀ {l : List (List Key × PV)} {ws : List (List Key × V)}, RepT K cs H l ws → RepT K cs H (chP l k p) (ws.map fun kv => if kv.1 = k then (kv.1, v) else kv)
  | [], ws, r => by
    unfold RepT at r
    subst r
    unfold chP RepT
    rfl
  | (j, q) :: l, ws, r => by
    unfold RepT at r
    obtain ⟨u, w, rfl, h1, h2⟩ := r
    have ih := repT_ch k rp h2
    unfold chP
    by_cases e : j = k
    · simp only [e, if_true, List.map_cons]
      unfold RepT
      exact ⟨v, _, rfl, rp, ih⟩
    · simp only [e, if_false, List.map_cons]
      unfold RepT
      exact ⟨u, _, rfl, h1, ih⟩
theorem repK_snoc {k : Key} {p : PV} {v : V} (rp : Rep K cs H p v) : ∀ {l : List (Key × PV)} {ws : List (Key × V)}, RepK K cs H l ws → RepK K cs H (l ++ [(k, p)]) (ws ++ [(k, v)])
  | [], ws, r => by
    unfold RepK at r
    subst r
    show RepK K cs H [(k, p)] [(k, v)]
    unfold RepK
    exact ⟨v, [], rfl, rp, by unfold RepK; rfl⟩
  | (j, q) :: l, ws, r => by
    unfold RepK at r
    obtain ⟨u, w, rfl, h1, h2⟩ := r
    simp only [List.cons_append]
    unfold RepK
    exact ⟨u, _, rfl, h1, repK_snoc rp h2⟩
theorem repT_snoc {k : List Key} {p : PV} {v : V} (rp : Rep K cs H p v) : ∀ {l : List (List Key × PV)} {ws : List (List Key × V)}, RepT K cs H l ws → RepT K cs H (l ++ [(k, p)]) (ws ++ [(k, v)])
  | [], ws, r => by
    unfold RepT at r
    subst r
    show RepT K cs H [(k, p)] [(k, v)]
    unfold RepT
    exact ⟨v, [], rfl, rp, by unfold RepT; rfl⟩
  | (j, q) :: l, ws, r => by
    unfold RepT at r
    obtain ⟨u, w, rfl, h1, h2⟩ := r
    simp only [List.cons_append]
    unfold RepT
    exact ⟨u, _, rfl, h1, repT_snoc rp h2⟩
theorem repK_put (k : Key) {p : PV} {v : V} (rp : Rep K cs H p v) {l : List (Key × PV)} {ws : List (Key × V)} (r : RepK K cs H l ws) : RepK K cs H (putP l k p) (putK ws k v) := by
  obtain ⟨h1, h2⟩ := repK_at k r
  unfold putP putK
  rw [valV_any]
  cases e : atP l k with
  | none => rw [h2 e]; exact repK_snoc rp r
  | some q =>
    obtain ⟨u, e2, _⟩ := h1 q e
    rw [e2]
    exact repK_ch k rp r
theorem repT_put (k : List Key) {p : PV} {v : V} (rp : Rep K cs H p v) {l : List (List Key × PV)} {ws : List (List Key × V)} (r : RepT K cs H l ws) : RepT K cs H (putP l k p) (putK ws k v) := by
  obtain ⟨h1, h2⟩ := repT_at k r
  unfold putP putK
  rw [valV_any]
  cases e : atP l k with
  | none => rw [h2 e]; exact repT_snoc rp r
  | some q =>
    obtain ⟨u, e2, _⟩ := h1 q e
    rw [e2]
    exact repT_ch k rp r
theorem repK_len : ∀ {l : List (Key × PV)} {ws : List (Key × V)}, RepK K cs H l ws → ws.length = l.length
  | [], ws, r => by unfold RepK at r; subst r; rfl
  | (j, q) :: l, ws, r => by
    unfold RepK at r
    obtain ⟨u, w, rfl, h1, h2⟩ := r
    simp [repK_len h2]
theorem repT_len : ∀ {l : List (List Key × PV)} {ws : List (List Key × V)}, RepT K cs H l ws → ws.length = l.length
  | [], ws, r => by unfold RepT at r; subst r; rfl
  | (j, q) :: l, ws, r => by
    unfold RepT at r
    obtain ⟨u, w, rfl, h1, h2⟩ := r
    simp [repT_len h2]
/-- keys -/
def keyP : PV → Option Key
  | .int i => some (.inl i)
  | .str x => some (.inr x)
  | _ => none
def keysP : List PV → Option (List Key)
  | [] => some []
  | p :: ps => match keyP p, keysP ps with
    | some k, some ks => some (k :: ks)
    | _, _ => none
theorem keyP_v {p : PV} {k : Key} {v : V} (e : keyP p = some k) (r : Rep K cs H p v) : v = kV k := by
  cases p with
  | int i => cases e; unfold Rep at r; exact r
  | str i => cases e; unfold Rep at r; exact r
  | _ => cases e
theorem keysP_v : ∀ {ps : List PV} {ks : List Key} {vs : List V}, keysP ps = some ks → Reps K cs H ps vs → vs = ks.map kV
  | [], ks, vs, e, r => by
    cases e
    unfold Reps at r
    rw [r]
    rfl
  | p :: ps, ks, vs, e, r => by
    unfold Reps at r
    obtain ⟨v, w, rfl, h1, h2⟩ := r
    unfold keysP at e
    cases e1 : keyP p with
    | none => rw [e1] at e; cases e
    | some k =>
      cases e2 : keysP ps with
      | none => rw [e1, e2] at e; cases e
      | some ks' =>
        rw [e1, e2] at e
        cases e
        rw [keyP_v e1 h1, keysP_v e2 h2]
        rfl
end
/-! ### looking up, a key that may be a constant -/
def DG (K : PySem.W.Frag) (H : Hp) (a : Addr) (y : V) (r : Option V) : Prop :=
  (∃ l k, H a = some (.dK l) ∧ y = kV k ∧ r = valV l k) ∨ ∃ l ks b, H a = some (.dT l) ∧ y = .ref b ∧ SqT K H b (ks.map kV) ∧ r = valV l ks
section
variable {X : Cx} {pins : List (Addr × Obj)} {σ : L2.St} {H : Hp} {s : Shared} {a b : Addr} {y : V} {u : Value} {o : Option V} {A : Around} {E : Value → Shared → Prop}
theorem key_at {ks : List Key} (I : L2.Inv X pins σ H s) (h : SqT X.K H b (ks.map kV)) : (tupleKind (mixKind X.prog X.w)).is s.heap ks b := by
  obtain ⟨its, r, ⟨o, h1, h2, n, h3⟩, _⟩ := I.tuple h
  exact ⟨o, its.toArray, n, h1, h2, h3, by simpa using items_are r⟩
theorem DG.isD (I : L2.Inv X pins σ H s) (g : DG X.K H a y o) : s.TypeIs (.ref a) "dict" := by
  rcases g with ⟨l, k, e, _⟩ | ⟨l, ks, b, e, _⟩
  · obtain ⟨_, _, vs, _, dd⟩ := dk_of I.hok e
    exact dd.typeIs
  · obtain ⟨_, _, xs, _, dd⟩ := dt_of I.hok e
    exact dd.typeIs
theorem DG.get {v : V} {Q : Value → Shared → Prop} (hu : A.units + 1 < cLine) (I : L2.Inv X pins σ H s) (g : DG X.K H a y (some v)) (ry : RelV y u) (h : ∀ w' s', L2.Inv X pins σ H s' → RelV v w' → Q w' s') : wpAny (model X.prog X.w) A (getItem (.ref a) u) Q E s := by
  rcases g with ⟨l, k, e, ey, el⟩ | ⟨l, ks, b, e, ey, eb, el⟩
  · exact d_getItem hu I (by rw [ey, el]; exact DGet.k e) ry h
  · rw [ey] at ry
    cases (show u = Value.ref b from ry)
    obtain ⟨_, _, xs, rel, dd⟩ := dt_of I.hok e
    have ro := rel.val ks
    rw [← el] at ro
    obtain ⟨z, hz, rz⟩ := RelO.some_of ro
    obtain ⟨pr, hp, hp2⟩ := Option.map_eq_some_iff.mp hz
    subst hp2
    exact wpAny_getItem_heap (tupleKind_room_in1 hu) (key_at I eb) dd hp (h pr.2 _ (I.tok _) rz)
theorem DG.mem {Q : Value → Shared → Prop} (hu : A.units + 1 < cLine) (I : L2.Inv X pins σ H s) (g : DG X.K H a y o) (ry : RelV y u) (h : ∀ s', L2.Inv X pins σ H s' → Q (.bool o.isSome) s') : wpAny (model X.prog X.w) A (compareOp .In u (.ref a)) Q E s := by
  rcases g with ⟨l, k, e, ey, el⟩ | ⟨l, ks, b, e, ey, eb, el⟩
  · exact d_in (o := o) hu I (by rw [ey, el]; exact DGet.k e) ry h
  · rw [ey] at ry
    cases (show u = Value.ref b from ry)
    obtain ⟨_, hd, xs, rel, dd⟩ := dt_of I.hok e
    refine wpAny_in_heap (tupleKind_room_in1 hu) (key_at I eb) hd dd ?_
    have ro := (rel.val ks).isSome_eq
    rw [← el, Option.isSome_map] at ro
    rw [← ro]
    exact h _ (I.tok _)
theorem DG.nomem {Q : Value → Shared → Prop} (hu : A.units + 1 < cLine) (I : L2.Inv X pins σ H s) (g : DG X.K H a y o) (ry : RelV y u) (h : ∀ s', L2.Inv X pins σ H s' → Q (.bool (!o.isSome)) s') : wpAny (model X.prog X.w) A (compareOp .NotIn u (.ref a)) Q E s := by
  rcases g with ⟨l, k, e, ey, el⟩ | ⟨l, ks, b, e, ey, eb, el⟩
  · exact d_notIn (o := o) hu I (by rw [ey, el]; exact DGet.k e) ry h
  · rw [ey] at ry
    cases (show u = Value.ref b from ry)
    obtain ⟨_, hd, xs, rel, dd⟩ := dt_of I.hok e
    refine wpAny_notIn_heap (tupleKind_room_in1 hu) (key_at I eb) hd dd ?_
    have ro := (rel.val ks).isSome_eq
    rw [← el, Option.isSome_map] at ro
    rw [← ro]
    exact h _ (I.tok _)
end
/-- the value at a key: none where the key is of no kind, some none where there is nothing -/
def lookD (p q : PV) : Option (Option PV) := match p with
  | .dK l => (keyP q).map fun k => atP l k
  | .dT l => (match q with
    | .tup _ qs => (keysP qs).map fun ks => atP l ks
    | _ => none)
  | _ => none
section
variable {K : PySem.W.Frag} {W : Wd} {H : Hp}
theorem bv_dK {l : List (Key × PV)} {v : V} (h : BV K W H (.dK l) v) : ∃ a ws, v = .ref a ∧ H a = some (.dK ws) ∧ RepK K W.S (W.m H) l ws := by
  rcases h with h | ⟨a, e, ws, h1, h2⟩
  · unfold RV Rep at h
    obtain ⟨a, ws, e, h1, h2⟩ := h
    exact ⟨a, ws, e, (msk_some.mp h1).2, h2⟩
  · exact ⟨a, ws, e, h1, h2⟩
theorem bv_dT {l : List (List Key × PV)} {v : V} (h : BV K W H (.dT l) v) : ∃ a ws, v = .ref a ∧ H a = some (.dT ws) ∧ RepT K W.S (W.m H) l ws := by
  rcases h with h | ⟨a, e, ws, h1, h2⟩
  · unfold RV Rep at h
    obtain ⟨a, ws, e, h1, h2⟩ := h
    exact ⟨a, ws, e, (msk_some.mp h1).2, h2⟩
  · exact ⟨a, ws, e, h1, h2⟩
theorem lookD_ok {p q : PV} {x y : V} {r : Option PV} (e : lookD p q = some r) (rx : BV K W H p x) (ry : RV K W H q y) : ∃ a o, x = .ref a ∧ DG K H a y o ∧ (∀ z, r = some z → ∃ v, o = some v ∧ RV K W H z v) ∧ (r = none → o = none) := by
  unfold lookD at e
  split at e
  · rename_i l
    simp only [Option.map_eq_some_iff] at e
    obtain ⟨k, ek, rfl⟩ := e
    obtain ⟨a, ws, rfl, h1, h2⟩ := bv_dK rx
    obtain ⟨g1, g2⟩ := repK_at k h2
    exact ⟨a, valV ws k, rfl, .inl ⟨ws, k, h1, keyP_v ek ry, rfl⟩, g1, g2⟩
  · rename_i l
    split at e
    · rename_i c qs
      simp only [Option.map_eq_some_iff] at e
      obtain ⟨ks, ek, rfl⟩ := e
      obtain ⟨a, ws, rfl, h1, h2⟩ := bv_dT rx
      obtain ⟨g1, g2⟩ := repT_at ks h2
      obtain ⟨b, vs, rfl, k1, k2⟩ := rv_tup_inv ry
      have hv := keysP_v ek k2
      subst hv
      exact ⟨a, valV ws ks, rfl, .inr ⟨ws, ks, b, h1, rfl, k1, rfl⟩, g1, g2⟩
    · cases e
  · cases e
end
section
variable {X : Cx} {Z : WX} {x : Str} {pos pos' p1 p2 : Pos} {e a b : Expr} {f g : EM}
def rIxQ (K : PySem.W.Frag) : R2 := fun x y H Q => ∃ a v, x = .ref a ∧ DG K H a y (some v) ∧ Q v H
theorem ix_dict (hu : X.A.units + 1 < cLine) : IxR X (rIxQ X.K) := by
  intro value slice pins s σ H x y v u Q I rx ry h hs
  obtain ⟨a, z, rfl, g, q⟩ := h
  cases rx
  exact tail_any (DG.isD I g) PySem.F.slot_dict_getitem.lookup (g.get hu I ry fun w' s' I' rz => ⟨z, H, I', rz, q⟩) hs
theorem ix_all (hu : X.A.units + 1 < cLine) : IxR X (fun x y H Q => rIx X.K x y H Q ∨ rIxQ X.K x y H Q) := ix_seq.or (ix_dict hu)
/-! ### in -/
def rInT (K : PySem.W.Frag) (n : Bool) : R2 := fun x y H Q => ∃ d ds, Dp K H x d ∧ Dp K H y (.tuple ds) ∧ SeqAt.shaped d = true ∧ SeqAt.shaped (.tuple ds) = true ∧ Q (.bl (n != ds.any fun z => PyData.eqv z d)) H
theorem op_inT (hu : X.A.units + 65 < cLine) : OpR X (compareOp .In) (rInT X.K false) := by
  intro pins s σ H x y v u Q I rx ry h
  obtain ⟨d, ds, hd, he, sd, se, q⟩ := h
  obtain ⟨l1, r1⟩ := Dp.reads I d x v hd rx
  obtain ⟨l2, r2⟩ := Dp.reads I (.tuple ds) y u he ry
  rw [Bool.false_bne] at q
  have lay : PyData.canLayAll0 ds = true := by
    have := SeqAt.canLay_of_shaped se
    simpa [PyData.canLay0] using this
  exact SeqAt.in_tuple_reads r2 r1 lay (SeqAt.canLay_of_shaped sd) (room_in_shaped sd hu) ⟨.bl _, H, I, rfl, q⟩
theorem op_notInT (hu : X.A.units + 65 < cLine) : OpR X (compareOp .NotIn) (rInT X.K true) := by
  intro pins s σ H x y v u Q I rx ry h
  obtain ⟨d, ds, hd, he, sd, se, q⟩ := h
  obtain ⟨l1, r1⟩ := Dp.reads I d x v hd rx
  obtain ⟨l2, r2⟩ := Dp.reads I (.tuple ds) y u he ry
  rw [Bool.true_bne] at q
  have lay : PyData.canLayAll0 ds = true := by
    have := SeqAt.canLay_of_shaped se
    simpa [PyData.canLay0] using this
  exact SeqAt.notIn_tuple_reads r2 r1 lay (SeqAt.canLay_of_shaped sd) (room_in_shaped sd hu) ⟨.bl _, H, I, rfl, q⟩
def rInQ (K : PySem.W.Frag) (n : Bool) : R2 := fun x y H Q => ∃ a o, y = .ref a ∧ DG K H a x o ∧ Q (.bl (n != o.isSome)) H
theorem op_inQ (hu : X.A.units + 1 < cLine) : OpR X (compareOp .In) (rInQ X.K false) := by
  intro pins s σ H x y v u Q I rx ry h
  obtain ⟨a, o, rfl, g, q⟩ := h
  cases ry
  rw [Bool.false_bne] at q
  exact g.mem hu I rx fun s' I' => ⟨.bl _, H, I', rfl, q⟩
theorem op_notInQ (hu : X.A.units + 1 < cLine) : OpR X (compareOp .NotIn) (rInQ X.K true) := by
  intro pins s σ H x y v u Q I rx ry h
  obtain ⟨a, o, rfl, g, q⟩ := h
  cases ry
  rw [Bool.true_bne] at q
  exact g.nomem hu I rx fun s' I' => ⟨.bl _, H, I', rfl, q⟩
/-- the item, the container -/
def memD (q : PV) (ps : List PV) : Option Bool := match toD q, toDs ps with
  | some d, some ds => if SeqAt.shaped d && SeqAt.shaped (.list ds) && SeqAt.shaped (.tuple ds) then some (ds.any fun z => PyData.eqv z d) else none
  | _, _ => none
def inG (n : Bool) : P2 := fun q p => match p with
  | .lst ps => (memD q ps).map fun b => .bl (n != b)
  | .tup _ ps => (memD q ps).map fun b => .bl (n != b)
  | .dK _ => (lookD p q).map fun o => .bl (n != o.isSome)
  | .dT _ => (lookD p q).map fun o => .bl (n != o.isSome)
  | _ => none
theorem memD_some {q : PV} {ps : List PV} {b : Bool} (e : memD q ps = some b) : ∃ d ds, toD q = some d ∧ toDs ps = some ds ∧ SeqAt.shaped d = true ∧ SeqAt.shaped (.list ds) = true ∧ SeqAt.shaped (.tuple ds) = true ∧ b = ds.any fun z => PyData.eqv z d := by
  unfold memD at e
  split at e
  · rename_i d ds e1 e2
    split at e
    · rename_i h
      simp only [Bool.and_eq_true] at h
      exact ⟨d, ds, e1, e2, h.1.1, h.1.2, h.2, (Option.some.inj e).symm⟩
    · cases e
  · cases e
/-- a rule whose right side is only looked at -/
def BinB (X : Cx) (f : Value → Value → Sem Value) (g : P2) : Prop := ∃ r : R2, OpR X f r ∧ ∀ (W : Wd) (H : Hp) (p q : PV) (x y : V) (res : PV) (Q : VK), RV X.K W H p x → BV X.K W H q y → g p q = some res → (∀ v, RV X.K W H res v → Q v H) → r x y H Q
theorem inG_ok {K : PySem.W.Frag} {W : Wd} {H : Hp} {p q : PV} {x y : V} {n : Bool} {res : PV} {Q : VK} {rD : R2} (hD : ∀ d ds, Dp K H x d → Dp K H y (.list ds) → SeqAt.shaped d = true → SeqAt.shaped (.list ds) = true → Q (.bl (n != ds.any fun z => PyData.eqv z d)) H → rD x y H Q)
    (rx : RV K W H p x) (ry : BV K W H q y) (e : inG n p q = some res) (k : ∀ v, RV K W H res v → Q v H) : rD x y H Q ∨ rInT K n x y H Q ∨ rInQ K n x y H Q := by
  unfold inG at e
  split at e
  · rename_i ps
    simp only [Option.map_eq_some_iff] at e
    obtain ⟨b, e, rfl⟩ := e
    obtain ⟨d, ds, e1, e2, s1, s2, s3, rfl⟩ := memD_some e
    obtain ⟨a, vs, rfl, h1, h2⟩ := bv_lst ry
    exact .inl (hD d ds (rep_dp (msk_sub _ _) p x d rx e1) (.lst (SqL.of h1) (reps_dp (msk_sub _ _) ps vs ds h2 e2)) s1 s2 (k _ rv_bl))
  · rename_i c ps
    simp only [Option.map_eq_some_iff] at e
    obtain ⟨b, e, rfl⟩ := e
    obtain ⟨d, ds, e1, e2, s1, s2, s3, rfl⟩ := memD_some e
    obtain ⟨a, vs, rfl, h1, h2⟩ := bv_tup ry
    exact .inr (.inl ⟨d, ds, rep_dp (msk_sub _ _) p x d rx e1, .tup h1 (reps_dp (msk_sub _ _) ps vs ds h2 e2), s1, s3, k _ rv_bl⟩)
  · rename_i l
    simp only [Option.map_eq_some_iff] at e
    obtain ⟨r, e, rfl⟩ := e
    obtain ⟨a, o, ea, g, h1, h2⟩ := lookD_ok e ry rx
    refine .inr (.inr ⟨a, o, ea, g, k _ ?_⟩)
    cases r with
    | none => rw [h2 rfl]; exact rv_bl
    | some z => obtain ⟨v, hv, _⟩ := h1 z rfl; rw [hv]; exact rv_bl
  · rename_i l
    simp only [Option.map_eq_some_iff] at e
    obtain ⟨r, e, rfl⟩ := e
    obtain ⟨a, o, ea, g, h1, h2⟩ := lookD_ok e ry rx
    refine .inr (.inr ⟨a, o, ea, g, k _ ?_⟩)
    cases r with
    | none => rw [h2 rfl]; exact rv_bl
    | some z => obtain ⟨v, hv, _⟩ := h1 z rfl; rw [hv]; exact rv_bl
  · cases e
theorem bb_in (hu : X.A.units + 65 < cLine) : BinB X (compareOp .In) (inG false) :=
  ⟨_, OpR_or (op_inD hu) (OpR_or (op_inT hu) (op_inQ (by omega))), fun W H p q x y res Q rx ry e k => inG_ok (rD := rInD X.K) (fun d ds a b c f g => ⟨d, ds, a, b, c, f, by rw [Bool.false_bne] at g; exact g⟩) rx ry e k⟩
theorem bb_notin (hu : X.A.units + 65 < cLine) : BinB X (compareOp .NotIn) (inG true) :=
  ⟨_, OpR_or (op_notInD hu) (OpR_or (op_notInT hu) (op_notInQ (by omega))), fun W H p q x y res Q rx ry e k => inG_ok (rD := rNotInD X.K) (fun d ds a b c f g => ⟨d, ds, a, b, c, f, by rw [Bool.true_bne] at g; exact g⟩) rx ry e k⟩
theorem px_cmpB {op : CmpOp} {g : P2} {fa fb : EM} (hg : BinB X (compareOp op) g) (ha : PX X Z a fa) (hb : PB X Z b fb) (hm : behindInMarks op b = false := by first | exact nomark _ | rfl | with_unfolding_all rfl) : PX X Z (.Compare a [op] [b] pos) (binE g fa fb) := by
  obtain ⟨r, o, k⟩ := hg
  refine px_of ⟨PE_imp (L2.pe_cmpR o ha.pe hb.pe hm) fun σ H Q h => ?_⟩
  obtain ⟨W, s, R, h⟩ := h
  refine ⟨W, s, R, Post.bind h fun p s1 x W1 H1 _ st R1 rx q => ⟨W1, s1, R1, Post.bind q fun q0 s2 y W2 H2 _ st2 R2 ry q2 => ?_⟩⟩
  simp only [DR.p2] at q2
  cases e : g p q0 with
  | none => simp only [e, Option.map_none] at q2; exact q2.elim
  | some res =>
    simp only [e, Option.map_some] at q2
    exact k W2 H2 p q0 x y res Q (st2.rv rx) ry e fun v rv => q2 v W2 H2 (Step.refl _ _) R2 rv
/-! ### {}, len -/
def newK : OM := fun s => .ok (.dK [], true) s
def newT : OM := fun s => .ok (.dT [], true) s
theorem po_newK : PO X Z (.Dict [] [] pos) newK := ⟨PE_imp L2.pe_dnewK fun σ H Q ⟨W, s, R, h⟩ p hp => Post.newO R hp h ⟨[], upd_same, by unfold RepK; rfl⟩⟩
theorem po_newT : PO X Z (.Dict [] [] pos) newT := ⟨PE_imp L2.pe_dnewT fun σ H Q ⟨W, s, R, h⟩ p hp => Post.newO R hp h ⟨[], upd_same, by unfold RepT; rfl⟩⟩
def lenQ : G1 := fun p => match p with
  | .dK l => some (.int l.length)
  | .dT l => some (.int l.length)
  | _ => none
def rLenQ : List V → Hp → VK → Prop := fun xs H Q => ∃ (p : Addr) (l : List (Key × V)), xs = [.ref p] ∧ H p = some (.dK l) ∧ Q (.int ((l.length : Nat) : Int)) H
theorem call_len_dK : CallR X (.builtin "len") rLenQ := by
  intro pins s σ H xs us Q I r h
  obtain ⟨p, l, rfl, hp, q⟩ := h
  obtain ⟨u, rfl, rx⟩ := vals1 r
  cases rx
  exact d_len I (.inl hp) fun t s' I' => ⟨.int _, H, I', ⟨t, rfl⟩, q⟩
theorem u_lenQ : Un1 X (.builtin "len") (g1 lenQ) := Un1.plain (CallR_or call_len_dK call_len_dT) fun W H p x res Q rx e k => by
  cases p with
  | dK l =>
    simp only [lenQ, Option.some.injEq] at e
    subst e
    obtain ⟨a, ws, rfl, h1, h2⟩ := bv_dK rx
    exact .inl ⟨a, ws, rfl, h1, k _ (by rw [repK_len h2]; exact rv_int)⟩
  | dT l =>
    simp only [lenQ, Option.some.injEq] at e
    subst e
    obtain ⟨a, ws, rfl, h1, h2⟩ := bv_dT rx
    exact .inr ⟨a, ws, rfl, h1, k _ (by rw [repT_len h2]; exact rv_int)⟩
  | _ => simp [lenQ] at e
end
end DR
/-! DR: items, slices, methods, stores into lists. -/
namespace DR
open PySem PySem.Spec PyProof.Rows L2
theorem rE_non {K : PySem.W.Frag} {σ : L2.St} {W : Wd} {H : Hp} {s : DS} : rE K σ W H s .non .non := rv_non (K := K) (W := W) (H := H)
theorem atI_rep {K : PySem.W.Frag} {cs : List Addr} {H : Hp} {ps : List PV} {vs : List V} {i : Int} {p : PV} (r : Reps K cs H ps vs) (h : atI ps i = some p) : ∃ v, atI vs i = some v ∧ Rep K cs H p v := by
  unfold atI at h ⊢
  rw [r.len]
  cases e : ixN ps.length i with
  | none => rw [e] at h; cases h
  | some j =>
    rw [e] at h
    obtain ⟨v, h1, h2⟩ := r.get h
    exact ⟨v, h1, h2⟩
def ixG : P2 := fun p q => match p, q with
  | .lst ps, .int i => atI ps i
  | .tup _ ps, .int i => atI ps i
  | .scr ps, .int i => atI ps i
  | .str z, .int i => if lineOk z.length then (atI z.cps.toList i).map fun c => .str ⟨#[c]⟩ else none
  | .dK l, q => (lookD (.dK l) q).bind id
  | .dT l, q => (lookD (.dT l) q).bind id
  | _, _ => none
section
variable {X : Cx} {Z : WX} {x : Str} {pos pos' p1 p2 : Pos} {e a b : Expr} {f g : EM}
theorem ixG_ok {K : PySem.W.Frag} {W : Wd} {H : Hp} {p q r : PV} {x y : V} {Q : VK} (rx : BV K W H p x) (ry : RV K W H q y) (h : ixG p q = some r) (k : ∀ v, RV K W H r v → Q v H) : rIx K x y H Q ∨ rIxQ K x y H Q := by
  have dict : ∀ {d : PV}, ((lookD d q).bind id) = some r → BV K W H d x → rIxQ K x y H Q := fun {d} e rd => by
    cases e1 : lookD d q with
    | none => rw [e1] at e; cases e
    | some z =>
      rw [e1] at e
      obtain ⟨a, o, rfl, g, g1, g2⟩ := lookD_ok e1 rd ry
      cases z with
      | none => cases e
      | some z =>
        cases e
        obtain ⟨v, rfl, rv⟩ := g1 r rfl
        exact ⟨a, v, rfl, g, k v rv⟩
  unfold ixG at h
  split at h
  · rename_i ps i
    obtain ⟨a, vs, rfl, h1, h2⟩ := bv_lst rx
    obtain ⟨v, h3, h4⟩ := atI_rep h2 h
    exact .inl (.inl ⟨a, vs, i, v, rfl, rv_int_inv ry, SqL.of h1, h3, k v h4⟩)
  · rename_i ps i
    obtain ⟨a, vs, rfl, h1, h2⟩ := bv_tup rx
    obtain ⟨v, h3, h4⟩ := atI_rep h2 h
    exact .inl (.inr (.inl ⟨a, vs, i, v, rfl, rv_int_inv ry, h1, h3, k v h4⟩))
  · rename_i ps i
    obtain ⟨a, vs, rfl, h1, h2⟩ := bv_scr rx
    obtain ⟨v, h3, h4⟩ := atI_rep h2 h
    exact .inl (.inl ⟨a, vs, i, v, rfl, rv_int_inv ry, h1, h3, k v h4⟩)
  · rename_i z i
    by_cases hz : lineOk z.length = true
    · rw [if_pos hz] at h
      simp only [Option.map_eq_some_iff] at h
      obtain ⟨c, h, rfl⟩ := h
      exact .inl (.inr (.inr ⟨z, i, c, bv_str rx, rv_int_inv ry, of_decide_eq_true hz, h, k _ rv_str⟩))
    · rw [if_neg hz] at h
      cases h
  · exact .inr (dict h rx)
  · exact .inr (dict h rx)
  · cases h
def ixE (f g : EM) : EM := fun s => (f s).bind fun p s1 => (g s1).bind fun q s2 => match ixG p q with
  | some r => .ok r s2
  | none => .bad
def ixN (i : Nat) (g : EM) : EM := fun s => (nameB i s).bind fun _ _ => (g s).bind fun q s2 => (nameB i s2).bind fun p s3 => match ixG p q with
  | some r => .ok r s3
  | none => .bad
theorem px_ix (hu : X.A.units + 1 < cLine) (ha : PX X Z a f) (hb : PX X Z b g) (hs : PlainIx b := by exact fun _ _ => rfl) : PX X Z (.Subscript a b pos) (ixE f g) := by
  refine ⟨PE_imp (L2.pe_ix (ix_all hu) ha.pe hb.pe hs) fun σ H Q ⟨W, s, R, h⟩ => ⟨W, s, R, Post.bind h fun p s1 x W1 H1 _ st R1 rx q => ⟨W1, s1, R1, Post.bind q fun q2 s2 y W2 H2 _ st2 R2 ry k => ?_⟩⟩⟩
  cases e : ixG p q2 with
  | none => simp only [e] at k; exact k.elim
  | some r => simp only [e] at k; exact ixG_ok (.inl (st2.rv rx)) ry e fun v rv => k v W2 H2 (Step.refl _ _) R2 rv
theorem nameB_ok {s s1 : DS} {i : Nat} {p : PV} (h : nameB i s = .ok p s1) : s1 = s := by
  unfold nameB at h
  split at h
  · rename_i k e
    cases e1 : s.t[k]? <;> rw [e1] at h <;> cases h
    rfl
  · cases h; rfl
  · cases h; rfl
  · cases h
/-- the name's slot is looked at ahead of the index and behind it -/
theorem nameB_two {K : PySem.W.Frag} {W : Wd} {H : Hp} {s : DS} {σ : L2.St} {i : Nat} {Q : VK} {rest : DS → Re PV} (R : RSt K W H s σ) (h : Post rE K Z σ W H ((nameB i s).bind fun _ _ => rest s) Q) : ∃ v, σ[i]? = some (some v) ∧ Post rE K Z σ W H (rest s) Q := by
  cases e : nameB i s with
  | bad => rw [e] at h; exact h.elim
  | exc x s1 => exact (nameB_no e).elim
  | ok p s1 =>
    rw [e] at h
    obtain ⟨rfl, v, h1, _⟩ := nameB_bv R e
    exact ⟨v, h1, h⟩
theorem nameB_end {K : PySem.W.Frag} {W : Wd} {H : Hp} {s : DS} {σ : L2.St} {i : Nat} {v : V} {Q : VK} {rest : PV → DS → Re PV} (R : RSt K W H s σ) (hv : σ[i]? = some (some v)) (h : Post rE K Z σ W H ((nameB i s).bind rest) Q) : ∃ p, BV K W H p v ∧ Post rE K Z σ W H (rest p s) Q := by
  cases e : nameB i s with
  | bad => rw [e] at h; exact h.elim
  | exc x s1 => exact (nameB_no e).elim
  | ok p s1 =>
    rw [e] at h
    obtain ⟨rfl, v', h1, h2⟩ := nameB_bv R e
    rw [hv] at h1
    cases h1
    exact ⟨p, h2, h⟩
theorem px_ixN (hu : X.A.units + 1 < cLine) (i : Nat) (hN : X.N[i]? = some x := by rfl) (hb : PX X Z b g) (hv : Vis X.env.scope x := by first | exact Or.inl rfl | exact Or.inr (Or.inl rfl) | exact Or.inr (Or.inr rfl)) (hs : PlainIx b := by exact fun _ _ => rfl)
    (hd : (x == ("__debug__" : Str)) = false := by decide) (hcd : (x == ("__classdict__" : Str)) = false := by decide) : PX X Z (.Subscript (.Name x p1) b pos) (ixN i g) := by
  refine ⟨PE_imp (L2.pe_ix (ix_all hu) (pe_var hN hv hd hcd) hb.pe hs) fun σ H Q ⟨W, s, R, h⟩ => ?_⟩
  obtain ⟨v, h1, h⟩ := nameB_two (rest := fun s => (g s).bind fun q s2 => (nameB i s2).bind fun p s3 => match ixG p q with
    | some r => .ok r s3
    | none => .bad) R h
  refine ⟨v, h1, W, s, R, Post.bind h fun q2 s2 y W2 H2 _ st2 R2 ry k => ?_⟩
  obtain ⟨p, h2, k⟩ := nameB_end R2 h1 k
  cases e : ixG p q2 with
  | none => simp only [e] at k; exact k.elim
  | some r => simp only [e] at k; exact ixG_ok h2 ry e fun v rv => k v W2 H2 (Step.refl _ _) R2 rv
/-! ### slices -/
def cutP (ps : List PV) (lo hi : Option Int) : List PV := (ps.drop (HT.sIx ps.length 0 lo)).take (HT.sIx ps.length ps.length hi - HT.sIx ps.length 0 lo)
theorem cut_rep {K : PySem.W.Frag} {cs : List Addr} {H : Hp} {ps : List PV} {vs : List V} {lo hi : Option Int} (r : Reps K cs H ps vs) : Reps K cs H (cutP ps lo hi) (cutV vs lo hi) := by
  unfold cutP cutV
  rw [r.len]
  exact (r.drop _).take _
abbrev QM := DS → Re (Option Int)
def rQ : RT (Option Int) (Option Int) := fun _ _ _ _ _ a b => b = a
structure PQ (X : Cx) (Z : WX) (e : Option Expr) (f : QM) : Prop where
  po : L2.PO X e (tG rQ X.K Z f)
def noQ : QM := fun s => .ok none s
def someQ (f : EM) : QM := fun s => (f s).bind fun p s1 => match p with
  | .int i => .ok (some i) s1
  | _ => .bad
theorem q_none : PQ X Z none noQ := ⟨⟨fun pins s σ H Q I ⟨W, s1, R, h⟩ => L2.po_none.run pins s σ H Q I (h none W H (Step.refl _ _) R rfl)⟩⟩
theorem q_some (h : PX X Z e f) : PQ X Z (some e) (someQ f) := by
  refine ⟨⟨fun pins s σ H Q I h' => (L2.po_some h.pe).run pins s σ H Q I ?_⟩⟩
  obtain ⟨W, s1, R, h'⟩ := h'
  refine ⟨W, s1, R, Post.bind h' fun p s1 x W1 H1 _ st R1 rx q => ?_⟩
  cases p with
  | int i => exact ⟨i, rv_int_inv (K := X.K) (W := W1) (H := H1) rx, q _ W1 H1 (Step.refl _ _) R1 rfl⟩
  | _ => exact q.elim
def cutG (p : PV) (lo hi : Option Int) : Option (PV × Bool) := match p with
  | .lst ps => some (.lst (cutP ps lo hi), true)
  | .scr ps => some (.lst (cutP ps lo hi), true)
  | .tup c ps => some (.tup c (cutP ps lo hi), false)
  | .str z => if lineOk z.length then some (.str (cutS z lo hi), false) else none
  | _ => none
theorem sl_all : SlR X (fun x lo hi H Q => rSlL X.K x lo hi H Q ∨ (rSlA X.K x lo hi H Q ∨ rSlS x lo hi H Q)) := SlR.or sl_list (SlR.or sl_tupA sl_str)
theorem cutG_ok {W : Wd} {H : Hp} {K : PySem.W.Frag} {s : DS} {σ : L2.St} {p : PV} {x : V} {lo hi : Option Int} {res : PV × Bool} {Q : VK} (R : RSt K W H s σ) (rx : BV K W H p x) (e : cutG p lo hi = some res) (po : Post rO K Z σ W H (.ok res s) Q) :
    rSlL K x lo hi H Q ∨ (rSlA K x lo hi H Q ∨ rSlS x lo hi H Q) := by
  cases p with
  | lst ps =>
    simp only [cutG, Option.some.injEq] at e
    subst e
    obtain ⟨a, vs, rfl, h1, h2⟩ := bv_lst rx
    exact .inl ⟨a, vs, rfl, SqL.of h1, fun l hl => Post.newO R hl po ⟨_, upd_same, (Step.allocO hl (R.nP hl)).rvs (cut_rep h2)⟩⟩
  | scr ps =>
    simp only [cutG, Option.some.injEq] at e
    subst e
    obtain ⟨a, vs, rfl, h1, h2⟩ := bv_scr rx
    exact .inl ⟨a, vs, rfl, h1, fun l hl => Post.newO R hl po ⟨_, upd_same, (Step.allocO hl (R.nP hl)).rvs (cut_rep h2)⟩⟩
  | tup c ps =>
    simp only [cutG, Option.some.injEq] at e
    subst e
    obtain ⟨a, vs, rfl, h1, h2⟩ := bv_tup rx
    refine .inr (.inl ⟨a, vs, rfl, h1, fun hw => ?_, fun _ l hl => Post.newP R hl (Post.toP po) fun W1 st hL => new_tup hl hL (st.rvs (cut_rep h2))⟩)
    have hc : cutP ps lo hi = ps := by
      unfold cutP
      rw [← h2.len]
      rw [hw.1, hw.2, List.drop_zero, Nat.sub_zero, h2.len]
      exact List.take_length
    rw [hc] at po
    refine po _ W H (Step.refl _ _) R ?_
    rcases rx with rx | ⟨b, e, c⟩
    · exact rx
    · exact c.elim
  | str z =>
    simp only [cutG] at e
    by_cases hz : lineOk z.length = true
    · rw [if_pos hz] at e
      cases e
      exact .inr (.inr ⟨z, bv_str rx, of_decide_eq_true hz, po _ W H (Step.refl _ _) R (show RV K W H (.str (cutS z lo hi)) (.str (cutS z lo hi)) from rv_str)⟩)
    · rw [if_neg hz] at e
      cases e
  | _ => simp [cutG] at e
def cutO (f : EM) (l u : QM) : OM := fun s => (f s).bind fun p s1 => (l s1).bind fun lo s2 => (u s2).bind fun hi s3 => match cutG p lo hi with
  | some r => .ok r s3
  | none => .bad
def cutN (i : Nat) (l u : QM) : OM := fun s => (nameB i s).bind fun _ _ => (l s).bind fun lo s2 => (u s2).bind fun hi s3 => (nameB i s3).bind fun p s4 => match cutG p lo hi with
  | some r => .ok r s4
  | none => .bad
variable {lo hi : Option Expr} {l u : QM}
theorem po_cut (ha : PX X Z a f) (hl : PQ X Z lo l) (hu : PQ X Z hi u) : PO X Z (.Subscript a (.Slice lo hi none p2) pos) (cutO f l u) := by
  refine ⟨PE_imp (L2.pe_slice sl_all ha.pe hl.po hu.po) fun σ H Q ⟨W, s, R, h⟩ => ⟨W, s, R, Post.bind h fun p s1 x W1 H1 _ st R1 rx q => ⟨W1, s1, R1, Post.bind q fun lo s2 lo' W2 H2 _ st2 R2 e1 q => ⟨W2, s2, R2, Post.bind q fun hi s3 hi' W3 H3 _ st3 R3 e2 k => ?_⟩⟩⟩⟩
  obtain rfl : lo' = lo := e1
  obtain rfl : hi' = hi := e2
  cases e : cutG p lo' hi' with
  | none => simp only [e] at k; exact k.elim
  | some r => simp only [e] at k; exact cutG_ok R3 (.inl ((st2.trans st3).rv rx)) e k
theorem po_cutN (i : Nat) (hN : X.N[i]? = some x := by rfl) (hl : PQ X Z lo l) (hu : PQ X Z hi u) (hv : Vis X.env.scope x := by first | exact Or.inl rfl | exact Or.inr (Or.inl rfl) | exact Or.inr (Or.inr rfl))
    (hd : (x == ("__debug__" : Str)) = false := by decide) (hcd : (x == ("__classdict__" : Str)) = false := by decide) : PO X Z (.Subscript (.Name x p1) (.Slice lo hi none p2) pos) (cutN i l u) := by
  refine ⟨PE_imp (L2.pe_slice sl_all (pe_var hN hv hd hcd) hl.po hu.po) fun σ H Q ⟨W, s, R, h⟩ => ?_⟩
  unfold cutN at h
  cases e0 : nameB i s with
  | bad => rw [e0] at h; exact h.elim
  | exc x s1 => exact (nameB_no e0).elim
  | ok p0 s0 =>
    rw [e0] at h
    obtain ⟨rfl, v, h1, _⟩ := nameB_bv R e0
    refine ⟨v, h1, W, s0, R, Post.bind h fun lo s2 lo' W2 H2 _ st2 R2 e1 q => ⟨W2, s2, R2, Post.bind q fun hi s3 hi' W3 H3 _ st3 R3 e2 k => ?_⟩⟩
    obtain rfl : lo' = lo := e1
    obtain rfl : hi' = hi := e2
    cases e : nameB i s3 with
    | bad => rw [e] at k; exact k.elim
    | exc x s1 => exact (nameB_no e).elim
    | ok p s4 =>
      rw [e] at k
      obtain ⟨rfl, v', g1, g2⟩ := nameB_bv R3 e
      rw [h1] at g1
      cases g1
      simp only [Re.bind] at k
      cases e3 : cutG p lo' hi' with
      | none => simp only [e3] at k; exact k.elim
      | some r => simp only [e3] at k; exact cutG_ok R3 g2 e3 k
/-- x[::-1] of a list -/
def revG : O1 := fun p => match p with
  | .lst ps => some (.lst ps.reverse, true)
  | _ => none
theorem po_revL {k : Nat} {q1 q2 q3 : Pos} (ha : PB X Z a f) : PO X Z (.Subscript a (.Slice none none (some (.UnaryOp .USub (.Constant (.int 1) k q1) q2)) q3) pos) (un1O revG f) := by
  refine ⟨PE_imp (L2.pe_revL ha.pe) fun σ H Q ⟨W, s, R, h⟩ => ⟨W, s, R, Post.bind h fun p s1 x W1 H1 _ st R1 rx po => ?_⟩⟩
  cases p with
  | lst ps =>
    simp only [revG] at po
    obtain ⟨a, vs, rfl, h1, h2⟩ := bv_lst rx
    exact ⟨a, vs, rfl, SqL.of h1, fun l hl => Post.newO R1 hl po ⟨_, upd_same, (Step.allocO hl (R1.nP hl)).rvs h2.rev⟩⟩
  | _ => simp only [revG] at po; exact po.elim
/-! ### an object that a name holds is changed -/
def modB (i : Nat) (u : PV → Option (PV × PV)) (s : DS) : Re PV := match s.e[i]? with
  | some (.own p) => (match u p with
    | some (p', r) => .ok r ⟨s.e.set i (.own p'), s.t⟩
    | none => .bad)
  | some (.val (.cell k)) => (match s.t[k]? with
    | some p => (match u p with
      | some (p', r) => .ok r ⟨s.e, s.t.set k p'⟩
      | none => .bad)
    | none => .bad)
  | _ => .bad
theorem con_upd {K : PySem.W.Frag} {W : Wd} {H : Hp} {p : PV} {a b : Addr} {o : HO} (hL : a ∈ W.L) (hn : b ≠ a) (c : Con K W H p b) : Con K W (upd H a o) p b := by
  unfold Con at c ⊢
  cases p <;> simp only [Wd.m_upd hL, upd_ne hn] <;> exact c
theorem modB_ok {K : PySem.W.Frag} {W : Wd} {H : Hp} {s s' : DS} {σ : L2.St} {i : Nat} {u : PV → Option (PV × PV)} {r : PV} (R : RSt K W H s σ) (h : modB i u s = .ok r s') :
    ∃ p p' a, u p = some (p', r) ∧ σ[i]? = some (some (.ref a)) ∧ a ∈ W.L ∧ Con K W H p a ∧ ∀ o, Con K W (upd H a o) p' a → Step W H W (upd H a o) ∧ RSt K W (upd H a o) s' σ := by
  have step : ∀ {a : Addr} {o : HO}, a ∈ W.O ∨ a ∈ W.S → Step W H W (upd H a o) := fun {a o} ha => by
    have hL : a ∈ W.L := by
      unfold Wd.L
      rcases ha with z | z <;> simp [z]
    have nP : a ∉ W.P := ha.elim (R.t.pa a) (R.t.ps a)
    refine ⟨by rw [Wd.m_upd hL]; exact Same.refl _, fun b hb => ?_, fun _ z => .inl z, Pre.refl _, fun _ z => .inl z, rfl, fun b hb => upd_ne fun z => nP (z ▸ hb)⟩
    by_cases z : b = a
    · rw [z, upd_same] at hb
      cases hb
    · rw [upd_ne z] at hb
      exact hb
  unfold modB at h
  split at h
  · rename_i p e
    cases e1 : u p with
    | none => rw [e1] at h; cases h
    | some pr =>
      obtain ⟨p', r'⟩ := pr
      rw [e1] at h
      cases h
      obtain ⟨a, h1, h2, h3⟩ := R.e.ow i p e
      have hL : a ∈ W.L := by simp [Wd.L, h2]
      refine ⟨p, p', a, e1, h1, hL, h3, fun o hc => ⟨step (.inl h2), ?_⟩⟩
      have hm : W.m (upd H a o) = W.m H := Wd.m_upd hL
      have tr : ∀ {b}, (∃ w, H b = some w) → ∃ w, upd H a o b = some w := fun {b} ⟨w, hw⟩ => by
        by_cases z : b = a
        · rw [z]; exact ⟨_, upd_same⟩
        · rw [upd_ne z]; exact ⟨w, hw⟩
      refine ⟨⟨by simp [R.e.len], fun j q hj => ?_, fun j q hj => ?_, fun j k q q' b h1' h2' h3' h4' => ?_⟩, ⟨R.t.len, fun k q b e1 e2 => ?_, R.t.nd, R.t.ap, fun b hb => tr (R.t.pt b hb), R.t.pa, R.t.ps, fun b hb => tr (R.t.ot b hb)⟩⟩
      · rcases get_set hj with ⟨rfl, z⟩ | ⟨hj, z⟩
        · cases z
        · obtain ⟨v, g1, g2⟩ := R.e.at_ j q z
          refine ⟨v, g1, ?_⟩
          show Rep K W.S (W.m (upd H a o)) q v
          rw [hm]
          exact g2
      · rcases get_set hj with ⟨rfl, z⟩ | ⟨hj, z⟩
        · cases z
          exact ⟨a, h1, h2, hc⟩
        · obtain ⟨b, g1, g2, g3⟩ := R.e.ow j q z
          exact ⟨b, g1, g2, con_upd hL (fun y => hj (R.e.inj j i q p a z e (by rw [g1, y]) h1)) g3⟩
      · have back : ∀ {j q}, (s.e.set i (Sl.own p'))[j]? = some (Sl.own q) → ∃ q', s.e[j]? = some (Sl.own q') := fun {j q} hj => by
          rcases get_set hj with ⟨rfl, z⟩ | ⟨_, z⟩
          · exact ⟨p, e⟩
          · exact ⟨q, z⟩
        obtain ⟨x1, y1⟩ := back h1'
        obtain ⟨x2, y2⟩ := back h2'
        exact R.e.inj j k x1 x2 b y1 y2 h3' h4'
      · exact con_upd hL (fun y => R.t.ap a h2 (y ▸ List.mem_of_getElem? e2)) (R.t.at_ k q b e1 e2)
  · rename_i k e
    cases e0 : s.t[k]? with
    | none => rw [e0] at h; cases h
    | some p =>
      rw [e0] at h
      simp only at h
      cases e1 : u p with
      | none => rw [e1] at h; cases h
      | some pr =>
        obtain ⟨p', r'⟩ := pr
        rw [e1] at h
        cases h
        obtain ⟨v, h1, h2⟩ := R.e.at_ i _ e
        unfold RV Rep at h2
        obtain ⟨a, rfl, h2⟩ := h2
        have hS : a ∈ W.S := List.mem_of_getElem? h2
        have hL : a ∈ W.L := by simp [Wd.L, hS]
        have hk : k < s.t.length := (List.getElem?_eq_some_iff.mp e0).1
        refine ⟨p, p', a, e1, h1, hL, R.t.at_ k p a e0 h2, fun o hc => ⟨step (.inr hS), ?_⟩⟩
        have hm : W.m (upd H a o) = W.m H := Wd.m_upd hL
        have tr : ∀ {b}, (∃ w, H b = some w) → ∃ w, upd H a o b = some w := fun {b} ⟨w, hw⟩ => by
          by_cases z : b = a
          · rw [z]; exact ⟨_, upd_same⟩
          · rw [upd_ne z]; exact ⟨w, hw⟩
        refine ⟨⟨R.e.len, fun j q hj => ?_, fun j q hj => ?_, R.e.inj⟩, ⟨by simp [R.t.len], fun j q b g1 g2 => ?_, R.t.nd, R.t.ap, fun b hb => tr (R.t.pt b hb), R.t.pa, R.t.ps, fun b hb => tr (R.t.ot b hb)⟩⟩
        · obtain ⟨v, g1, g2⟩ := R.e.at_ j q hj
          refine ⟨v, g1, ?_⟩
          show Rep K W.S (W.m (upd H a o)) q v
          rw [hm]
          exact g2
        · obtain ⟨b, g1, g2, g3⟩ := R.e.ow j q hj
          exact ⟨b, g1, g2, con_upd hL (fun y => R.t.ap b g2 (y ▸ hS)) g3⟩
        · by_cases hjk : j = k
          · subst hjk
            rw [List.getElem?_set_self hk] at g1
            cases g1
            rw [h2] at g2
            cases g2
            exact hc
          · rw [List.getElem?_set_ne (Ne.symm hjk)] at g1
            refine con_upd hL (fun y => hjk ?_) (R.t.at_ j q b g1 g2)
            subst y
            obtain ⟨j1, j2⟩ := List.getElem?_eq_some_iff.mp g2
            obtain ⟨k1, k2⟩ := List.getElem?_eq_some_iff.mp h2
            exact (List.getElem_inj R.t.nd).mp (j2.trans k2.symm)
  · cases h
theorem modB_no {i : Nat} {u : PV → Option (PV × PV)} {s s1 : DS} {x : Exn} (h : modB i u s = .exc x s1) : False := by
  unfold modB at h
  split at h
  · rename_i p e
    cases e1 : u p <;> rw [e1] at h <;> cases h
  · rename_i k e
    cases e1 : s.t[k]? with
    | none => rw [e1] at h; cases h
    | some p =>
      rw [e1] at h
      simp only at h
      cases e2 : u p <;> rw [e2] at h <;> cases h
  · cases h
/-- x.append(e) -/
def appU (q : PV) : PV → Option (PV × PV) := fun p => match p with
  | .lst ps => if ps.length < sizeLine then some (.lst (ps ++ [q]), .non) else none
  | _ => none
def appE (i : Nat) (g : EM) : EM := fun s => (nameB i s).bind fun p _ => if (tyN p = some "list") then (g s).bind fun q s2 => modB i (appU q) s2 else .bad
theorem con_lst {K : PySem.W.Frag} {W : Wd} {H : Hp} {ps : List PV} {a : Addr} (c : Con K W H (.lst ps) a) : ∃ vs, H a = some (.lst vs) ∧ RVs K W H ps vs := c
theorem rvs_upd {K : PySem.W.Frag} {W : Wd} {H : Hp} {a : Addr} {o : HO} {ps : List PV} {vs : List V} (h : a ∈ W.L) (r : RVs K W H ps vs) : RVs K W (upd H a o) ps vs := by
  show Reps K W.S (W.m (upd H a o)) ps vs
  rw [Wd.m_upd h]
  exact r
theorem rv_upd {K : PySem.W.Frag} {W : Wd} {H : Hp} {a : Addr} {o : HO} {p : PV} {v : V} (h : a ∈ W.L) (r : RV K W H p v) : RV K W (upd H a o) p v := by
  show Rep K W.S (W.m (upd H a o)) p v
  rw [Wd.m_upd h]
  exact r
theorem px_app (i : Nat) {apos cpos : Pos} (hN : X.N[i]? = some x := by rfl) (hb : PX X Z e g) (hv : Vis X.env.scope x := by first | exact Or.inl rfl | exact Or.inr (Or.inl rfl) | exact Or.inr (Or.inr rfl))
    (hd : (x == ("__debug__" : Str)) = false := by decide) (hcd : (x == ("__classdict__" : Str)) = false := by decide)
    (hbase : attributeBase (.Name x p1) "append" X.env (eval (.Name x p1) X.env) = eval (.Name x p1) X.env := by rfl)
    (hfew : ((backTo cpos (starEach [e] X.env)).all (fun x => !x.1) && (backToKw cpos (keywordEach [] X.env)).all (fun x => x.1.isSome)
      && decide ([e].length + ([] : List Keyword).length + (if ([] : List Keyword).isEmpty then 0 else 1) < 30)) = true := by rfl)
    (hline : (apos.endLine == cpos.line) = true := by rfl) (hs : starEach [e] X.env = (false, eval e X.env) :: starEach [] X.env := by rfl) :
    PX X Z (.Call (.Attribute (.Name x p1) "append" apos) [e] [] cpos) (appE i g) := by
  refine ⟨PE_imp (L2.pe_bm PySem.F.plainAttrs_list PySem.F.slot_list_append PySem.F.type_list_append mt_append (pe_var hN hv hd hcd) (L2.pa_cons hb.pe L2.pa_nil hs) hbase hfew hline hs rfl) fun σ H Q ⟨W, s, R, h⟩ => ?_⟩
  unfold appE at h
  cases e0 : nameB i s with
  | bad => rw [e0] at h; exact h.elim
  | exc x s1 => exact (nameB_no e0).elim
  | ok p0 s0 =>
    rw [e0] at h
    simp only [Re.bind] at h
    obtain ⟨rfl, v, h1, hb0⟩ := nameB_bv R e0
    by_cases ht : tyN p0 = some "list"
    · rw [if_pos ht] at h
      obtain ⟨ps0, rfl⟩ : ∃ ps, p0 = .lst ps := by
        cases p0 <;> simp [tyN] at ht
        exact ⟨_, rfl⟩
      obtain ⟨a0, vs0, rfl, g1, g2⟩ := bv_lst hb0
      refine ⟨_, h1, .inl ⟨rfl, vs0, SqL.of g1⟩, W, s0, R, Post.bind h fun q s2 y W2 H2 _ st2 R2 ry k => ?_⟩
      cases em : modB i (appU q) s2 with
      | bad => rw [em] at k; exact k.elim
      | exc x s1 => exact (modB_no em).elim
      | ok r s3 =>
        rw [em] at k
        obtain ⟨p, p', a, u1, u2, u3, u4, u5⟩ := modB_ok R2 em
        rw [h1] at u2
        cases u2
        cases p with
        | lst ps =>
          obtain ⟨vs, c1, c2⟩ := con_lst u4
          simp only [appU] at u1
          split at u1
          · rename_i hz
            cases u1
            obtain ⟨st3, R3⟩ := u5 (.lst (vs ++ [y])) ⟨_, upd_same, rvs_upd u3 (c2.app (reps_cons ry reps_nil))⟩
            exact ⟨a0, vs, y, rfl, rfl, c1, by rw [c2.len]; exact hz, k _ W2 _ st3 R3 rE_non⟩
          · cases u1
        | _ => simp [appU] at u1
    · rw [if_neg ht] at h
      exact h.elim
/-- x[e] = v -/
def setU (j q : PV) : PV → Option (PV × PV) := fun p => match p, j with
  | .lst ps, .int j => (L2.ixN ps.length j).map fun k => (.lst (ps.set k q), .non)
  | .dK l, j => if l.length < sizeLine then (keyP j).map fun k => (.dK (putP l k q), .non) else none
  | .dT l, .tup false js => if l.length < sizeLine then (keysP js).map fun k => (.dT (putP l k q), .non) else none
  | _, _ => none
def rSetA : TSet := fun o i v H Q => rSetL o i v H Q ∨ rSetD o i v H Q
theorem set_all (hu : X.A.units + 1 < cLine) : PSet X rSetA := fun pins s σ H o i v ov iv u Q I a b c h => h.elim (set_list pins s σ H o i v ov iv u Q I a b c) (set_dict hu pins s σ H o i v ov iv u Q I a b c)
theorem con_dK {K : PySem.W.Frag} {W : Wd} {H : Hp} {l : List (Key × PV)} {a : Addr} (c : Con K W H (.dK l) a) : ∃ ws, H a = some (.dK ws) ∧ RepK K W.S (W.m H) l ws := c
theorem con_dT {K : PySem.W.Frag} {W : Wd} {H : Hp} {l : List (List Key × PV)} {a : Addr} (c : Con K W H (.dT l) a) : ∃ ws, H a = some (.dT ws) ∧ RepT K W.S (W.m H) l ws := c
theorem setU_ok {K : PySem.W.Frag} {W : Wd} {H : Hp} {s s' : DS} {σ : L2.St} {i : Nat} {j q r : PV} {jv y v : V} {Q : Hp → Prop} (R : RSt K W H s σ) (h1 : σ[i]? = some (some v)) (em : modB i (setU j q) s = .ok r s') (rj : RV K W H j jv) (rq : RV K W H q y)
    (k : ∀ H', Step W H W H' → RSt K W H' s' σ → Q H') : rSetA v jv y H Q := by
  obtain ⟨p, p', a, u1, u2, u3, u4, u5⟩ := modB_ok R em
  rw [h1] at u2
  cases u2
  unfold setU at u1
  split at u1
  · rename_i ps j
    simp only [Option.map_eq_some_iff] at u1
    obtain ⟨jn, hj, u1⟩ := u1
    cases u1
    obtain ⟨vs, c1, c2⟩ := con_lst u4
    obtain ⟨st3, R3⟩ := u5 (.lst (vs.set jn y)) ⟨_, upd_same, rvs_upd u3 (c2.set rq)⟩
    exact .inl ⟨a, vs, j, jn, rfl, rv_int_inv rj, c1, by rw [c2.len]; exact hj, k _ st3 R3⟩
  · rename_i l
    split at u1
    · rename_i hl
      simp only [Option.map_eq_some_iff] at u1
      obtain ⟨kk, hk, u1⟩ := u1
      cases u1
      obtain ⟨ws, c1, c2⟩ := con_dK u4
      obtain ⟨st3, R3⟩ := u5 (.dK (putK ws kk y)) ⟨_, upd_same, by rw [Wd.m_upd u3]; exact repK_put kk rq c2⟩
      exact .inr ⟨a, _, rfl, .inl ⟨ws, kk, c1, keyP_v hk rj, by rw [repK_len c2]; exact hl, rfl⟩, k _ st3 R3⟩
    · cases u1
  · rename_i l js
    split at u1
    · rename_i hl
      simp only [Option.map_eq_some_iff] at u1
      obtain ⟨kk, hk, u1⟩ := u1
      cases u1
      obtain ⟨ws, c1, c2⟩ := con_dT u4
      obtain ⟨st3, R3⟩ := u5 (.dT (putK ws kk y)) ⟨_, upd_same, by rw [Wd.m_upd u3]; exact repT_put kk rq c2⟩
      unfold RV Rep at rj
      obtain ⟨b, vs, eb, k1, k2⟩ := rj
      rw [if_neg (by decide)] at k1
      have hv := keysP_v hk k2
      subst hv
      exact .inr ⟨a, _, rfl, .inr ⟨ws, kk, b, c1, eb, (msk_some.mp k1).2, by rw [repT_len c2]; exact hl, rfl⟩, k _ st3 R3⟩
    · cases u1
  · cases u1
def setIxS (i : Nat) (f g : EM) : SM := fun s => (f s).bind fun q s1 => (nameB i s1).bind fun _ _ => (g s1).bind fun j s2 => (modB i (setU j q) s2).bind fun _ s3 => .ok .nx s3
theorem ps_setIx (hu : X.A.units + 1 < cLine) (i : Nat) {vpos : Pos} {v : Expr} (hN : X.N[i]? = some x := by rfl) (hf : PX X Z v f) (hb : PX X Z b g) (hv : Vis X.env.scope x := by first | exact Or.inl rfl | exact Or.inr (Or.inl rfl) | exact Or.inr (Or.inr rfl))
    (hd : (x == ("__debug__" : Str)) = false := by decide) (hcd : (x == ("__classdict__" : Str)) = false := by decide)
    (ha : ∀ v, assign (.Subscript (.Name x p1) b vpos) X.env v = (do
      let ov ← holding [v] (eval (.Name x p1) X.env)
      let iv ← holding [v, ov] (eval b X.env)
      standAt vpos
      holding [v, ov, iv] (setItem ov iv v)
      release [v, ov, iv] []) := by intro _; rfl)
    (hs : swapsWithSole [.Subscript (.Name x p1) b vpos] v pos.line X.env = pure false := by rfl) (hw : swappedStores [.Subscript (.Name x p1) b vpos] v X.env = pure none := by rfl)
    (h1 : (assignEach [.Subscript (.Name x p1) b vpos] X.env).map (·.2) = [assign (.Subscript (.Name x p1) b vpos) X.env] := by rfl) : PSX X Z (.Assign [.Subscript (.Name x p1) b vpos] v pos) (setIxS i f g) := by
  refine ⟨PS_imp (L2.ps_asg hf.pe (L2.pg_sub (pe_var hN hv hd hcd) hb.pe (set_all hu) ha) hs hw h1) fun D σ H ⟨W, s, R, h⟩ => ⟨W, s, R, PostS.bindE h fun q s1 y W1 H1 _ st R1 ry k => ?_⟩⟩
  cases e0 : nameB i s1 with
  | bad => simp only [e0] at k; exact k.elim
  | exc x s1 => exact (nameB_no e0).elim
  | ok p0 s0 =>
    rw [e0] at k
    simp only [Re.bind] at k
    obtain ⟨rfl, v, h1, hb0⟩ := nameB_bv R1 e0
    refine ⟨v, h1, W1, s0, R1, PostS.bindE k fun j s2 jv W2 H2 _ st2 R2 rj k => ?_⟩
    cases em : modB i (setU j q) s2 with
    | bad => rw [em] at k; exact k.elim
    | exc x s1 => exact (modB_no em).elim
    | ok r s3 =>
      rw [em] at k
      exact setU_ok R2 h1 em rj (st2.rv ry) fun H3 st3 R3 => k σ W2 H3 st3 R3
/-- x[e] += v, x[e] -= v over ints -/
def lixG : P2 := fun p q => match p, q with
  | .lst ps, .int i => atI ps i
  | _, _ => none
def augIxS (i : Nat) (c : P2) (g f : EM) : SM := fun s => (nameB i s).bind fun _ _ => (g s).bind fun j s1 => (nameB i s1).bind fun p _ => match lixG p j with
  | some old => (f s1).bind fun q s2 => (match c old q with
    | some r => (modB i (setU j r) s2).bind fun _ s3 => .ok .nx s3
    | none => .bad)
  | none => .bad
theorem get_all (hu : X.A.units + 1 < cLine) : PGet X (rIxL X.K) := by
  intro pins s σ H o i ov iv Q I ro ri h
  obtain ⟨p, xs, k, z, rfl, rfl, hq, he, q⟩ := h
  cases ro
  obtain ⟨t, rfl⟩ := ri
  obtain ⟨its, r, pl, hz⟩ := I.list hq
  obtain ⟨j, h1, h2, h3, h4, h5⟩ := atI_get he
  obtain ⟨w, ew, rw'⟩ := r.get h2
  have hl := r.length
  have hn := line63
  have fin : EP X pins σ Q w s := ⟨z, H, I, rw', q⟩
  by_cases h0 : 0 ≤ k
  · have hj : k.toNat = j := by
      rw [seqIndex_of h0 h5] at h1
      exact Option.some.inj h1
    exact wpAny_getItem_list pl.isList h0 (by omega) (by rw [hj]; simpa using ew) fin
  · have hj : (k + (its.toArray.size : Int)).toNat = j := by
      rw [seqIndex_neg (by omega) h4] at h1
      rw [List.size_toArray, ← hl]
      exact Option.some.inj h1
    exact wpAny_getItem_list_neg pl.isList (by omega) (by rw [List.size_toArray] <;> omega) (by omega) (by rw [hj]; simpa using ew) fin
end
end DR
/-! DR: several values at once, op=, the store grows. -/
namespace DR
open PySem PySem.Spec PyProof.Rows L2
/-! ### an owned value is kept while others are reckoned -/
def Wd.hold (W : Wd) (a : Addr) : Wd := ⟨W.O.filter fun b => decide (b ≠ a), W.S, a :: W.P⟩
def Wd.free (W' W : Wd) (a : Addr) : Wd := ⟨a :: W'.O, W'.S, W.P⟩
section
variable {K : PySem.W.Frag} {W W' : Wd} {H H' : Hp} {s s' : DS} {σ : L2.St} {a : Addr}
theorem hold_in {b : Addr} : b ∈ (W.hold a).O ↔ b ∈ W.O ∧ b ≠ a := by simp [Wd.hold]
theorem hold_m (ha : a ∈ W.O) : (W.hold a).m H = W.m H := m_of_iff fun b => by
  simp only [Wd.L, Wd.hold, List.mem_append, List.mem_cons, List.mem_filter, decide_eq_true_eq]
  by_cases hb : b = a
  · subst hb; simp [ha]
  · constructor
    · rintro (⟨h, _⟩ | h | h | h)
      · exact .inl h
      · exact .inr (.inl h)
      · exact absurd h hb
      · exact .inr (.inr h)
    · rintro (h | h | h)
      · exact .inl ⟨h, hb⟩
      · exact .inr (.inl h)
      · exact .inr (.inr (.inr h))
theorem RSt.hold (R : RSt K W H s σ) (ha : a ∈ W.O) (hn : ∀ (i : Nat) (q : PV), s.e[i]? = some (.own q) → σ[i]? ≠ some (some (.ref a))) : RSt K (W.hold a) H s σ := by
  have hm : (W.hold a).m H = W.m H := hold_m ha
  refine ⟨⟨R.e.len, fun i p h => ?_, fun i p h => ?_, R.e.inj⟩, ⟨R.t.len, fun k p b e1 e2 => con_m hm.symm rfl (R.t.at_ k p b e1 e2), R.t.nd, fun b h => R.t.ap b (hold_in.mp h).1, fun b h => ?_, fun b h z => ?_, fun b h z => ?_, fun b h => R.t.ot b (hold_in.mp h).1⟩⟩
  · obtain ⟨v, h1, h2⟩ := R.e.at_ i p h
    refine ⟨v, h1, ?_⟩
    show Rep K W.S ((W.hold a).m H) p v
    rw [hm]
    exact h2
  · obtain ⟨b, h1, h2, h3⟩ := R.e.ow i p h
    exact ⟨b, h1, hold_in.mpr ⟨h2, fun z => hn i p h (by rw [h1, z])⟩, con_m hm.symm rfl h3⟩
  · rcases List.mem_cons.mp h with z | z
    · rw [z]; exact R.t.ot a ha
    · exact R.t.pt b z
  · rcases List.mem_cons.mp z with y | y
    · exact (hold_in.mp h).2 y
    · exact R.t.pa b (hold_in.mp h).1 y
  · rcases List.mem_cons.mp z with y | y
    · exact R.t.ap a ha (y ▸ h)
    · exact R.t.ps b h y
theorem free_m (hP : W'.P = a :: W.P) : (W'.free W a).m H' = W'.m H' := m_of_iff fun b => by
  simp only [Wd.L, Wd.free, hP, List.mem_append, List.mem_cons]
  constructor
  · rintro ((h | h) | h | h) <;> simp [h]
  · rintro (h | h | h | h) <;> simp [h]
theorem Step.free (ha : a ∈ W.O) (st : Step (W.hold a) H W' H') : Step W H (W'.free W a) H' := by
  have hP : W'.P = a :: W.P := st.prv
  refine ⟨?_, st.there, fun b h => ?_, st.pre, fun b h => ?_, rfl, fun b h => st.pk b (List.mem_cons_of_mem _ h)⟩
  · rw [free_m hP, ← hold_m ha]
    exact st.same
  · rcases List.mem_cons.mp h with h | h
    · rw [h]; exact .inl ha
    · exact (st.new b h).imp (fun z => (hold_in.mp z).1) id
  · rcases st.sto b h with z | z | z
    · exact .inl z
    · exact .inr (.inl (hold_in.mp z).1)
    · exact .inr (.inr z)
theorem RSt.free (R : RSt K W H s σ) (ha : a ∈ W.O) (st : Step (W.hold a) H W' H') (R' : RSt K W' H' s' σ) : RSt K (W'.free W a) H' s' σ := by
  have hP : W'.P = a :: W.P := st.prv
  have hm : (W'.free W a).m H' = W'.m H' := free_m hP
  refine ⟨⟨R'.e.len, fun i p h => ?_, fun i p h => ?_, R'.e.inj⟩, ⟨R'.t.len, fun k p b e1 e2 => con_m hm.symm rfl (R'.t.at_ k p b e1 e2), R'.t.nd, fun b h => ?_, fun b h => R'.t.pt b (by rw [hP]; exact List.mem_cons_of_mem _ h), fun b h z => ?_, fun b h z => R'.t.ps b h (by rw [hP]; exact List.mem_cons_of_mem _ z), fun b h => ?_⟩⟩
  · obtain ⟨v, h1, h2⟩ := R'.e.at_ i p h
    refine ⟨v, h1, ?_⟩
    show Rep K W'.S ((W'.free W a).m H') p v
    rw [hm]
    exact h2
  · obtain ⟨b, h1, h2, h3⟩ := R'.e.ow i p h
    exact ⟨b, h1, List.mem_cons_of_mem _ h2, con_m hm.symm rfl h3⟩
  · rcases List.mem_cons.mp h with z | z
    · rw [z]; exact fun y => R'.t.ps a y (by rw [hP]; exact List.mem_cons_self)
    · exact R'.t.ap b z
  · rcases List.mem_cons.mp h with y | y
    · rw [y] at z; exact R.t.pa a ha z
    · exact R'.t.pa b y (by rw [hP]; exact List.mem_cons_of_mem _ z)
  · rcases List.mem_cons.mp h with y | y
    · rw [y]; exact R'.t.pt a (by rw [hP]; exact List.mem_cons_self)
    · exact R'.t.ot b y
end
/-! ### several values, some owned -/
def rOs (K : PySem.W.Frag) (σ : L2.St) (W : Wd) (H : Hp) (s : DS) : List (PV × Bool) → List V → Prop
  | [], vs => vs = []
  | p :: ps, vs => ∃ v r, vs = v :: r ∧ rO K σ W H s p v ∧ rOs K σ W H s ps r ∧ (p.2 = true → ∀ (i : Nat) (q : PV × Bool) (w : V), ps[i]? = some q → q.2 = true → r[i]? = some w → w ≠ v)
abbrev LM := DS → Re (List (PV × Bool))
def rOsT : RT (List (PV × Bool)) (List V) := fun K σ W H s ps vs => rOs K σ W H s ps vs
def nilL : LM := fun s => .ok [] s
def consL (f : OM) (g : LM) : LM := fun s => (f s).bind fun p s1 => (g s1).bind fun ps s2 => .ok (p :: ps) s2
structure PLX (X : Cx) (Z : WX) (es : List Expr) (f : LM) : Prop where
  pa : PA X es (tG rOsT X.K Z f)
section
variable {K : PySem.W.Frag} {W W' : Wd} {H H' : Hp} {s s' : DS} {σ : L2.St} {a : Addr}
theorem rOs_own : ∀ {ps : List (PV × Bool)} {vs : List V}, rOs K σ W H s ps vs → ∀ (i : Nat) (q : PV × Bool) (w : V), ps[i]? = some q → q.2 = true → vs[i]? = some w → ∃ b, w = .ref b ∧ b ∈ W.O
  | [], _, _, i, q, w, e, _, _ => by simp at e
  | p :: ps, vs, r, i, q, w, e, hq, ew => by
    unfold rOs at r
    obtain ⟨v, rr, rfl, h1, h2, h3⟩ := r
    cases i with
    | zero =>
      simp at e ew
      subst e ew
      obtain ⟨p, b⟩ := p
      subst hq
      obtain ⟨b, e, hb, _⟩ := (show Own K σ W H s p v from h1)
      exact ⟨b, e, hb⟩
    | succ i => exact rOs_own h2 i q w (by simpa using e) hq (by simpa using ew)
theorem rO_free {p : PV × Bool} {v : V} (hm : (W'.free W a).m H' = W'.m H') (r : rO K σ W' H' s' p v) : rO K σ (W'.free W a) H' s' p v := by
  obtain ⟨p, b⟩ := p
  cases b with
  | false =>
    show Rep K W'.S ((W'.free W a).m H') p v
    rw [hm]
    exact r
  | true =>
    obtain ⟨b, e1, e2, e3, e4⟩ := (show Own K σ W' H' s' p v from r)
    exact ⟨b, e1, List.mem_cons_of_mem _ e2, con_m hm.symm rfl e3, e4⟩
theorem rOs_free (hm : (W'.free W a).m H' = W'.m H') : ∀ {ps : List (PV × Bool)} {vs : List V}, rOs K σ W' H' s' ps vs → rOs K σ (W'.free W a) H' s' ps vs
  | [], _, r => r
  | p :: ps, vs, r => by
    unfold rOs at r ⊢
    obtain ⟨v, rr, e, h1, h2, h3⟩ := r
    exact ⟨v, rr, e, rO_free hm h1, rOs_free hm h2, h3⟩
theorem rO_step {p : PV × Bool} {v : V} (h : p.2 = false) (st : Step W H W' H') (r : rO K σ W H s p v) : rO K σ W' H' s' p v := by
  obtain ⟨p, b⟩ := p
  subst h
  exact st.rv (show RV K W H p v from r)
end
section
variable {X : Cx} {Z : WX} {e : Expr} {es : List Expr} {f : OM} {g : LM} {pos : Pos}
theorem pl_nil : PLX X Z [] nilL := ⟨PA_imp pa_nil fun σ H Q ⟨W, s, R, h⟩ => h [] W H (Step.refl _ _) R (show rOs X.K σ W H s [] [] from rfl)⟩
theorem pl_cons (ha : PO X Z e f) (hr : PLX X Z es g) (hs : starEach (e :: es) X.env = (false, eval e X.env) :: starEach es X.env := by rfl) : PLX X Z (e :: es) (consL f g) := by
  refine ⟨PA_imp (L2.pa_cons ha.pe hr.pa hs) fun σ H Q ⟨W, s, R, h⟩ => ?_⟩
  refine ⟨W, s, R, Post.bind h fun p s1 v W1 H1 _ st R1 rv q => ?_⟩
  obtain ⟨p, fr⟩ := p
  cases fr with
  | false =>
    have rv : RV X.K W1 H1 p v := rv
    refine ⟨W1, s1, R1, Post.bind q fun ps s2 vs W2 H2 _ st2 R2 rvs q2 => q2 _ W2 H2 (Step.refl _ _) R2 ?_⟩
    show rOs X.K σ W2 H2 s2 ((p, false) :: ps) (v :: vs)
    unfold rOs
    exact ⟨v, vs, rfl, st2.rv rv, rvs, fun z => nomatch z⟩
  | true =>
    obtain ⟨a, e1, ha, hc, hn⟩ := (show Own X.K σ W1 H1 s1 p v from rv)
    refine ⟨W1.hold a, s1, R1.hold ha hn, ?_⟩
    cases e2 : g s1 with
    | bad => rw [e2] at q; exact q.elim
    | exc x s2 =>
      rw [e2] at q
      intro d W' H' st' R' xr
      refine q d _ H' (st'.free ha) (R1.free ha st' R') ?_
      have hm : (W'.free W1 a).m H' = W'.m H' := free_m st'.prv
      unfold XR at xr ⊢
      cases hx : x.fs with
      | none => rw [hx] at xr; exact xr
      | some l =>
        rw [hx] at xr
        obtain ⟨dd, ws, h1, h2, h3⟩ := xr
        refine ⟨dd, ws, h1, ?_, ?_⟩
        · rw [hm]; exact h2
        · rw [hm]; exact h3
    | ok ps s2 =>
      rw [e2] at q
      intro vs W' H' st' R' rvs
      have hP : W'.P = a :: W1.P := st'.prv
      have hm : (W'.free W1 a).m H' = W'.m H' := free_m hP
      have rvs : rOs X.K σ W' H' s2 ps vs := rvs
      refine q (v :: vs) _ H' (st'.free ha) (R1.free ha st' R') ?_
      show rOs X.K σ (W'.free W1 a) H' s2 ((p, true) :: ps) (v :: vs)
      unfold rOs
      have inP : a ∈ W'.P := by rw [hP]; exact List.mem_cons_self
      refine ⟨v, vs, rfl, ⟨a, e1, List.mem_cons_self, hc.step (st'.free ha) (st'.pk a List.mem_cons_self), fun i q hi z => ?_⟩, rOs_free hm rvs, fun _ i q w hi hq hw z => ?_⟩
      · obtain ⟨b, g1, g2, _⟩ := R'.e.ow i q hi
        rw [g1] at z
        have zb : b = a := by injection z with z; injection z with z; injection z
        exact R'.t.pa b g2 (by rw [zb]; exact inP)
      · obtain ⟨b, g1, g2⟩ := rOs_own rvs i q w hi hq hw
        rw [z, e1] at g1
        have zb : a = b := by injection g1
        exact R'.t.pa b g2 (by rw [← zb]; exact inP)
/-- stores, one after the other -/
def putL : List Nat → List (PV × Bool) → DE → DE
  | i :: is, p :: ps, e => putL is ps (e.set i (putSl p))
  | _, _, e => e
def putV : List Nat → List V → L2.St → L2.St
  | i :: is, v :: vs, σ => putV is vs (σ.set i (some v))
  | _, _, σ => σ
theorem rO_put {K : PySem.W.Frag} {W : Wd} {H : Hp} {s : DS} {σ : L2.St} {i : Nat} {p q : PV × Bool} {v w : V} (hp : rO K σ W H s p v) (hq : rO K σ W H s q w) (hd : p.2 = true → q.2 = true → w ≠ v) : rO K (σ.set i (some v)) W H ⟨s.e.set i (putSl p), s.t⟩ q w := by
  obtain ⟨q, b⟩ := q
  cases b with
  | false => exact hq
  | true =>
    obtain ⟨a, e1, e2, e3, e4⟩ := (show Own K σ W H s q w from hq)
    refine ⟨a, e1, e2, e3, fun j r hj z => ?_⟩
    rcases get_set hj with ⟨rfl, y⟩ | ⟨hne, y⟩
    · have hj2 := (List.getElem?_eq_some_iff.mp z).1
      rw [List.length_set] at hj2
      rw [List.getElem?_set_self hj2] at z
      obtain ⟨p, c⟩ := p
      cases c with
      | false => simp [putSl] at y
      | true => exact hd rfl rfl (by injection z with z; injection z with z; rw [e1, z])
    · rw [List.getElem?_set_ne (Ne.symm hne)] at z
      exact e4 j r y z
theorem rOs_put {K : PySem.W.Frag} {W : Wd} {H : Hp} {s : DS} {σ : L2.St} {i : Nat} {p : PV × Bool} {v : V} (hp : rO K σ W H s p v) : ∀ {ps : List (PV × Bool)} {vs : List V}, rOs K σ W H s ps vs → (p.2 = true → ∀ (i : Nat) (q : PV × Bool) (w : V), ps[i]? = some q → q.2 = true → vs[i]? = some w → w ≠ v) →
    rOs K (σ.set i (some v)) W H ⟨s.e.set i (putSl p), s.t⟩ ps vs
  | [], _, r, _ => r
  | q :: ps, vs, r, hd => by
    unfold rOs at r ⊢
    obtain ⟨w, rr, e, h1, h2, h3⟩ := r
    subst e
    exact ⟨w, rr, rfl, rO_put hp h1 (fun z y => hd z 0 q w rfl y rfl), rOs_put hp h2 (fun z j q' w' a b c => hd z (j + 1) q' w' (by simpa using a) b (by simpa using c)), h3⟩
theorem RSt.puts {K : PySem.W.Frag} {W : Wd} {H : Hp} : ∀ {is : List Nat} {ps : List (PV × Bool)} {vs : List V} {s : DS} {σ : L2.St}, RSt K W H s σ → rOs K σ W H s ps vs → RSt K W H ⟨putL is ps s.e, s.t⟩ (putV is vs σ)
  | [], _, _, s, σ, R, _ => by simpa [putL, putV] using R
  | i :: is, [], vs, s, σ, R, r => by
    unfold rOs at r
    subst r
    simpa [putL, putV] using R
  | i :: is, p :: ps, vs, s, σ, R, r => by
    unfold rOs at r
    obtain ⟨v, rr, e, h1, h2, h3⟩ := r
    subst e
    have R1 := R.put (i := i) h1
    exact RSt.puts (s := ⟨s.e.set i (putSl p), s.t⟩) R1 (rOs_put h1 h2 h3)
theorem rOs_len {K : PySem.W.Frag} {W : Wd} {H : Hp} {s : DS} {σ : L2.St} : ∀ {ps : List (PV × Bool)} {vs : List V}, rOs K σ W H s ps vs → vs.length = ps.length
  | [], _, r => by unfold rOs at r; subst r; rfl
  | p :: ps, vs, r => by
    unfold rOs at r
    obtain ⟨v, rr, e, h1, h2, h3⟩ := r
    subst e
    simp [rOs_len h2]
/-- a, b = x, y; all are reckoned first -/
def parS (is : List Nat) (f : LM) : SM := fun s => (f s).bind fun ps s1 => if ps.length = is.length then .ok .nx ⟨putL is ps s1.e, s1.t⟩ else .bad
theorem ps_par2 {f : LM} {i j : Nat} {x y : Str} {a b : Expr} {px py pt : Pos} {kt k2 pt2} (hc : X.calm = true) (hN : X.N.Nodup) (ha : PLX X Z [a, b] f) (hi : X.N[i]? = some x := by rfl) (hj : X.N[j]? = some y := by rfl) (hij : i ≠ j := by decide)
    (hx : X.env.scope.names.lookup x = some .local := by rfl) (hy : X.env.scope.names.lookup y = some .local := by rfl)
    (hw : swappedStores [.Tuple [.Name x px, .Name y py] kt pt] (.Tuple [a, b] k2 pt2) X.env = pure (some [x, y]) := by rfl)
    (hs : swapsWithSole [.Tuple [.Name x px, .Name y py] kt pt] (.Tuple [a, b] k2 pt2) pos.line X.env = pure false := by rfl) :
    PSX X Z (.Assign [.Tuple [.Name x px, .Name y py] kt pt] (.Tuple [a, b] k2 pt2) pos) (parS [i, j] f) := by
  refine ⟨PS_imp (L2.ps_par hc hN hi hj hij hx hy ha.pa hw hs) fun D σ H ⟨W, s, R, h⟩ => ⟨W, s, R, PostS.bindE h fun ps s1 vs W1 H1 _ st R1 rv q => ?_⟩⟩
  have rv : rOs X.K σ W1 H1 s1 ps vs := rv
  split at q
  · rename_i hl
    have R2 := R1.puts (is := [i, j]) rv
    have hv : vs.length = 2 := by rw [rOs_len rv, hl]; rfl
    match vs, hv with
    | [v, w], _ => exact ⟨v, w, rfl, q _ W1 H1 (Step.refl _ _) R2⟩
  · exact q.elim
theorem ps_par3X {f : LM} {i j l : Nat} {x y z : Str} {a b c : Expr} {px py pz pt : Pos} {kt k2 pt2} (hc : X.calm = true) (hN : X.N.Nodup) (ha : PLX X Z [a, b, c] f) (hi : X.N[i]? = some x := by rfl) (hj : X.N[j]? = some y := by rfl) (hl : X.N[l]? = some z := by rfl) (hij : i ≠ j := by decide) (hil : i ≠ l := by decide) (hjl : j ≠ l := by decide)
    (hx : X.env.scope.names.lookup x = some .local := by rfl) (hy : X.env.scope.names.lookup y = some .local := by rfl) (hz : X.env.scope.names.lookup z = some .local := by rfl)
    (hw : swappedStores [.Tuple [.Name x px, .Name y py, .Name z pz] kt pt] (.Tuple [a, b, c] k2 pt2) X.env = pure (some [x, y, z]) := by rfl)
    (hs : swapsWithSole [.Tuple [.Name x px, .Name y py, .Name z pz] kt pt] (.Tuple [a, b, c] k2 pt2) pos.line X.env = pure false := by rfl) :
    PSX X Z (.Assign [.Tuple [.Name x px, .Name y py, .Name z pz] kt pt] (.Tuple [a, b, c] k2 pt2) pos) (parS [i, j, l] f) := by
  refine ⟨PS_imp (L2.ps_par3 hc hN hi hj hl hij hil hjl hx hy hz ha.pa hw hs) fun D σ H ⟨W, s, R, h⟩ => ⟨W, s, R, PostS.bindE h fun ps s1 vs W1 H1 _ st R1 rv q => ?_⟩⟩
  have rv : rOs X.K σ W1 H1 s1 ps vs := rv
  split at q
  · rename_i hl
    have R2 := R1.puts (is := [i, j, l]) rv
    have hv : vs.length = 3 := by rw [rOs_len rv, hl]; rfl
    match vs, hv with
    | [v, w, u], _ => exact ⟨v, w, u, rfl, q _ W1 H1 (Step.refl _ _) R2⟩
  · exact q.elim
/-! ### the store grows: a fresh list gets a cell -/
theorem RSt.cell {K : PySem.W.Frag} {W : Wd} {H : Hp} {s : DS} {σ : L2.St} {p : PV} {v : V} (R : RSt K W H s σ) (o : Own K σ W H s p v) : ∃ W1, Step W H W1 H ∧ RSt K W1 H ⟨s.e, s.t ++ [p]⟩ σ ∧ RV K W1 H (.cell s.t.length) v := by
  obtain ⟨a, e, ha, hc, hn⟩ := o
  have hS : a ∉ W.S := R.t.ap a ha
  have hm : Wd.m ⟨W.O.filter fun b => decide (b ≠ a), W.S ++ [a], W.P⟩ H = W.m H := m_of_iff fun b => by
    simp only [Wd.L, List.mem_append, List.mem_cons, List.mem_filter, decide_eq_true_eq, List.not_mem_nil, or_false]
    by_cases hb : b = a
    · subst hb; simp [ha]
    · constructor
      · rintro (⟨h, _⟩ | (h | h) | h)
        · exact .inl h
        · exact .inr (.inl h)
        · exact absurd h hb
        · exact .inr (.inr h)
      · rintro (h | h | h)
        · exact .inl ⟨h, hb⟩
        · exact .inr (.inl (.inl h))
        · exact .inr (.inr h)
  have st : Step W H ⟨W.O.filter fun b => decide (b ≠ a), W.S ++ [a], W.P⟩ H := by
    refine ⟨by rw [hm]; exact Same.refl _, fun _ h => h, fun b h => .inl (List.mem_filter.mp h).1, Pre.app _ _, fun b h => ?_, rfl, fun _ _ => rfl⟩
    rcases List.mem_append.mp h with z | z
    · exact .inl z
    · rw [List.mem_singleton.mp z]; exact .inr (.inl ha)
  refine ⟨_, st, ⟨⟨R.e.len, fun i q h => ?_, fun i q h => ?_, R.e.inj⟩, ⟨by simp [R.t.len], fun k q b e1 e2 => ?_, ?_, fun b h z => ?_, R.t.pt, fun b h => R.t.pa b (List.mem_filter.mp h).1, fun b h => ?_, fun b h => R.t.ot b (List.mem_filter.mp h).1⟩⟩, ?_⟩
  · obtain ⟨w, h1, h2⟩ := R.e.at_ i q h
    exact ⟨w, h1, st.rv h2⟩
  · obtain ⟨b, h1, h2, h3⟩ := R.e.ow i q h
    exact ⟨b, h1, List.mem_filter.mpr ⟨h2, decide_eq_true fun z => hn i q h (by rw [h1, z])⟩, h3.step st rfl⟩
  · by_cases hk : k < s.t.length
    · rw [List.getElem?_append_left hk] at e1
      rw [List.getElem?_append_left (by rw [← R.t.len]; exact hk)] at e2
      exact (R.t.at_ k q b e1 e2).step st rfl
    · have hk2 : k = s.t.length := by
        have := (List.getElem?_eq_some_iff.mp e1).1
        simp at this
        omega
      subst hk2
      rw [List.getElem?_append_right (Nat.le_refl _), Nat.sub_self] at e1
      have hz : s.t.length = W.S.length := R.t.len
      rw [hz, List.getElem?_append_right (Nat.le_refl _), Nat.sub_self] at e2
      cases e1
      cases e2
      exact hc.step st rfl
  · rw [List.nodup_append]
    refine ⟨R.t.nd, by simp, fun b hb c hc z => ?_⟩
    rw [List.mem_singleton.mp hc] at z
    exact hS (z ▸ hb)
  · obtain ⟨h1, h2⟩ := List.mem_filter.mp h
    rcases List.mem_append.mp z with y | y
    · exact R.t.ap b h1 y
    · exact of_decide_eq_true h2 (List.mem_singleton.mp y)
  · rcases List.mem_append.mp h with y | y
    · exact R.t.ps b y
    · rw [List.mem_singleton.mp y]; exact R.t.pa a ha
  · unfold RV Rep
    refine ⟨a, e, ?_⟩
    show (W.S ++ [a])[s.t.length]? = some a
    rw [R.t.len, List.getElem?_append_right (Nat.le_refl _), Nat.sub_self]
    rfl
/-- name = a fresh list that all around may change -/
def cellS (i : Nat) (g : OM) : SM := fun s => (g s).bind fun p s1 => if p.2 = true then .ok .nx ⟨s1.e.set i (.val (.cell s1.t.length)), s1.t ++ [p.1]⟩ else .bad
theorem ps_cell (i : Nat) {x : Str} {pos' : Pos} (hN : X.N.Nodup) (he : PO X Z e f) (hi : X.N[i]? = some x := by rfl) (hx : Loc X.env.scope x := by first | exact Or.inl rfl | exact Or.inr rfl) (hs : swapsWith e (some (.Name x pos')) pos.line X.env = pure false := by rfl)
    (hf : X.fn x = true ∨ X.env.scope.names.lookup x = some .local := by first | exact .inl rfl | exact .inr rfl) : PSX X Z (.Assign [.Name x pos'] e pos) (cellS i f) := by
  refine ⟨PS_imp (L2.ps_set hN hi hx he.pe hs hf) fun D σ H ⟨W, s, R, h⟩ => ⟨W, s, R, PostS.bindE h fun p s1 y W1 H1 _ st R1 ry q => ?_⟩⟩
  obtain ⟨p, b⟩ := p
  cases b with
  | false => exact q.elim
  | true =>
    obtain ⟨W2, st2, R2, rv⟩ := R1.cell (show Own X.K σ W1 H1 s1 p y from ry)
    exact q _ W2 H1 st2 (R2.setv rv)
/-! ### name op= e -/
def augS (i : Nat) (g : P2) (f : EM) : SM := fun s => match s.e[i]? with
  | some (.val p) => (f s).bind fun q s1 => match g p q with
    | some r => .ok .nx ⟨s1.e.set i (.val r), s1.t⟩
    | none => .bad
  | _ => .bad
theorem ps_augX (i : Nat) {x : Str} {op : Operator} {h : Int → Int → Int} {f : EM} {pos' : Pos} (hN : X.N.Nodup) (ho : PIp X op (ipI h)) (he : PX X Z e f) (hi : X.N[i]? = some x := by rfl) (hx : Loc X.env.scope x := by first | exact Or.inl rfl | exact Or.inr rfl)
    (hf : X.fn x = true ∨ X.env.scope.names.lookup x = some .local := by first | exact .inl rfl | exact .inr rfl) : PSX X Z (.AugAssign (.Name x pos') op e pos) (augS i (ii (fun _ _ => true) fun a b => .int (h a b)) f) := by
  refine ⟨PS_imp (L2.ps_aug hN hi hx he.pe ho hf) fun D σ H ⟨W, s, R, hh⟩ => ?_⟩
  unfold augS at hh
  split at hh
  · rename_i p ep
    obtain ⟨v, h1, h2⟩ := R.e.at_ i p ep
    refine ⟨v, h1, W, s, R, PostS.bindE hh fun q s1 y W1 H1 _ st R1 ry k => ?_⟩
    cases eg : ii (fun _ _ => true) (fun a b => .int (h a b)) p q with
    | none => simp only [eg] at k; exact k.elim
    | some r =>
      simp only [eg] at k
      obtain ⟨a, b, rfl, rfl, _, rfl⟩ := ii_some eg
      exact ⟨a, b, rv_int_inv h2, rE_int_inv ry, k _ W1 H1 (Step.refl _ _) (R1.setv rv_int)⟩
  · exact hh.elim
theorem ps_augIx (hu : X.A.units + 1 < cLine) (i : Nat) {x : Str} {op : Operator} {h : Int → Int → Int} {g' f' : EM} {p1 tpos : Pos} {b v : Expr} (ho : PIp X op (ipI h)) (hN : X.N[i]? = some x := by rfl) (hb : PX X Z b g') (hf : PX X Z v f')
    (hv : Vis X.env.scope x := by first | exact Or.inl rfl | exact Or.inr (Or.inl rfl) | exact Or.inr (Or.inr rfl)) (hd : (x == ("__debug__" : Str)) = false := by decide) (hcd : (x == ("__classdict__" : Str)) = false := by decide)
    (ha : ∀ ov iv new, augStore b ov iv new = (do holding [new, ov, iv] (setItem ov iv new); release [new, ov, iv] []; pure .next) := by intros; rfl) :
    PSX X Z (.AugAssign (.Subscript (.Name x p1) b tpos) op v pos) (augIxS i (ii (fun _ _ => true) fun a b => .int (h a b)) g' f') := by
  refine ⟨PS_imp (L2.ps_augS (pe_var hN hv hd hcd) hb.pe (get_all hu) hf.pe ho (set_all hu) ha) fun D σ H ⟨W, s, R, hh⟩ => ?_⟩
  unfold augIxS at hh
  cases e0 : nameB i s with
  | bad => rw [e0] at hh; exact hh.elim
  | exc y s1 => exact (nameB_no e0).elim
  | ok p0 s0 =>
    rw [e0] at hh
    simp only [Re.bind] at hh
    obtain ⟨rfl, vv, h1, hb0⟩ := nameB_bv R e0
    refine ⟨vv, h1, W, s0, R, PostS.bindE hh fun j s2 jv W2 H2 _ st2 R2 rj k => ?_⟩
    cases e1 : nameB i s2 with
    | bad => simp only [e1] at k; exact k.elim
    | exc y s1 => exact (nameB_no e1).elim
    | ok p s1 =>
      simp only [e1] at k
      obtain ⟨rfl, v2, h2, hb2⟩ := nameB_bv R2 e1
      rw [h1] at h2
      cases h2
      have rj : RV X.K W2 H2 j jv := rj
      cases p with
      | lst ps =>
        cases j with
        | int j =>
          simp only [lixG] at k
          cases e2 : atI ps j with
          | none => simp only [e2] at k; exact k.elim
          | some old =>
            simp only [e2] at k
            obtain ⟨a, vs, rfl, k1, k2⟩ := bv_lst hb2
            obtain ⟨w, h3, h4⟩ := atI_rep k2 e2
            refine ⟨a, vs, j, w, rfl, rv_int_inv rj, SqL.of k1, h3, W2, s1, R2, PostS.bindE k fun q s4 y W4 H4 _ st4 R4 ry k => ?_⟩
            cases e3 : ii (fun _ _ => true) (fun a b => .int (h a b)) old q with
            | none => simp only [e3] at k; exact k.elim
            | some r =>
              simp only [e3] at k
              obtain ⟨m, n, rfl, rfl, _, rfl⟩ := ii_some e3
              refine ⟨m, n, rv_int_inv h4, rE_int_inv ry, ?_⟩
              cases em : modB i (setU (.int j) (.int (h m n))) s4 with
              | bad => rw [em] at k; exact k.elim
              | exc y s5 => exact (modB_no em).elim
              | ok r s5 =>
                rw [em] at k
                exact setU_ok R4 h1 em (st4.rv rj) rv_int fun H5 st5 R5 => k σ W4 H5 st5 R5
        | _ => simp only [lixG] at k; exact k.elim
      | _ => simp only [lixG] at k; exact k.elim
end
end DR
/-! DR: comprehensions of two clauses; enumerate over tuples, zip of mixed kinds. -/
namespace DR
open PySem PySem.Spec PyProof.Rows L2
section
variable {X : Cx} {Z : WX} {it it1 : IM} {t t1 : Tg} {tt tt1 : TM} {vs vs1 : List Nat} {f : EM} {pos : Pos}
def lc2L (t : Tg) (tt : TM) (it1 : IM) (t1 : Tg) (tt1 : TM) (f : EM) (vs vs1 : List Nat) : List PV → List PV → DS → Re (List PV)
  | [], acc, s => .ok acc s
  | p :: ps, acc, s => match asgT t p (wipeE vs s.e) with
    | none => .bad
    | some e' => (tt ⟨e', s.t⟩).bind fun b s1 => if b = true then (it1 s1).bind fun qs s2 => (lcL t1 tt1 f vs1 qs acc s2).bind fun acc' s3 => lc2L t tt it1 t1 tt1 f vs vs1 ps acc' s3
      else lc2L t tt it1 t1 tt1 f vs vs1 ps acc s1
theorem lc2L_cons (p : PV) (ps acc : List PV) (s : DS) : lc2L t tt it1 t1 tt1 f vs vs1 (p :: ps) acc s = match asgT t p (wipeE vs s.e) with
    | none => .bad
    | some e' => (tt ⟨e', s.t⟩).bind fun b s1 => if b = true then (it1 s1).bind fun qs s2 => (lcL t1 tt1 f vs1 qs acc s2).bind fun acc' s3 => lc2L t tt it1 t1 tt1 f vs vs1 ps acc' s3
      else lc2L t tt it1 t1 tt1 f vs vs1 ps acc s1 := rfl
def lc2O (it : IM) (t : Tg) (tt : TM) (it1 : IM) (t1 : Tg) (tt1 : TM) (f : EM) (vs vs1 : List Nat) : OM := fun s => (it s).bind fun ps s1 => (noX (lc2L t tt it1 t1 tt1 f vs vs1 ps [] s1)).bind fun acc s2 => .ok (.lst acc, true) ⟨restE vs s1.e s2.e, s2.t⟩
theorem wipe_in (σ : L2.St) (h : ∀ i ∈ vs1, i ∈ vs) : L2.wipe (L2.wipe σ vs1) vs = L2.wipe σ vs := by
  refine List.ext_getElem? fun j => ?_
  rw [wipe_get, wipe_get, wipe_get]
  by_cases hj : j ∈ vs
  · rw [if_pos hj, if_pos hj]
    split
    · cases σ[j]? <;> rfl
    · rfl
  · rw [if_neg hj, if_neg hj, if_neg fun z => hj (h j z)]
theorem wipeE_in (e : DE) (h : ∀ i ∈ vs1, i ∈ vs) : wipeE vs (wipeE vs1 e) = wipeE vs e := by
  refine List.ext_getElem? fun j => ?_
  rw [wipeE_get, wipeE_get, wipeE_get]
  by_cases hj : j ∈ vs
  · rw [if_pos hj, if_pos hj]
    split
    · cases e[j]? <;> rfl
    · rfl
  · rw [if_neg hj, if_neg hj, if_neg fun z => hj (h j z)]
/-- how far a comprehension is: its list at D -/
structure Far (K : PySem.W.Frag) (W0 : Wd) (H0 : Hp) (D : Addr) (e : DE) (σ : L2.St) (H2 : Hp) (t : DT) (acc : List PV) (W2 : Wd) (av : List V) : Prop where
  l : LSt W0 H0 D W2 H2
  R : RSt K W2 H2 ⟨e, t⟩ σ
  A : H2 D = some (.lst av)
  r : RVs K W2 H2 acc av
theorem LSt.inP {W0 W2 : Wd} {H0 H2 : Hp} {D : Addr} (l : LSt W0 H0 D W2 H2) : D ∈ W2.P := by rw [l.P]; exact List.mem_cons_self
theorem Far.step {K : PySem.W.Frag} {W0 W2 W3 : Wd} {H0 H2 H3 : Hp} {D : Addr} {e e' : DE} {σ σ' : L2.St} {t t' : DT} {acc : List PV} {av : List V} (F : Far K W0 H0 D e σ H2 t acc W2 av) (st : Step W2 H2 W3 H3) (R : RSt K W3 H3 ⟨e', t'⟩ σ') : Far K W0 H0 D e' σ' H3 t' acc W3 av :=
  ⟨F.l.step st, R, by rw [st.pk D F.l.inP]; exact F.A, st.rvs F.r⟩
theorem Far.wipe {K : PySem.W.Frag} {W0 W2 : Wd} {H0 H2 : Hp} {D : Addr} {e : DE} {σ : L2.St} {t : DT} {acc : List PV} {av : List V} (F : Far K W0 H0 D e σ H2 t acc W2 av) (vs : List Nat) : Far K W0 H0 D (wipeE vs e) (L2.wipe σ vs) H2 t acc W2 av := ⟨F.l, F.R.wipe vs, F.A, F.r⟩
/-- one turn of the last clause -/
theorem turn_last {K : PySem.W.Frag} {W0 W2 : Wd} {H0 H2 : Hp} {D : Addr} {s2 : DS} {σ σ4 : L2.St} {acc qs : List PV} {av : List V} {e2 : DE} {W3 : Wd} {Good : Re (List PV) → Prop} (gb : ¬ Good .bad) (ge : ∀ x s, ¬ Good (.exc x s)) {Nx : Hp → Prop}
    (F : Far K W0 H0 D e2 σ4 H2 s2.t acc W2 av) (hw : L2.wipe σ4 vs1 = L2.wipe σ vs1)
    (g : Good ((tt1 ⟨e2, s2.t⟩).bind fun b s1 => if b = true then (f s1).bind fun y s2 => if acc.length < sizeLine then lcL t1 tt1 f vs1 qs (acc ++ [y]) s2 else .bad else lcL t1 tt1 f vs1 qs acc s1))
    (nx : ∀ W' s' acc' av' H', Far K W0 H0 D (wipeE vs1 s'.e) (L2.wipe σ vs1) H' s'.t acc' W' av' → Good (lcL t1 tt1 f vs1 qs acc' s') → Nx H') :
    tT K Z0 tt1 σ4 H2 fun b H6 => if b = true then tE K Z0 f σ4 H6 fun y H7 => ∃ acc, H7 D = some (.lst acc) ∧ acc.length < sizeLine ∧ Nx (upd H7 D (.lst (acc ++ [y]))) else Nx H6 := by
  refine ⟨W2, ⟨e2, s2.t⟩, F.R, ?_⟩
  cases e3 : tt1 ⟨e2, s2.t⟩ with
  | bad => rw [e3] at g; exact (gb g).elim
  | exc x s3 => rw [e3] at g; exact (ge _ _ g).elim
  | ok b s3 =>
    rw [e3] at g
    simp only [Re.bind] at g
    intro c W4 H4 st4 R5 rc
    obtain rfl : c = b := rc
    have F4 := F.step st4 R5
    cases c with
    | false =>
      rw [if_neg (by decide)] at g ⊢
      exact nx W4 s3 acc av H4 (by rw [← hw]; exact F4.wipe vs1) g
    | true =>
      rw [if_pos rfl] at g ⊢
      refine ⟨W4, s3, R5, ?_⟩
      cases e4 : f s3 with
      | bad => rw [e4] at g; exact (gb g).elim
      | exc x s4 => rw [e4] at g; exact (ge _ _ g).elim
      | ok y s4 =>
        rw [e4] at g
        simp only at g
        intro v W5 H5 st5 R6 rv5
        have F5 := F4.step st5 R6
        by_cases hz : acc.length < sizeLine
        · rw [if_pos hz] at g
          refine ⟨av, F5.A, by rw [F5.r.len]; exact hz, nx W5 s4 (acc ++ [y]) (av ++ [v]) _ ?_ g⟩
          have F6 := F5.wipe vs1
          rw [hw] at F6
          exact ⟨F6.l.poke, F6.R.poke F6.l.inP, upd_same, rvs_poke F6.l.inP (F6.r.app (reps_cons rv5 reps_nil))⟩
        · rw [if_neg hz] at g
          exact (gb g).elim
theorem tLc2_of {Q : VK} {σ : L2.St} {H : Hp} {K : PySem.W.Frag} (ht : tgIn t vs = true) (ht1 : tgIn t1 vs1 = true) (hin : ∀ i ∈ vs1, i ∈ vs) (h : tO K Z (lc2O it t tt it1 t1 tt1 f vs vs1) σ H Q) :
    tLc2 (tI K Z it) (gX K t) (tT K Z0 tt) (tI K Z0 it1) (gX K t1) (tT K Z0 tt1) (tE K Z0 f) vs vs1 σ H Q := by
  obtain ⟨W, s, R, h⟩ := h
  refine ⟨W, s, R, Post.bind h fun ps s1 J W1 H1 _ st0 R1 G q D hD => ?_⟩
  have G : Goes K J ps W1 H1 := G
  obtain ⟨W1', stN, R1', hL⟩ := R1.newL hD
  obtain ⟨nO, nS, nP⟩ := Wd.notL.mp hL
  have q := Post.step q stN
  obtain ⟨Rk, vk⟩ := R1'.keep (o := .lst []) hD nO
  have good : ∀ {P : Prop}, (lc2L t tt it1 t1 tt1 f vs vs1 ps [] s1 = .bad ∨ ∃ x s', lc2L t tt it1 t1 tt1 f vs vs1 ps [] s1 = .exc x s') → P := fun {P} z => by
    rcases z with z | ⟨x, s', z⟩ <;> (rw [z] at q; exact q.elim)
  refine ⟨fun i m H2 => m = ps.length - i ∧ i ≤ ps.length ∧ ∃ W2 s2 acc av, Far K W1' H1 D (wipeE vs s2.e) (L2.wipe σ vs) H2 s2.t acc W2 av ∧ lc2L t tt it1 t1 tt1 f vs vs1 ps [] s1 = lc2L t tt it1 t1 tt1 f vs vs1 (ps.drop i) acc s2,
    ⟨ps.length, by simp, Nat.zero_le _, W1'.keep D, s1, [], [], ⟨LSt.start hD nP, Rk.wipe vs, upd_same, reps_nil⟩, rfl⟩, ?_⟩
  rintro i m H2 ⟨rfl, hi, W2, s2, acc, av, F, eq⟩
  have vw : Vw W1 H1 W2 H2 := stN.vw.trans F.l.vw
  by_cases hlt : i < ps.length
  · refine .inr ⟨G.go W2 H2 i vw hlt, fun H2 => i + 1 ≤ ps.length ∧ ∃ W2 s2 acc av, Far K W1' H1 D (wipeE vs s2.e) (L2.wipe σ vs) H2 s2.t acc W2 av ∧ lc2L t tt it1 t1 tt1 f vs vs1 ps [] s1 = lc2L t tt it1 t1 tt1 f vs vs1 (ps.drop (i + 1)) acc s2, fun H' z => ⟨ps.length - (i + 1), by omega, rfl, z⟩, fun x H3 y => ?_⟩
    obtain ⟨W3, st3, R3, rv⟩ := G.yld W2 H2 i x H3 ps[i] ⟨wipeE vs s2.e, s2.t⟩ (L2.wipe σ vs) vw (List.getElem?_eq_getElem hlt) F.R y
    have F3 := F.step st3 R3
    have eq2 := eq
    rw [List.drop_eq_getElem_cons hlt, lc2L_cons] at eq2
    cases e1 : asgT t ps[i] (wipeE vs s2.e) with
    | none => simp only [e1] at eq2; exact good (.inl eq2)
    | some e2 =>
      simp only [e1] at eq2
      refine ⟨W3, ⟨wipeE vs s2.e, s2.t⟩, ps[i], R3, rv, e2, e1, fun σ4 hw R4 => ⟨(hw vs ht).trans (wipe_wipe σ), W3, ⟨e2, s2.t⟩, R4, ?_⟩⟩
      have hw4 : L2.wipe σ4 vs = L2.wipe σ vs := (hw vs ht).trans (wipe_wipe σ)
      have F4 : Far K W1' H1 D e2 σ4 H3 s2.t acc W3 av := F3.step (Step.refl _ _) R4
      cases e3 : tt ⟨e2, s2.t⟩ with
      | bad => rw [e3] at eq2; exact good (.inl eq2)
      | exc x s3 => rw [e3] at eq2; exact good (.inr ⟨x, s3, eq2⟩)
      | ok b s3 =>
        rw [e3] at eq2
        simp only [Re.bind] at eq2
        intro c W4 H4 st4 R5 rc
        obtain rfl : c = b := rc
        have F5 := F4.step st4 R5
        cases c with
        | false =>
          rw [if_neg (by decide)] at eq2 ⊢
          exact ⟨hlt, W4, s3, acc, av, by rw [← hw4]; exact F5.wipe vs, eq2⟩
        | true =>
          rw [if_pos rfl] at eq2 ⊢
          refine ⟨W4, s3, R5, ?_⟩
          cases e4 : it1 s3 with
          | bad => rw [e4] at eq2; exact good (.inl eq2)
          | exc x s4 => rw [e4] at eq2; exact good (.inr ⟨x, s4, eq2⟩)
          | ok qs s4 =>
            rw [e4] at eq2
            simp only at eq2
            intro J1 W5 H5 st5 R6 G1
            have G1 : Goes K J1 qs W5 H5 := G1
            have F6 := F5.step st5 R6
            refine ⟨fun j k H => k = qs.length - j ∧ j ≤ qs.length ∧ ∃ W' s' acc' av', Far K W1' H1 D (wipeE vs1 s'.e) (L2.wipe σ4 vs1) H s'.t acc' W' av' ∧ Vw W5 H5 W' H ∧ lcL t1 tt1 f vs1 qs acc s4 = lcL t1 tt1 f vs1 (qs.drop j) acc' s',
              ⟨qs.length, by simp, Nat.zero_le _, W5, s4, acc, av, F6.wipe vs1, (Step.refl _ _).vw, rfl⟩, ?_⟩
            rintro j k H6 ⟨rfl, hj, W6, s6, acc6, av6, F7, vw7, eq7⟩
            by_cases hl2 : j < qs.length
            · refine .inr ⟨G1.go W6 H6 j vw7 hl2, fun H => j + 1 ≤ qs.length ∧ ∃ W' s' acc' av', Far K W1' H1 D (wipeE vs1 s'.e) (L2.wipe σ4 vs1) H s'.t acc' W' av' ∧ Vw W5 H5 W' H ∧ lcL t1 tt1 f vs1 qs acc s4 = lcL t1 tt1 f vs1 (qs.drop (j + 1)) acc' s', fun H' z => ⟨qs.length - (j + 1), by omega, rfl, z⟩, fun x2 H7 y2 => ?_⟩
              obtain ⟨W7, st7, R7, rv7⟩ := G1.yld W6 H6 j x2 H7 qs[j] ⟨wipeE vs1 s6.e, s6.t⟩ (L2.wipe σ4 vs1) vw7 (List.getElem?_eq_getElem hl2) F7.R y2
              have F8 := F7.step st7 R7
              have eq8 := eq7
              rw [List.drop_eq_getElem_cons hl2, lcL_cons] at eq8
              cases e5 : asgT t1 qs[j] (wipeE vs1 s6.e) with
              | none => simp only [e5] at eq8; rw [eq8] at eq2; exact good (.inl eq2)
              | some e6 =>
                simp only [e5] at eq8
                refine ⟨W7, ⟨wipeE vs1 s6.e, s6.t⟩, qs[j], R7, rv7, e6, e5, fun σ9 hw9 R9 => ⟨(hw9 vs1 ht1).trans (wipe_wipe σ4), ?_⟩⟩
                have F9 : Far K W1' H1 D e6 σ9 H7 s6.t acc6 W7 av6 := F8.step (Step.refl _ _) R9
                -- the world grows on
                let Good : Re (List PV) → Prop := fun r => lcL t1 tt1 f vs1 qs acc s4 = r
                have gb : ¬ Good .bad := fun z => by
                  have z : lcL t1 tt1 f vs1 qs acc s4 = .bad := z
                  rw [z] at eq2
                  exact good (.inl eq2)
                have ge : ∀ x s, ¬ Good (.exc x s) := fun x s z => by
                  have z : lcL t1 tt1 f vs1 qs acc s4 = .exc x s := z
                  rw [z] at eq2
                  exact good (.inr ⟨x, s, eq2⟩)
                have vw9 : Vw W5 H5 W7 H7 := vw7.trans st7.vw
                refine ⟨W7, ⟨e6, s6.t⟩, F9.R, ?_⟩
                cases e8 : tt1 ⟨e6, s6.t⟩ with
                | bad => rw [e8] at eq8; exact (gb eq8).elim
                | exc x s3 => rw [e8] at eq8; exact (ge _ _ eq8).elim
                | ok b s8 =>
                  rw [e8] at eq8
                  simp only [Re.bind] at eq8
                  intro c W10 H10 st10 R10 rc
                  obtain rfl : c = b := rc
                  have F10 := F9.step st10 R10
                  have hw : L2.wipe σ9 vs1 = L2.wipe σ4 vs1 := (hw9 vs1 ht1).trans (wipe_wipe σ4)
                  cases c with
                  | false =>
                    rw [if_neg (by decide)] at eq8 ⊢
                    exact ⟨hl2, W10, s8, acc6, av6, by rw [← hw]; exact F10.wipe vs1, vw9.trans st10.vw, eq8⟩
                  | true =>
                    rw [if_pos rfl] at eq8 ⊢
                    refine ⟨W10, s8, R10, ?_⟩
                    cases e9 : f s8 with
                    | bad => rw [e9] at eq8; exact (gb eq8).elim
                    | exc x s4 => rw [e9] at eq8; exact (ge _ _ eq8).elim
                    | ok y s9 =>
                      rw [e9] at eq8
                      simp only at eq8
                      intro v W11 H11 st11 R11 rv11
                      have F11 := F10.step st11 R11
                      by_cases hz : acc6.length < sizeLine
                      · rw [if_pos hz] at eq8
                        have F12 := F11.wipe vs1
                        rw [hw] at F12
                        refine ⟨av6, F11.A, by rw [F11.r.len]; exact hz, hl2, W11, s9, acc6 ++ [y], av6 ++ [v], ⟨F12.l.poke, F12.R.poke F12.l.inP, upd_same, rvs_poke F12.l.inP (F12.r.app (reps_cons rv11 reps_nil))⟩, ?_, eq8⟩
                        have vw12 := (vw9.trans st10.vw).trans st11.vw
                        exact ⟨by rw [Wd.m_upd (by simp [Wd.L, F12.l.inP])]; exact vw12.same, vw12.pre⟩
                      · rw [if_neg hz] at eq8
                        exact (gb eq8).elim
            · have e : j = qs.length := by omega
              subst e
              rw [List.drop_length] at eq7
              refine .inl ⟨G1.stop W6 H6 vw7, hlt, W6, s6, acc6, av6, ?_, ?_⟩
              · have F8 := F7.wipe vs
                rw [wipeE_in _ hin, wipe_in _ hin, hw4] at F8
                exact F8
              · rw [eq7] at eq2
                exact eq2
  · have e : i = ps.length := by omega
    subst e
    rw [List.drop_length] at eq
    refine .inl ⟨G.stop W2 H2 vw, ?_⟩
    rw [eq] at q
    have l := F.l
    have R2 := F.R
    refine q (.ref D) ⟨D :: W2.O, W2.S, W1'.P⟩ H2 l.fin (l.fin_R ⟨_, F.A⟩ R1'.e R2) ⟨D, rfl, List.mem_cons_self, ?_, fun j p hj z => ?_⟩
    · refine ⟨av, F.A, ?_⟩
      show Reps K W2.S (Wd.m ⟨D :: W2.O, W2.S, W1'.P⟩ H2) acc av
      rw [l.fin_m]
      exact F.r
    · obtain ⟨hj, hj2⟩ := restE_own hj
      obtain ⟨a, g1, g2, _⟩ := R2.e.ow j p (by rw [wipeE_get, if_neg hj]; exact hj2)
      rw [wipe_get, if_neg hj] at g1
      rw [g1] at z
      have za : a = D := by injection z with z; injection z with z; injection z
      exact R2.t.pa a g2 (by rw [l.P, za]; exact List.mem_cons_self)
theorem po_lc2 {elt tgt iter tgt1 iter1 : Expr} {ifs ifs1 : List Expr} {scope : Scope} {own : List (Str × Nat)} (hc : X.calm = true) (hN : X.N.Nodup) (hi : PIX X Z tgt iter it) (ok : BlkOk X.N X.env.scope scope own) (hg : Blk X scope fun Y => PGX Y tgt t) (ht : Blk X scope fun Y => PTsX Y ifs tt)
    (hi1 : Blk X scope fun Y => PIX Y Z0 tgt1 iter1 it1) (hg1 : Blk X scope fun Y => PGX Y tgt1 t1) (ht1 : Blk X scope fun Y => PTsX Y ifs1 tt1) (he : Blk X scope fun Y => PX Y Z0 elt f)
    (hv : own.map (·.2) = vs := by rfl) (hin : tgIn t vs = true := by rfl) (hin1 : tgIn t1 vs1 = true := by rfl) (hsub : ∀ i ∈ vs1, i ∈ vs := by decide) (hs : ∀ x, foldedSetIterable iter X.env x = pure x := by intro _; rfl) (hs1 : ∀ env x, foldedSetIterable iter1 env x = pure x := by intro _ _; rfl) :
    PO X Z (.ListComp elt [⟨tgt, iter, ifs, 0⟩, ⟨tgt1, iter1, ifs1, 0⟩] scope pos) (lc2O it t tt it1 t1 tt1 f vs vs1) := by
  subst hv
  exact ⟨PE_imp (L2.pe_lc2 (wi := tI X.K Z it) (g := gX X.K t) (tt := tT X.K Z0 tt) (wi1 := tI X.K Z0 it1) (g1 := gX X.K t1) (tt1 := tT X.K Z0 tt1) (te := tE X.K Z0 f) hc hN hi.pi ok hsub (fun s H L cl fp => (hg s H L cl fp).pg) (fun s H L cl fp => (ht s H L cl fp).pts) (fun s H L cl fp => (hi1 s H L cl fp).pi) (fun s H L cl fp => (hg1 s H L cl fp).pg) (fun s H L cl fp => (ht1 s H L cl fp).pts) (fun s H L cl fp => (he s H L cl fp).pe) hs hs1) fun σ H Q h => tLc2_of hin hin1 hsub h⟩
theorem ps_setLc2X {i : Nat} {y : Str} {py spos : Pos} {elt tgt iter tgt1 iter1 : Expr} {ifs ifs1 : List Expr} {scope : Scope} {own : List (Str × Nat)} (hc : X.calm = true) (hN : X.N.Nodup) (hy : X.N[i]? = some y) (hyl : X.env.scope.names.lookup y = some .local)
    (hsw : swapsWith (.ListComp elt [⟨tgt, iter, ifs, 0⟩, ⟨tgt1, iter1, ifs1, 0⟩] scope pos) (some (.Name y py)) spos.line X.env = pure true) (hi : PIX X Z tgt iter it) (ok : BlkOk X.N X.env.scope scope own) (hg : Blk X scope fun Y => PGX Y tgt t) (ht : Blk X scope fun Y => PTsX Y ifs tt)
    (hi1 : Blk X scope fun Y => PIX Y Z0 tgt1 iter1 it1) (hg1 : Blk X scope fun Y => PGX Y tgt1 t1) (ht1 : Blk X scope fun Y => PTsX Y ifs1 tt1) (he : Blk X scope fun Y => PX Y Z0 elt f)
    (hv : own.map (·.2) = vs := by rfl) (hin : tgIn t vs = true := by rfl) (hin1 : tgIn t1 vs1 = true := by rfl) (hsub : ∀ i ∈ vs1, i ∈ vs := by decide) (hs : ∀ x, foldedSetIterable iter X.env x = pure x := by intro _; rfl) (hs1 : ∀ env x, foldedSetIterable iter1 env x = pure x := by intro _ _; rfl) :
    PSX X Z (.Assign [.Name y py] (.ListComp elt [⟨tgt, iter, ifs, 0⟩, ⟨tgt1, iter1, ifs1, 0⟩] scope pos) spos) (setS i (lc2O it t tt it1 t1 tt1 f vs vs1)) := by
  subst hv
  refine ⟨PS_imp (L2.ps_setLc2 (wi := tI X.K Z it) (g := gX X.K t) (tt := tT X.K Z0 tt) (wi1 := tI X.K Z0 it1) (g1 := gX X.K t1) (tt1 := tT X.K Z0 tt1) (te := tE X.K Z0 f) hc hN hy hyl hsw hi.pi ok hsub (fun s H L cl fp => (hg s H L cl fp).pg) (fun s H L cl fp => (ht s H L cl fp).pts) (fun s H L cl fp => (hi1 s H L cl fp).pi) (fun s H L cl fp => (hg1 s H L cl fp).pg) (fun s H L cl fp => (ht1 s H L cl fp).pts) (fun s H L cl fp => (he s H L cl fp).pe) hs hs1) fun D σ H ⟨W, s, R, h⟩ => ?_⟩
  exact tLc2_of hin hin1 hsub ⟨W, s, R, PostS.bindE h fun p s1 y W1 H1 _ st R1 ry q => q _ W1 H1 (Step.refl _ _) (R1.put ry)⟩
end
end DR
/-! DR: several values at once by way of a pair; built-ins of two arguments; facts of the built-in names. -/
namespace DR
open PySem PySem.Spec PyProof.Rows L2
section
variable {X : Cx} {Z : WX} {e : Expr} {es : List Expr} {f g : EM} {pos : Pos}
theorem rOs_alloc {K : PySem.W.Frag} {W : Wd} {H : Hp} {s : DS} {σ : L2.St} {p : Addr} {o : HO} (R : RSt K W H s σ) (hp : H p = none) : ∀ {ps : List (PV × Bool)} {vs : List V}, rOs K σ W H s ps vs → rOs K σ W (upd H p o) s ps vs
  | [], _, r => r
  | (q, b) :: ps, vs, r => by
    unfold rOs at r ⊢
    obtain ⟨v, rr, e, h1, h2, h3⟩ := r
    have st : Step W H W (upd H p o) := Step.alloc hp (R.nP hp)
    refine ⟨v, rr, e, ?_, rOs_alloc R hp h2, h3⟩
    cases b with
    | false => exact st.rv (show RV K W H q v from h1)
    | true =>
      obtain ⟨a, e1, e2, e3, e4⟩ := (show Own K σ W H s q v from h1)
      obtain ⟨u, hu⟩ := e3.there
      exact ⟨a, e1, e2, e3.step st (upd_ne (ne_of_none hu hp)), e4⟩
def gsO (K : PySem.W.Frag) (is : List Nat) : TGs := fun vs σ H Q => ∃ W s ps, RSt K W H s σ ∧ rOs K σ W H s ps vs ∧ ps.length = is.length ∧ ∀ σ', RSt K W H ⟨putL is ps s.e, s.t⟩ σ' → Q σ' H
structure PGsO (X : Cx) (es : List Expr) (is : List Nat) : Prop where
  pgs : PGs X es (gsO X.K is)
theorem go_nil : PGsO X [] [] := by
  refine ⟨PGs_imp L2.pgs_nil fun v σ H Q ⟨W, s, ps, R, r, hl, k⟩ => ?_⟩
  cases ps with
  | nil => exact ⟨r, k σ R⟩
  | cons a b => simp at hl
theorem go_cons (i : Nat) {x : Str} {p1 : Pos} {is : List Nat} (hN : X.N.Nodup) (h2 : PGsO X es is) (hi : X.N[i]? = some x := by rfl) (hx : Loc X.env.scope x := by first | exact Or.inl rfl | exact Or.inr rfl) (hf : X.fn x = true ∨ X.env.scope.names.lookup x = some .local := by first | exact .inl rfl | exact .inr rfl)
    (hs : (assignEach (.Name x p1 :: es) X.env).map (·.2) = assign (.Name x p1) X.env :: (assignEach es X.env).map (·.2) := by rfl) : PGsO X (.Name x p1 :: es) (i :: is) := by
  refine ⟨PGs_imp (L2.pgs_cons (L2.pg_name hN hi hx hf) h2.pgs hs) fun vs σ H Q ⟨W, s, ps, R, r, hl, k⟩ => ?_⟩
  cases ps with
  | nil => simp at hl
  | cons p ps =>
    unfold rOs at r
    obtain ⟨v, rr, e, h1, h2, h3⟩ := r
    exact ⟨v, rr, e, W, ⟨s.e.set i (putSl p), s.t⟩, ps, R.put h1, rOs_put h1 h2 h3, by simpa using hl, fun σ' R' => k σ' R'⟩
theorem ps_parT {es tgs : List Expr} {f : LM} {is : List Nat} {k2 kt : Nat} {pt2 pt : Pos} (hc : X.calm = true) (ha : PLX X Z es f) (hg : PGsO X tgs is) (hl : lineOk is.length = true := by rfl)
    (hs : swapsWithSole [.Tuple tgs kt pt] (.Tuple es k2 pt2) pos.line X.env = pure false := by rfl) (hw : swappedStores [.Tuple tgs kt pt] (.Tuple es k2 pt2) X.env = pure none := by rfl)
    (h1 : (assignEach [.Tuple tgs kt pt] X.env).map (·.2) = [assign (.Tuple tgs kt pt) X.env] := by rfl) (hn : (assignEach tgs X.env).length = is.length := by rfl) (hst : (assignEach tgs X.env).findIdx? (·.1) = none := by rfl) :
    PSX X Z (.Assign [.Tuple tgs kt pt] (.Tuple es k2 pt2) pos) (parS is f) := by
  refine ⟨PS_imp (L2.ps_asg (pe_tup ha.pa) (L2.pg_tup hc hg.pgs hn hst) hs hw h1) fun D σ H ⟨W, s, R, h⟩ => ⟨W, s, R, PostS.bindE h fun ps s1 vs W1 H1 _ st R1 rv q => ?_⟩⟩
  have rv : rOs X.K σ W1 H1 s1 ps vs := rv
  split at q
  · rename_i hps
    have hv : vs.length = is.length := by rw [rOs_len rv, hps]
    refine ⟨by rw [hv]; exact of_decide_eq_true hl, fun p hp => ?_⟩
    exact ⟨p, vs, rfl, SqT.of upd_same, hv, W1, s1, ps, R1.alloc hp, rOs_alloc R1 hp rv, hps, fun σ' R' => q σ' W1 _ (Step.alloc hp (R1.nP hp)) R'⟩
  · exact q.elim
theorem pt_cmpB {a b : Expr} {op : CmpOp} {g : P2} {fa fb : EM} (hg : BinB X (compareOp op) g) (ha : PX X Z a fa) (hb : PB X Z b fb) (hm : behindInMarks op b = false := by first | exact nomark _ | rfl | with_unfolding_all rfl) : PTX X Z (.Compare a [op] [b] pos) (testE (binE g fa fb)) := by
  obtain ⟨r, o, k⟩ := hg
  refine ⟨PT_imp (L2.pt_cmpR o ha.pe hb.pe hm) fun σ H Q h => ?_⟩
  obtain ⟨W, s, R, h⟩ := h
  unfold testE binE plainE binO at h
  refine ⟨W, s, R, ?_⟩
  cases e1 : fa s with
  | bad => rw [e1] at h; exact h.elim
  | exc x s1 => rw [e1] at h; exact h
  | ok p s1 =>
    rw [e1] at h
    intro x W1 H1 st R1 rx
    refine ⟨W1, s1, R1, ?_⟩
    cases e2 : fb s1 with
    | bad => simp only [Re.bind, e2] at h; exact h.elim
    | exc x s2 => simp only [Re.bind, e2] at h; exact fun d W' H' st' R' xr => h d W' H' (st.trans st') R' xr
    | ok q s2 =>
      intro y W2 H2 st2 R2 ry
      simp only [Re.bind, e2, DR.p2] at h
      cases e : g p q with
      | none => simp only [e, Option.map_none] at h; exact h.elim
      | some res =>
        simp only [e, Option.map_some] at h
        refine k W2 H2 p q x y res _ (st2.rv rx) ry e fun v rv => ?_
        exact toB_post (Z := Z) R2 rv (Post.step (Post.step h st) st2)
/-! ### built-ins of two arguments -/
theorem px_blt2 {x : Str} {id : String} {a b : Expr} {p : Pos} {fa fb : EM} {r : List V → Hp → VK → Prop} {g : P2} (c : CallR X (.builtin id) r) (k : ∀ (W : Wd) (H : Hp) (p q : PV) (x y : V) (res : PV) (Q : VK), RV X.K W H p x → RV X.K W H q y → g p q = some res → (∀ v, RV X.K W H res v → Q v H) → r [x, y] H Q)
    (hg : Gl X x) (hm : X.mg x = none) (hv : bootBuiltins x = some (.builtin id)) (ha : PX X Z a fa) (hb : PX X Z b fb) (hn : x ≠ "__name__" := by decide) (hdb : (x == ("__debug__" : Str)) = false := by decide)
    (he : starEach [a, b] X.env = (false, eval a X.env) :: starEach [b] X.env := by rfl) (he2 : starEach [b] X.env = (false, eval b X.env) :: starEach [] X.env := by rfl) (hpl : (backTo pos (starEach [b] X.env)).any (·.1) = false := by rfl) : PX X Z (.Call (.Name x p) [a, b] [] pos) (binE g fa fb) := by
  refine px_of ⟨PE_imp (L2.pe_callB c hg hm hv (L2.pa_cons ha.pe (L2.pa_cons hb.pe L2.pa_nil he2) he) hn hdb he hpl) fun σ H Q ⟨W, s, R, h⟩ => ⟨W, s, R, Post.bind h fun p s1 x W1 H1 _ st R1 rx q => ⟨W1, s1, R1, Post.bind q fun q0 s2 y W2 H2 _ st2 R2 ry q2 => ?_⟩⟩⟩
  simp only [DR.p2] at q2
  cases e : g p q0 with
  | none => simp only [e, Option.map_none] at q2; exact q2.elim
  | some res =>
    simp only [e, Option.map_some] at q2
    exact k W2 H2 p q0 x y res Q (st2.rv rx) ry e fun v rv => q2 v W2 H2 (Step.refl _ _) R2 rv
def max2G : P2 := ii (fun _ _ => true) fun i j => .int (if j > i then j else i)
def min2G : P2 := ii (fun _ _ => true) fun i j => .int (if j < i then j else i)
theorem px_max2 {a b : Expr} {p : Pos} {fa fb : EM} (hc : X.calm = true) (hg : Gl X "max") (hm : X.mg "max" = none) (hv : bootBuiltins "max" = some (.builtin "max")) (ha : PX X Z a fa) (hb : PX X Z b fb)
    (he : starEach [a, b] X.env = (false, eval a X.env) :: starEach [b] X.env := by rfl) (he2 : starEach [b] X.env = (false, eval b X.env) :: starEach [] X.env := by rfl) (hpl : (backTo pos (starEach [b] X.env)).any (·.1) = false := by rfl) : PX X Z (.Call (.Name "max" p) [a, b] [] pos) (binE max2G fa fb) :=
  px_blt2 (call_max2 hc) (fun W H p q x y res Q rx ry e k => by
    obtain ⟨i, j, rfl, rfl, _, rfl⟩ := ii_some e
    exact ⟨i, j, by rw [rv_int_inv rx, rv_int_inv ry], k _ rv_int⟩) hg hm hv ha hb (by decide) (by decide) he he2 hpl
theorem px_min2 {a b : Expr} {p : Pos} {fa fb : EM} (hc : X.calm = true) (hg : Gl X "min") (hm : X.mg "min" = none) (hv : bootBuiltins "min" = some (.builtin "min")) (ha : PX X Z a fa) (hb : PX X Z b fb)
    (he : starEach [a, b] X.env = (false, eval a X.env) :: starEach [b] X.env := by rfl) (he2 : starEach [b] X.env = (false, eval b X.env) :: starEach [] X.env := by rfl) (hpl : (backTo pos (starEach [b] X.env)).any (·.1) = false := by rfl) : PX X Z (.Call (.Name "min" p) [a, b] [] pos) (binE min2G fa fb) :=
  px_blt2 (call_min2 hc) (fun W H p q x y res Q rx ry e k => by
    obtain ⟨i, j, rfl, rfl, _, rfl⟩ := ii_some e
    exact ⟨i, j, by rw [rv_int_inv rx, rv_int_inv ry], k _ rv_int⟩) hg hm hv ha hb (by decide) (by decide) he he2 hpl
end
theorem u65 {k : Nat} {A : Around} (r : Room k A) : A.units + 65 < cLine := by have := r.un; omega
theorem u64 {k : Nat} {A : Around} (r : Room k A) : A.units + 64 < cLine := by have := r.un; omega
theorem u1 {k : Nat} {A : Around} (r : Room k A) : A.units + 1 < cLine := by have := r.un; omega
/-! ### the built-in names -/
theorem bb_len : bootBuiltins "len" = some (.builtin "len") := by decide +kernel
theorem bb_abs : bootBuiltins "abs" = some (.builtin "abs") := by decide +kernel
theorem bb_all : bootBuiltins "all" = some (.builtin "all") := by decide +kernel
theorem bb_any : bootBuiltins "any" = some (.builtin "any") := by decide +kernel
theorem bb_sum : bootBuiltins "sum" = some (.builtin "sum") := by decide +kernel
theorem bb_max : bootBuiltins "max" = some (.builtin "max") := by decide +kernel
theorem bb_min : bootBuiltins "min" = some (.builtin "min") := by decide +kernel
theorem bb_sorted : bootBuiltins "sorted" = some (.builtin "sorted") := by decide +kernel
theorem bb_repr : bootBuiltins "repr" = some (.builtin "repr") := by decide +kernel
theorem bb_isinstance : bootBuiltins "isinstance" = some (.builtin "isinstance") := by decide +kernel
theorem bb_int : bootBuiltins "int" = some (.type "int") := by decide +kernel
theorem bb_bool : bootBuiltins "bool" = some (.type "bool") := by decide +kernel
theorem bb_tuple : bootBuiltins "tuple" = some (.type "tuple") := by decide +kernel
theorem bb_list : bootBuiltins "list" = some (.type "list") := by decide +kernel
theorem bb_dict : bootBuiltins "dict" = some (.type "dict") := by decide +kernel
theorem bb_set : bootBuiltins "set" = some (.type "set") := by decide +kernel
theorem bb_str : bootBuiltins "str" = some (.type "str") := by decide +kernel
end DR
namespace DR
open PySem
/-! ### where a comprehension stands -/
def pS (l : List Stmt) (i : Nat) : Stmt := l.getD i (.Pass ⟨0, 0, 0, 0⟩)
def pX : Expr := .Constant .none 0 ⟨0, 0, 0, 0⟩
def pVal : Stmt → Expr
  | .Assign _ e _ => e
  | .AugAssign _ _ e _ => e
  | .Expr e _ => e
  | .Return (some e) _ => e
  | _ => pX
def pTest : Stmt → Expr
  | .If c _ _ _ => c
  | .While c _ _ _ => c
  | .For _ i _ _ _ => i
  | _ => pX
def pBody : Stmt → List Stmt
  | .If _ b _ _ => b
  | .While _ b _ _ => b
  | .For _ _ b _ _ => b
  | _ => []
def pElse : Stmt → List Stmt
  | .If _ _ b _ => b
  | .While _ _ b _ => b
  | .For _ _ _ b _ => b
  | _ => []
def pFun : Expr → Expr
  | .Call f _ _ _ => f
  | .Attribute v _ _ => v
  | .IfExp t _ _ _ => t
  | _ => pX
def pArg : Expr → Nat → Expr
  | .Call _ as _ _, i => as.getD i pX
  | .Compare _ _ as _, i => as.getD i pX
  | .BoolOp _ as _, i => as.getD i pX
  | .Tuple as _ _, i => as.getD i pX
  | .List as _, i => as.getD i pX
  | _, _ => pX
def pL : Expr → Expr
  | .BinOp a _ _ _ => a
  | .Compare a _ _ _ => a
  | .UnaryOp _ a _ => a
  | .IfExp _ a _ _ => a
  | .Subscript a _ _ => a
  | .ListComp a _ _ _ => a
  | _ => pX
def pR : Expr → Expr
  | .BinOp _ _ a _ => a
  | .IfExp _ _ a _ => a
  | .Subscript _ a _ => a
  | _ => pX
def pIter : Expr → Nat → Expr
  | .ListComp _ [⟨_, a, _, _⟩] _ _, 0 => a
  | .ListComp _ [⟨_, a, _, _⟩, _] _ _, 0 => a
  | .ListComp _ [_, ⟨_, a, _, _⟩] _ _, 1 => a
  | _, _ => pX
def pIf : Expr → Nat → Nat → Expr
  | .ListComp _ [⟨_, _, as, _⟩] _ _, 0, i => as.getD i pX
  | .ListComp _ [⟨_, _, as, _⟩, _] _ _, 0, i => as.getD i pX
  | .ListComp _ [_, ⟨_, _, as, _⟩] _ _, 1, i => as.getD i pX
  | _, _, _ => pX
def pScope : Expr → Scope
  | .ListComp _ _ s _ => s
  | _ => default
/-- how many turns a loop is allowed -/
def fuel : Nat := 1000000
end DR
/-! DR: max and min of a list or a tuple of ints. -/
namespace DR
open PySem PySem.Spec PyProof.Rows L2
section
variable {X : Cx}
def rTopT (K : PySem.W.Frag) (best : Int → List Int → Int) : List V → Hp → VK → Prop := fun xs H Q => ∃ (a : Addr) (n : Int) (ns : List Int), xs = [.ref a] ∧ SqT K H a ((n :: ns).map V.int) ∧ Q (.int (best n ns)) H
theorem dpInts {K : PySem.W.Frag} {H : Hp} : ∀ ns : List Int, DpAll K H (ns.map V.int) (ns.map PyData.int)
  | [] => .nil
  | n :: ns => .cons (.int n) (dpInts ns)
theorem reads_int {h : Heap} {v : Value} {m : Int} {bs : List Addr} (r : Reads h v (.int m) bs) : ∃ t, v = .int m t := by
  cases r
  exact ⟨_, rfl⟩
theorem cr_maxT (hc : X.calm = true) (hu : X.A.units + 65 < cLine) : CallR X (.builtin "max") (rTopT X.K fun n ns => ns.foldl max n) := by
  intro pins s σ H xs us Q I r h
  obtain ⟨a, n, ns, rfl, hs, q⟩ := h
  obtain ⟨its, rv, tp, _⟩ := I.tuple hs
  rw [Vals.ref1 r]
  obtain ⟨as, rs⟩ := Dp.readsAll I ((n :: ns).map PyData.int) ((n :: ns).map V.int) its (dpInts (n :: ns)) rv
  have dep := PySem.W.depthAll_map (α := Int) (n :: ns)
  refine PySem.W.max_tuple_data (x := .int n) (xs := ns.map .int) (I.ok.hd hc) tp (by simpa using rs) (PySem.W.alikeAll_datum (α := Int) (n :: ns)) ?_ fun i v h' tk bs hi rd hk => ?_
  · have : PyData.depthAll ((n :: ns).map PyData.int) ≤ 0 := dep
    rw [List.map_cons] at this
    omega
  · rw [PySem.W.maxD_ints] at rd
    obtain ⟨t, rfl⟩ := reads_int rd
    exact ⟨.int _, H, I.kept (t' := tk) hk, ⟨t, rfl⟩, q⟩
theorem cr_minT (hc : X.calm = true) (hu : X.A.units + 65 < cLine) : CallR X (.builtin "min") (rTopT X.K fun n ns => ns.foldl min n) := by
  intro pins s σ H xs us Q I r h
  obtain ⟨a, n, ns, rfl, hs, q⟩ := h
  obtain ⟨its, rv, tp, _⟩ := I.tuple hs
  rw [Vals.ref1 r]
  obtain ⟨as, rs⟩ := Dp.readsAll I ((n :: ns).map PyData.int) ((n :: ns).map V.int) its (dpInts (n :: ns)) rv
  have dep := PySem.W.depthAll_map (α := Int) (n :: ns)
  refine PySem.W.min_tuple_data (x := .int n) (xs := ns.map .int) (I.ok.hd hc) tp (by simpa using rs) (PySem.W.alikeAll_datum (α := Int) (n :: ns)) ?_ fun i v h' tk bs hi rd hk => ?_
  · have : PyData.depthAll ((n :: ns).map PyData.int) ≤ 0 := dep
    rw [List.map_cons] at this
    omega
  · rw [PySem.W.minD_ints] at rd
    obtain ⟨t, rfl⟩ := reads_int rd
    exact ⟨.int _, H, I.kept (t' := tk) hk, ⟨t, rfl⟩, q⟩
def maxTG : G1 := fun p => match p with
  | .tup _ ps => ((intsP ps).bind maxL).map PV.int
  | _ => none
def minTG : G1 := fun p => match p with
  | .tup _ ps => ((intsP ps).bind minL).map PV.int
  | _ => none
theorem u_maxT (hc : X.calm = true) (hu : X.A.units + 65 < cLine) : Un1 X (.builtin "max") (g1 maxTG) := Un1.plain (cr_maxT hc hu) fun W H p x res Q rx e k => by
  cases p with
  | tup c ps =>
    simp only [maxTG, Option.map_eq_some_iff, Option.bind_eq_some_iff] at e
    obtain ⟨m, ⟨bs, e, hm⟩, rfl⟩ := e
    obtain ⟨a, vs, rfl, h1, h2⟩ := bv_tup rx
    have hv := ints_vs e h2
    subst hv
    cases bs with
    | nil => cases hm
    | cons n ns =>
      cases hm
      exact ⟨a, n, ns, rfl, h1, k _ rv_int⟩
  | _ => simp [maxTG] at e
theorem u_minT (hc : X.calm = true) (hu : X.A.units + 65 < cLine) : Un1 X (.builtin "min") (g1 minTG) := Un1.plain (cr_minT hc hu) fun W H p x res Q rx e k => by
  cases p with
  | tup c ps =>
    simp only [minTG, Option.map_eq_some_iff, Option.bind_eq_some_iff] at e
    obtain ⟨m, ⟨bs, e, hm⟩, rfl⟩ := e
    obtain ⟨a, vs, rfl, h1, h2⟩ := bv_tup rx
    have hv := ints_vs e h2
    subst hv
    cases bs with
    | nil => cases hm
    | cons n ns =>
      cases hm
      exact ⟨a, n, ns, rfl, h1, k _ rv_int⟩
  | _ => simp [minTG] at e
/-- two rules with plain answers -/
theorem Un1.or1 {f : Value} {g g' : G1} (h : Un1 X f (g1 g)) (h' : Un1 X f (g1 g')) : Un1 X f (g1 fun p => (g p).or (g' p)) := by
  have := h.or h'
  have e : (fun p => (g1 g p).or (g1 g' p)) = g1 fun p => (g p).or (g' p) := by
    funext p
    simp only [g1]
    cases g p <;> rfl
  rw [← e]
  exact this
def maxA : G1 := fun p => (maxG p).or (maxTG p)
def minA : G1 := fun p => (minG p).or (minTG p)
theorem u_maxA (hc : X.calm = true) (hu : X.A.units + 65 < cLine) : Un1 X (.builtin "max") (g1 maxA) := (u_max hc).or1 (u_maxT hc hu)
theorem u_minA (hc : X.calm = true) (hu : X.A.units + 65 < cLine) : Un1 X (.builtin "min") (g1 minA) := (u_min hc).or1 (u_minT hc hu)
def lenA : G1 := fun p => (lenG p).or (lenQ p)
theorem u_lenA : Un1 X (.builtin "len") (g1 lenA) := u_len.or1 u_lenQ
end
end DR
/-! DR: a law's end. -/
namespace DR
open PySem PySem.Spec PyProof.Rows L2
theorem walkW {l : PySem.W.OpenLaw} {n k : Nat} {q : Program} {loose : List Str} {XP : (Str → Option Value) → Heap → Prop} {YP : World → Heap → Prop} {d : DefRec} {CX : World → CXT} {x : Str} (most : l.most = some n) (small : n ≤ sizeLine) (nodf : d.params.defaults = []) (room : Room k callerA)
    (out : ∀ (w : World) (H : Hp) (s : Shared) (e : Value) (s' : Shared), CX w [] H s (fun _ _ _ => False) e s' → False)
    (F : ∀ (w : World) (mg : Str → Option Value) (g : Addr) (h : Heap), YP w h → h.Ns mainGlobals mg → mg d.name = some (.ref g) → ∃ (K : PySem.W.Frag) (fd : FuncData) (sp : Sp), K.In h ∧ (∀ (s : Shared) (u : Value), BindsTo s fd ⟨[u], []⟩ [(x, u)]) ∧
      (∀ (H : Hp) (a : Addr) (ns : List Int), ns.length ≤ n → Only H → SqL K H a (ns.map V.int) → sp [.ref a] H (fun v _ => v = .bl true) fun _ _ _ => False) ∧ ∀ base : Heap, K.In base → base.Ns mainGlobals mg → FnOk l.prog w K mg base (CX w) k g fd [x] sp) :
    PySem.W.WalkO q loose XP YP l.row.toRowW d [] (fun f vs => PySem.call f vs) := by
  refine Att.attach_call most nodf fun w s0 s1 mg mb g o pm cd doc a vs ns T Y h1 h2 h3 h4 h5 h6 h7 h8 => ?_
  obtain ⟨K, fd, sp, kin, binds, says, ok⟩ := F w mg g _ Y T.T.g h4
  exact law_call kin T.T.g T.T.b T.T.builtins T.T.nolimit h8 h5 h6 (Nat.le_trans h7 small) room ok binds (fun H only sq => says H a ns h7 only sq) fun H e s' => out w H s1 e s'
theorem cx_closed {P : Program} (w : World) (H : Hp) (s : Shared) (e : Value) (s' : Shared) (h : L2.CX P w [] H s (fun _ _ _ => False) e s') : False := by
  obtain ⟨_, _, _, _, _, _, _, _, _, _, _, _, z⟩ := h
  exact z
/-- a law that answers True -/
theorem promise {K : PySem.W.Frag} {f : SemF} (law : ∀ ns : List Int, ns.length ≤ 63 → ∃ t, f [.scr (ns.map .int)] [] = .ok (.bl true) false t) (H : Hp) (a : Addr) (ns : List Int) (hl : ns.length ≤ 63) (_ : Only H) (hS : SqL K H a (ns.map V.int)) :
    spF K 1 f [.ref a] H (fun v _ => v = .bl true) fun _ _ _ => False := by
  obtain ⟨t, e⟩ := law ns hl
  have hm : Wd.m ⟨[], [], []⟩ H = H := by
    funext b
    exact msk_out (by simp [Wd.L])
  have nums : ∀ l : List Int, Reps K [] H (l.map PV.int) (l.map V.int) := fun l => by
    induction l with
    | nil => exact reps_nil
    | cons i l ih => exact reps_cons (by unfold Rep; rfl) ih
  refine ⟨rfl, ⟨[], [], []⟩, [], [.scr (ns.map .int)], rfl, ⟨rfl, fun k p a h => by simp at h, List.nodup_nil, fun a h => (nomatch h), fun a h => (nomatch h), fun a h => (nomatch h), fun a h => (nomatch h), fun a h => (nomatch h)⟩, reps_cons ?_ reps_nil, ?_⟩
  · rw [hm]
    unfold Rep
    exact ⟨a, ns.map V.int, rfl, hS, nums ns⟩
  · rw [e]
    exact fun v W' H' _ _ r => rv_bl_inv (K := K) (W := W') (H := H') r
/-- facts by names -/
theorem Fd.of_ok {P : Program} {w : World} {K : PySem.W.Frag} {mg : Str → Option Value} {base : Heap} {x : Str} {k n : Nat} {sem : SemF} (h : Fd P w K mg base x k n sem) {f : Addr} (hm : mg x = some (.ref f)) :
    ∃ (fd : FuncData) (ps : List Str), FnOk P w K mg base (L2.CX P w) k f fd ps (spF K n sem) ∧ ps.length = n := by
  obtain ⟨g, fd, ps, e, ok, kp, b, hl⟩ := h.ex
  rw [hm] at e
  cases e
  exact ⟨fd, ps, ok, hl⟩
end DR
/-! DR: reckoning with the forms. -/
namespace DR
open PySem PySem.Spec PyProof.Rows L2
section
variable {α β : Type}
theorem bind_ok (a : α) (s : DS) (g : α → DS → Re β) : (Re.ok a s).bind g = g a s := (rfl)
theorem bind_bad (g : α → DS → Re β) : (Re.bad : Re α).bind g = .bad := (rfl)
theorem bind_exc (x : Exn) (s : DS) (g : α → DS → Re β) : (Re.exc x s : Re α).bind g = .exc x s := (rfl)
theorem noX_ok (a : α) (s : DS) : noX (Re.ok a s) = .ok a s := (rfl)
/-! names -/
theorem nameE_val {i : Nat} {e : DE} {t : DT} {p : PV} (h : e[i]? = some (.val p)) : nameE i ⟨e, t⟩ = .ok p ⟨e, t⟩ := by simp [nameE, h]
/-! kinds -/
theorem isi_int_int (i : Int) : isiG "int" (.int i) = some (.bl true) := (by rfl)
theorem isi_int_bool (i : Int) : isiG "bool" (.int i) = some (.bl false) := (by rfl)
theorem isi_tup_tup (c : Bool) (ps : List PV) : isiG "tuple" (.tup c ps) = some (.bl true) := (by rfl)
theorem isi_lst_lst (ps : List PV) : isiG "list" (.lst ps) = some (.bl true) := (by rfl)
theorem isi_lst_tup (ps : List PV) : isiG "tuple" (.lst ps) = some (.bl false) := (by rfl)
theorem isi_tup_lst (c : Bool) (ps : List PV) : isiG "list" (.tup c ps) = some (.bl false) := (by rfl)
end
/-! ints -/
theorem subI_ok (i j : Int) : subI (.int i) (.int j) = some (.int (i - j)) := (rfl)
theorem addI_ok (i j : Int) : addO (.int i) (.int j) = some (.int (i + j), false) := (rfl)
theorem mulI_r {i j : Int} (h : -18446744073709551616 < j ∧ j < 18446744073709551616) : mulO (.int i) (.int j) = some (.int (i * j), false) := by simp [mulO, p2, mulI, ii, h]
theorem mulI_l {i j : Int} (h : -18446744073709551616 < i ∧ i < 18446744073709551616) : mulO (.int i) (.int j) = some (.int (i * j), false) := by simp [mulO, p2, mulI, ii, h]
theorem modI_ok {i j : Int} (h : 0 < j) : modI (.int i) (.int j) = some (.int (i % j)) := by simp [modI, ii, h]
theorem fdivI_ok {i j : Int} (h : 0 < j) (h2 : j < 1073741824) : fdivI (.int i) (.int j) = some (.int (i / j)) := by simp [fdivI, ii, h, h2]
theorem ltI_ok (i j : Int) : ltI (.int i) (.int j) = some (.bl (decide (i < j))) := (rfl)
theorem leI_ok (i j : Int) : leI (.int i) (.int j) = some (.bl (decide (i ≤ j))) := (rfl)
theorem gtI_ok (i j : Int) : gtI (.int i) (.int j) = some (.bl (decide (j < i))) := (rfl)
theorem geI_ok (i j : Int) : geI (.int i) (.int j) = some (.bl (decide (j ≤ i))) := (rfl)
theorem cmpI_ok (c : Int → Int → Bool) (i j : Int) : cmpI c (.int i) (.int j) = some (.bl (c i j)) := (rfl)
theorem max2_ok (i j : Int) : max2G (.int i) (.int j) = some (.int (max i j)) := by
  simp only [max2G, ii, if_true]
  congr 2
  split <;> omega
theorem min2_ok (i j : Int) : min2G (.int i) (.int j) = some (.int (min i j)) := by
  simp only [min2G, ii, if_true]
  congr 2
  split <;> omega
theorem abs_ok (i : Int) : absG (.int i) = some (.int (if i < 0 then -i else i)) := (rfl)
theorem eq_int (n : Bool) (i j : Int) : eqG n (.int i) (.int j) = some (.bl (n != decide (i = j))) := by
  simp [eqG, okD, toD, SeqAt.shaped, eqD, PyData.eqv, PyData.canLay0, PyData.depth]
  by_cases h : i = j <;> simp [h]
/-! several -/
section
variable {vs : List Nat} {tg : Tg} {tt : TM} {f : EM}
inductive All2 (R : PV → Option PV → Prop) : List PV → List (Option PV) → Prop
  | nil : All2 R [] []
  | cons {p o ps os} : R p o → All2 R ps os → All2 R (p :: ps) (o :: os)
theorem All2.fn {g : PV → Option PV} {R : PV → Option PV → Prop} (h : ∀ p o, R p o → o = g p) : ∀ {ps os}, All2 R ps os → os = ps.map g
  | [], _, .nil => rfl
  | p :: ps, _, .cons a b => by rw [h _ _ a, All2.fn h b]; rfl
theorem All2.all {Q : PV → Prop} {R : PV → Option PV → Prop} (h : ∀ p y, R p (some y) → Q y) : ∀ {ps os}, All2 R ps os → ∀ y ∈ os.filterMap id, Q y
  | [], _, .nil, y, hy => by simp at hy
  | p :: ps, _, .cons (o := o) a b, y, hy => by
    cases o with
    | none => exact All2.all h b y (by simpa using hy)
    | some z =>
      simp only [List.filterMap_cons, id] at hy
      rcases List.mem_cons.mp hy with rfl | hy
      · exact h p y a
      · exact All2.all h b y hy
/-- a comprehension under an invariant of the state -/
theorem lcL_inv {Inv : DE → DT → Prop} {R : PV → Option PV → Prop} :
    ∀ (ps acc : List PV) (s : DS), (∀ p ∈ ps, ∀ e t, Inv e t → ∃ e1 b s2, asgT tg p e = some e1 ∧ tt ⟨e1, t⟩ = .ok b s2 ∧ ((b = true ∧ ∃ y s3, f s2 = .ok y s3 ∧ R p (some y) ∧ Inv (wipeE vs s3.e) s3.t) ∨ (b = false ∧ R p none ∧ Inv (wipeE vs s2.e) s2.t))) →
    Inv (wipeE vs s.e) s.t → acc.length + ps.length ≤ sizeLine → ∃ os s', lcL tg tt f vs ps acc s = .ok (acc ++ os.filterMap id) s' ∧ All2 R ps os ∧ Inv (wipeE vs s'.e) s'.t
  | [], acc, s, h, i, hl => ⟨[], s, by simp [lcL], .nil, i⟩
  | p :: ps, acc, s, h, i, hl => by
    obtain ⟨e1, b, s2, h1, h2, h3⟩ := h p List.mem_cons_self _ _ i
    simp only [List.length_cons] at hl
    rcases h3 with ⟨rfl, y, s3, h4, h5, h6⟩ | ⟨rfl, h5, h6⟩
    · obtain ⟨os, s', g1, g2, g3⟩ := lcL_inv ps (acc ++ [y]) s3 (fun q hq => h q (List.mem_cons_of_mem _ hq)) h6 (by simp; omega)
      refine ⟨some y :: os, s', ?_, .cons h5 g2, g3⟩
      rw [lcL_cons, h1]
      simp only [h2, bind_ok, if_true, h4]
      rw [if_pos (by omega), g1]
      simp
    · obtain ⟨os, s', g1, g2, g3⟩ := lcL_inv ps acc s2 (fun q hq => h q (List.mem_cons_of_mem _ hq)) h6 (by omega)
      refine ⟨none :: os, s', ?_, .cons h5 g2, g3⟩
      rw [lcL_cons, h1]
      simp only [h2, bind_ok]
      rw [if_neg (by decide), g1]
      simp
/-- a comprehension that changes nothing -/
theorem lcL_pure {e0 : DE} {t0 : DT} (g : PV → Option PV) (ps acc : List PV) (s : DS) (h : ∀ p ∈ ps, ∃ e1 b s2, asgT tg p e0 = some e1 ∧ tt ⟨e1, t0⟩ = .ok b s2 ∧ ((b = true ∧ ∃ y s3, f s2 = .ok y s3 ∧ g p = some y ∧ wipeE vs s3.e = e0 ∧ s3.t = t0) ∨ (b = false ∧ g p = none ∧ wipeE vs s2.e = e0 ∧ s2.t = t0)))
    (i : wipeE vs s.e = e0) (it : s.t = t0) (hl : acc.length + ps.length ≤ sizeLine) : ∃ s', lcL tg tt f vs ps acc s = .ok (acc ++ ps.filterMap g) s' ∧ wipeE vs s'.e = e0 ∧ s'.t = t0 := by
  obtain ⟨os, s', h1, h2, h3⟩ := lcL_inv (Inv := fun e t => e = e0 ∧ t = t0) (R := fun p o => o = g p) ps acc s (fun p hp e t ⟨a, b⟩ => by
    subst a b
    obtain ⟨e1, b, s2, h1, h2, h3⟩ := h p hp
    refine ⟨e1, b, s2, h1, h2, ?_⟩
    rcases h3 with ⟨a, y, s3, h4, h5, h6, h7⟩ | ⟨a, h5, h6, h7⟩
    · exact .inl ⟨a, y, s3, h4, h5.symm, h6, h7⟩
    · exact .inr ⟨a, h5.symm, h6, h7⟩) ⟨i, it⟩ hl
  have ho := h2.fn (fun _ _ z => z)
  subst ho
  refine ⟨s', ?_, h3.1, h3.2⟩
  rw [h1]
  congr 2
  induction ps with
  | nil => rfl
  | cons p ps ih => cases hg : g p <;> simp [hg]
theorem restE_eq {e0 : DE} : ∀ {e e' : DE}, wipeE vs e' = wipeE vs e → restE vs e0 e' = restE vs e0 e := fun {e e'} h => by
  refine List.ext_getElem? fun j => ?_
  have hj := congrArg (fun l => l[j]?) h
  simp only [wipeE_get] at hj
  rw [restE_get, restE_get]
  by_cases z : j ∈ vs
  · rw [if_pos z, if_pos z]
    rw [if_pos z, if_pos z] at hj
    cases h1 : e'[j]? <;> cases h2 : e[j]? <;> simp_all
  · rw [if_neg z, if_neg z]
    rw [if_neg z, if_neg z] at hj
    exact hj
/-- a list made item by item, nothing changed -/
theorem lcO_pure {it : IM} {s s1 : DS} {ps : List PV} (g : PV → Option PV) (hit : it s = .ok ps s1) (h : ∀ p ∈ ps, ∃ e1 b s2, asgT tg p (wipeE vs s1.e) = some e1 ∧ tt ⟨e1, s1.t⟩ = .ok b s2 ∧ ((b = true ∧ ∃ y s3, f s2 = .ok y s3 ∧ g p = some y ∧ wipeE vs s3.e = wipeE vs s1.e ∧ s3.t = s1.t) ∨ (b = false ∧ g p = none ∧ wipeE vs s2.e = wipeE vs s1.e ∧ s2.t = s1.t)))
    (hl : ps.length ≤ sizeLine) : lcO it tg tt f vs s = .ok (.lst (ps.filterMap g), true) ⟨restE vs s1.e s1.e, s1.t⟩ := by
  obtain ⟨s', h1, h2, h3⟩ := lcL_pure (vs := vs) (tg := tg) (tt := tt) (f := f) (e0 := wipeE vs s1.e) (t0 := s1.t) g ps [] s1 h rfl rfl (by simpa using hl)
  unfold lcO
  rw [hit, bind_ok, h1, noX_ok, bind_ok, h3, restE_eq h2]
  simp
/-- every item is made: no guard -/
theorem lcO_map {it : IM} {s s1 : DS} {ps : List PV} (g : PV → PV) (hit : it s = .ok ps s1) (h : ∀ p ∈ ps, ∃ e1 s3, asgT tg p (wipeE vs s1.e) = some e1 ∧ f ⟨e1, s1.t⟩ = .ok (g p) s3 ∧ wipeE vs s3.e = wipeE vs s1.e ∧ s3.t = s1.t)
    (hl : ps.length ≤ sizeLine) : lcO it tg yesT f vs s = .ok (.lst (ps.map g), true) ⟨restE vs s1.e s1.e, s1.t⟩ := by
  rw [lcO_pure (fun p => some (g p)) hit (fun p hp => ?_) hl]
  · congr 3
    clear h hl hit
    induction ps with
    | nil => rfl
    | cons p ps ih => simp [ih]
  · obtain ⟨e1, s3, h1, h2, h3, h4⟩ := h p hp
    exact ⟨e1, true, ⟨e1, s1.t⟩, h1, rfl, .inl ⟨rfl, _, s3, h2, rfl, h3, h4⟩⟩
/-- a loop under an invariant -/
theorem forL_inv {b : SM} {Inv : Nat → DE → DT → Prop} (ps : List PV) : ∀ (n : Nat) (s : DS), (∀ i p, ps[i]? = some p → ∀ e t, Inv i e t → ∃ e1 s', asgT tg p e = some e1 ∧ (b ⟨e1, t⟩ = .ok .nx s' ∨ b ⟨e1, t⟩ = .ok .ct s') ∧ Inv (i + 1) s'.e s'.t) →
    n ≤ ps.length → Inv n s.e s.t → ∃ s', forL tg b (ps.drop n) s = .ok .nx s' ∧ Inv ps.length s'.e s'.t := by
  intro n s h hn hi
  induction k : ps.length - n generalizing n s with
  | zero =>
    have e : n = ps.length := by omega
    subst e
    rw [List.drop_length]
    exact ⟨s, rfl, hi⟩
  | succ k ih =>
    have hlt : n < ps.length := by omega
    obtain ⟨e1, s', h1, h2, h3⟩ := h n _ (List.getElem?_eq_getElem hlt) _ _ hi
    obtain ⟨s2, g1, g2⟩ := ih (n + 1) s' hlt h3 (by omega)
    refine ⟨s2, ?_, g2⟩
    rw [List.drop_eq_getElem_cons hlt]
    unfold forL
    rw [h1]
    rcases h2 with h2 | h2 <;> (simp only [h2, bind_ok]; exact g1)
/-- a loop that may leave -/
theorem forL_ret {b : SM} {Inv : Nat → DE → DT → Prop} {Q : Re Fl → Prop} (ps : List PV) : ∀ (n : Nat) (s : DS), (∀ i p, ps[i]? = some p → ∀ e t, Inv i e t → ∃ e1, asgT tg p e = some e1 ∧ ((∃ s', (b ⟨e1, t⟩ = .ok .nx s' ∨ b ⟨e1, t⟩ = .ok .ct s') ∧ Inv (i + 1) s'.e s'.t) ∨ (∃ p fr s', b ⟨e1, t⟩ = .ok (.rt p fr) s' ∧ Q (.ok (.rt p fr) s')) ∨ ∃ s', b ⟨e1, t⟩ = .ok .bk s' ∧ Q (.ok .nx s'))) →
    (∀ e t, Inv ps.length e t → Q (.ok .nx ⟨e, t⟩)) → n ≤ ps.length → Inv n s.e s.t → Q (forL tg b (ps.drop n) s) := by
  intro n s h hq hn hi
  induction k : ps.length - n generalizing n s with
  | zero =>
    have e : n = ps.length := by omega
    subst e
    rw [List.drop_length]
    exact hq _ _ hi
  | succ k ih =>
    have hlt : n < ps.length := by omega
    obtain ⟨e1, h1, h2⟩ := h n _ (List.getElem?_eq_getElem hlt) _ _ hi
    rw [List.drop_eq_getElem_cons hlt]
    unfold forL
    rw [h1]
    rcases h2 with ⟨s', h2, h3⟩ | ⟨p, fr, s', h2, h3⟩ | ⟨s', h2, h3⟩
    · rcases h2 with h2 | h2 <;> (simp only [h2, bind_ok]; exact ih (n + 1) s' hlt h3 (by omega))
    · simp only [h2, bind_ok]; exact h3
    · simp only [h2, bind_ok]; exact h3
/-- a while loop by a measure -/
theorem while_inv {tt : TM} {b : SM} {Inv : Nat → DE → DT → Prop} {Q : Re Fl → Prop} : ∀ (m n : Nat) (s : DS), m < n → (∀ m e t, Inv m e t → ∃ c s1, tt ⟨e, t⟩ = .ok c s1 ∧ ((c = false ∧ Q (.ok .nx s1)) ∨ (c = true ∧ ((∃ s2 m', (b s1 = .ok .nx s2 ∨ b s1 = .ok .ct s2) ∧ m' < m ∧ Inv m' s2.e s2.t) ∨ (∃ p fr s2, b s1 = .ok (.rt p fr) s2 ∧ Q (.ok (.rt p fr) s2)) ∨ ∃ s2, b s1 = .ok .bk s2 ∧ Q (.ok .nx s2))))) →
    Inv m s.e s.t → Q (whileN tt b n s) := by
  intro m
  induction m using Nat.strongRecOn with
  | ind m ih =>
    intro n s hn h hi
    cases n with
    | zero => omega
    | succ n =>
      obtain ⟨c, s1, h1, h2⟩ := h m _ _ hi
      unfold whileN
      have h1 : tt s = .ok c s1 := h1
      rw [h1]
      rcases h2 with ⟨rfl, h2⟩ | ⟨rfl, h2⟩
      · simp only [bind_ok]; rw [if_neg (by decide)]; exact h2
      · simp only [bind_ok, if_true]
        rcases h2 with ⟨s2, m', h2, h3, h4⟩ | ⟨p, fr, s2, h2, h3⟩ | ⟨s2, h2, h3⟩
        · rcases h2 with h2 | h2 <;> (simp only [h2, bind_ok]; exact ih m' h3 n s2 (by omega) h h4)
        · simp only [h2, bind_ok]; exact h3
        · simp only [h2, bind_ok]; exact h3
end
end DR
namespace DR
theorem mul_modL {x y k : Int} (h : 0 < k) (h2 : k < 18446744073709551616) : mulO (.int (x % k)) (.int y) = some (.int (x % k * y), false) :=
  mulI_l ⟨by have := Int.emod_nonneg x (show k ≠ 0 by omega); omega, by have := Int.emod_lt_of_pos x h; omega⟩
theorem pow_ok {i j : Int} (h : 0 ≤ j) (h1 : j ≤ 1000000) (h2 : i.natAbs < 2 ^ 64) : powI (.int i) (.int j) = some (.int (i ^ j.toNat)) := by simp [powI, ii, h, h1, h2]
theorem atI_nat {ps : List PV} {n : Nat} {p : PV} (h : ps[n]? = some p) : L2.atI ps (n : Int) = some p := by
  have hn : n < ps.length := (List.getElem?_eq_some_iff.mp h).1
  have hp : ps[n] = p := by
    rw [List.getElem?_eq_getElem hn] at h
    exact Option.some.inj h
  unfold L2.atI L2.ixN
  simp [hn, hp]
theorem atI_of {ps : List PV} {i : Int} (h0 : 0 ≤ i) (h : i < ps.length) : L2.atI ps i = ps[i.toNat]? := by
  unfold L2.atI L2.ixN
  simp [h0, h]
theorem ixN_of {n : Nat} {i : Int} (h0 : 0 ≤ i) (h : i < n) : L2.ixN n i = some i.toNat := by
  unfold L2.ixN
  simp [h0, h]
theorem atI_int {ps : List PV} {i : Int} {p : PV} (h0 : 0 ≤ i) (h : ps[i.toNat]? = some p) : L2.atI ps i = some p := by
  have := atI_nat h
  rwa [Int.toNat_of_nonneg h0] at this
/-- the hand that a law draws from -/
def HandP (cells : List PV) (a b c d : Int) : PV := .lst [.lst cells, .int a, .int b, .int c, .int d]
def HandOk (h : PV) : Prop := ∃ (xs : List Int) (a b c d : Int), (∀ x ∈ xs, 0 ≤ x) ∧ 0 ≤ a ∧ 0 ≤ b ∧ h = HandP (xs.map .int) a b c d
end DR
/-! DR: each form at a state, in steps that a rewriter takes from the left. -/
namespace DR
open PySem L2
section
variable {α β : Type} {u v : SM} {g h : OM} {f f2 f3 : EM} {fa ga : AM} {fl gl : LM} {t1 t2 : TM} {s : DS} {i j k : Nat} {p q r : PV} {b fr : Bool} {ps qs : List PV} {e : DE} {t t' : DT} {tg : Tg} {it : IM} {G : P2} {B : B2} {U : G1} {O : O1} {sem : SemF} {n : Nat} {x y : Int}
def kSeq (v : SM) (fl : Fl) (s : DS) : Re Fl := match fl with
  | .nx => v s
  | o => .ok o s
theorem seqS_ap : seqS u v s = (u s).bind (kSeq v) := (rfl)
theorem kSeq_nx : kSeq v .nx s = v s := (rfl)
theorem kSeq_rt : kSeq v (.rt p fr) s = .ok (.rt p fr) s := (rfl)
theorem kSeq_bk : kSeq v .bk s = .ok .bk s := (rfl)
theorem kSeq_ct : kSeq v .ct s = .ok .ct s := (rfl)
def kRet (p : PV × Bool) (s : DS) : Re Fl := .ok (.rt p.1 p.2) s
theorem retS_ap : retS g s = (g s).bind kRet := (rfl)
theorem kRet_ap : kRet (p, fr) s = .ok (.rt p fr) s := (rfl)
theorem retN_ap : retN s = .ok (.rt .non false) s := (rfl)
def kNx {α : Type} (_ : α) (s : DS) : Re Fl := .ok .nx s
theorem exprS_ap : exprS f s = (f s).bind kNx := (rfl)
theorem kNx_ap {a : α} : kNx a s = .ok .nx s := (rfl)
def kIf {α : Type} (u v : DS → Re α) (b : Bool) (s : DS) : Re α := if b = true then u s else v s
theorem ifS_ap : ifS t1 u v s = (t1 s).bind (kIf u v) := (rfl)
theorem ifE_ap : ifE t1 f f2 s = (t1 s).bind (kIf f f2) := (rfl)
theorem ifO_ap : ifO t1 g h s = (t1 s).bind (kIf g h) := (rfl)
theorem kIf_t {u v : DS → Re α} : kIf u v true s = u s := (rfl)
theorem kIf_f {u v : DS → Re α} : kIf u v false s = v s := (rfl)
theorem badS_ap : badS s = .bad := (rfl)
theorem nextS_ap : nextS s = .ok .nx s := (rfl)
def kSet (i : Nat) (p : PV × Bool) (s : DS) : Re Fl := .ok .nx ⟨s.e.set i (putSl p), s.t⟩
theorem setS_ap : setS i g s = (g s).bind (kSet i) := (rfl)
theorem kSet_v : kSet i (p, false) ⟨e, t⟩ = .ok .nx ⟨e.set i (.val p), t⟩ := (rfl)
theorem kSet_o : kSet i (p, true) ⟨e, t⟩ = .ok .nx ⟨e.set i (.own p), t⟩ := (rfl)
def kCell (i : Nat) (p : PV × Bool) (s : DS) : Re Fl := if p.2 = true then .ok .nx ⟨s.e.set i (.val (.cell s.t.length)), s.t ++ [p.1]⟩ else .bad
theorem cellS_ap : cellS i g s = (g s).bind (kCell i) := (rfl)
theorem kCell_ap : kCell i (p, true) ⟨e, t⟩ = .ok .nx ⟨e.set i (.val (.cell t.length)), t ++ [p]⟩ := (rfl)
def kPar (is : List Nat) (ps : List (PV × Bool)) (s : DS) : Re Fl := if ps.length = is.length then .ok .nx ⟨putL is ps s.e, s.t⟩ else .bad
theorem parS_ap {is : List Nat} : parS is fl s = (fl s).bind (kPar is) := (rfl)
theorem kPar_2 {a b : PV × Bool} : kPar [i, j] [a, b] ⟨e, t⟩ = .ok .nx ⟨(e.set i (putSl a)).set j (putSl b), t⟩ := (rfl)
theorem kPar_3 {a b c : PV × Bool} : kPar [i, j, k] [a, b, c] ⟨e, t⟩ = .ok .nx ⟨((e.set i (putSl a)).set j (putSl b)).set k (putSl c), t⟩ := (rfl)
theorem kPar_4 {a b c d : PV × Bool} : kPar [i, j, k, n] [a, b, c, d] ⟨e, t⟩ = .ok .nx ⟨(((e.set i (putSl a)).set j (putSl b)).set k (putSl c)).set n (putSl d), t⟩ := (rfl)
theorem putSl_v : putSl (p, false) = .val p := (rfl)
theorem putSl_o : putSl (p, true) = .own p := (rfl)
def kAsg2 (o : Option DE) (t : DT) : Re Fl := match o with
  | some e => .ok .nx ⟨e, t⟩
  | none => .bad
def kAsg (tg : Tg) (p : PV) (s : DS) : Re Fl := kAsg2 (asgT tg p s.e) s.t
theorem asgS_ap : asgS tg f s = (f s).bind (kAsg tg) := (rfl)
theorem kAsg_ap : kAsg tg p ⟨e, t⟩ = kAsg2 (asgT tg p e) t := (rfl)
theorem kAsg2_ap : kAsg2 (some e) t = .ok .nx ⟨e, t⟩ := (rfl)
theorem asgT_nm : asgT (.nm i) p e = some (e.set i (.val p)) := (rfl)
theorem asgT_tp {ts : List Tg} : asgT (.tp ts) (.tup b ps) e = asgTs ts ps e := (rfl)
theorem asgTs_nil : asgTs [] [] e = some e := (rfl)
theorem asgTs_nm {ts : List Tg} : asgTs (.nm i :: ts) (p :: ps) e = asgTs ts ps (e.set i (.val p)) := (rfl)
def kAug2 (i : Nat) (o : Option PV) (s : DS) : Re Fl := match o with
  | some r => .ok .nx ⟨s.e.set i (.val r), s.t⟩
  | none => .bad
def kAug1 (i : Nat) (G : P2) (p q : PV) (s : DS) : Re Fl := kAug2 i (G p q) s
def kAug (i : Nat) (G : P2) (f : EM) (o : Option Sl) (s : DS) : Re Fl := match o with
  | some (.val p) => (f s).bind (kAug1 i G p)
  | _ => .bad
theorem augS_ap : augS i G f s = kAug i G f s.e[i]? s := by
  unfold augS kAug
  cases s.e[i]? with
  | none => rfl
  | some sl => cases sl <;> rfl
theorem kAug_ap : kAug i G f (some (.val p)) s = (f s).bind (kAug1 i G p) := (rfl)
theorem kAug1_ap : kAug1 i G p q s = kAug2 i (G p q) s := (rfl)
theorem kAug2_ap : kAug2 i (some r) ⟨e, t⟩ = .ok .nx ⟨e.set i (.val r), t⟩ := (rfl)
/-! names -/
def kNm (i : Nat) (o : Option Sl) (s : DS) : Re PV := match o with
  | some (.val p) => .ok p s
  | some (.own p) => .ok p ⟨s.e.set i (.val p), s.t⟩
  | _ => .bad
theorem nameE_ap : nameE i s = kNm i s.e[i]? s := (rfl)
theorem kNm_v : kNm i (some (.val p)) s = .ok p s := (rfl)
theorem kNm_o : kNm i (some (.own p)) ⟨e, t⟩ = .ok p ⟨e.set i (.val p), t⟩ := (rfl)
def kNd (o : Option PV) (s : DS) : Re PV := match o with
  | some p => .ok p s
  | none => .bad
def kNc (p : PV) (s : DS) : Re PV := match p with
  | .cell k => kNd s.t[k]? s
  | p => .ok p s
def kNb (o : Option Sl) (s : DS) : Re PV := match o with
  | some (.val p) => kNc p s
  | some (.own p) => .ok p s
  | _ => .bad
theorem nameB_ap : nameB i s = kNb s.e[i]? s := by
  unfold nameB kNb
  cases s.e[i]? with
  | none => rfl
  | some sl =>
    cases sl with
    | no => rfl
    | own p => rfl
    | val p => cases p <;> rfl
theorem kNb_o : kNb (some (.own p)) s = .ok p s := (rfl)
theorem kNb_v : kNb (some (.val p)) s = kNc p s := (rfl)
theorem kNc_cell : kNc (.cell k) ⟨e, t⟩ = kNd t[k]? ⟨e, t⟩ := (rfl)
theorem kNd_ap : kNd (some p) s = .ok p s := (rfl)
theorem kNc_int : kNc (.int x) s = .ok (.int x) s := (rfl)
theorem kNc_bl : kNc (.bl b) s = .ok (.bl b) s := (rfl)
theorem kNc_non : kNc .non s = .ok .non s := (rfl)
theorem kNc_str {z : Str} : kNc (.str z) s = .ok (.str z) s := (rfl)
theorem kNc_tup : kNc (.tup b ps) s = .ok (.tup b ps) s := (rfl)
theorem kNc_lst : kNc (.lst ps) s = .ok (.lst ps) s := (rfl)
theorem kNc_scr : kNc (.scr ps) s = .ok (.scr ps) s := (rfl)
theorem kNc_dK {l : List (Key × PV)} : kNc (.dK l) s = .ok (.dK l) s := (rfl)
theorem kNc_dT {l : List (List Key × PV)} : kNc (.dT l) s = .ok (.dT l) s := (rfl)
theorem kNc_ins {c : Addr} {l : List (Str × PV)} : kNc (.ins c l) s = .ok (.ins c l) s := (rfl)
/-! changes -/
def kMo (i : Nat) (o : Option (PV × PV)) (s : DS) : Re PV := match o with
  | some (p, r) => .ok r ⟨s.e.set i (.own p), s.t⟩
  | none => .bad
def kMd (k : Nat) (o : Option (PV × PV)) (s : DS) : Re PV := match o with
  | some (p, r) => .ok r ⟨s.e, s.t.set k p⟩
  | none => .bad
def kMc (k : Nat) (F : PV → Option (PV × PV)) (o : Option PV) (s : DS) : Re PV := match o with
  | some p => kMd k (F p) s
  | none => .bad
def kMod (i : Nat) (F : PV → Option (PV × PV)) (o : Option Sl) (s : DS) : Re PV := match o with
  | some (.own p) => kMo i (F p) s
  | some (.val (.cell k)) => kMc k F s.t[k]? s
  | _ => .bad
theorem modB_ap {F : PV → Option (PV × PV)} : modB i F s = kMod i F s.e[i]? s := by
  unfold modB kMod
  cases s.e[i]? with
  | none => rfl
  | some sl =>
    cases sl with
    | no => rfl
    | own p => first
      | (simp only [kMo]; done)
      | (simp only [kMo]; cases F p <;> rfl)
    | val p =>
      cases p <;> rfl
theorem kMod_o {F : PV → Option (PV × PV)} : kMod i F (some (.own p)) s = kMo i (F p) s := (rfl)
theorem kMod_c {F : PV → Option (PV × PV)} : kMod i F (some (.val (.cell k))) ⟨e, t⟩ = kMc k F t[k]? ⟨e, t⟩ := (rfl)
theorem kMc_ap {F : PV → Option (PV × PV)} : kMc k F (some p) s = kMd k (F p) s := (rfl)
theorem kMo_ap : kMo i (some (p, r)) ⟨e, t⟩ = .ok r ⟨e.set i (.own p), t⟩ := (rfl)
theorem kMd_ap : kMd k (some (p, r)) ⟨e, t⟩ = .ok r ⟨e, t.set k p⟩ := (rfl)
def kAp2 (i : Nat) (q : PV) (s : DS) : Re PV := modB i (appU q) s
def kAp (i : Nat) (f : EM) (s : DS) (p : PV) (_ : DS) : Re PV := if tyN p = some "list" then (f s).bind (kAp2 i) else .bad
theorem appE_ap : appE i f s = (nameB i s).bind (kAp i f s) := (rfl)
theorem kAp_ap {s2 : DS} : kAp i f s (.lst ps) s2 = (f s).bind (kAp2 i) := by simp [kAp, tyN]
theorem kAp2_ap : kAp2 i q s = kMod i (appU q) s.e[i]? s := modB_ap
theorem appU_ok (hl : ps.length < sizeLine) : appU q (.lst ps) = some (.lst (ps ++ [q]), .non) := by simp [appU, hl]
def kSi3 (i : Nat) (q j : PV) (s : DS) : Re Fl := (modB i (setU j q) s).bind kNx
def kSi2 (i : Nat) (f : EM) (q : PV) (s : DS) (_ : PV) (_ : DS) : Re Fl := (f s).bind (kSi3 i q)
def kSi (i : Nat) (f : EM) (q : PV) (s : DS) : Re Fl := (nameB i s).bind (kSi2 i f q s)
theorem setIxS_ap : setIxS i f f2 s = (f s).bind (kSi i f2) := (rfl)
theorem kSi_ap : kSi i f q s = (nameB i s).bind (kSi2 i f q s) := (rfl)
theorem kSi2_ap {s2 : DS} : kSi2 i f q s p s2 = (f s).bind (kSi3 i q) := (rfl)
theorem kSi3_ap : kSi3 i q p s = (kMod i (setU p q) s.e[i]? s).bind kNx := by unfold kSi3; rw [modB_ap]
theorem setU_lst (h0 : 0 ≤ x) (hx : x.toNat < ps.length) : setU (.int x) q (.lst ps) = some (.lst (ps.set x.toNat q), .non) := by
  show (L2.ixN ps.length x).map _ = _
  rw [ixN_of h0 (by omega)]
  rfl
def kAx4 (i : Nat) (j : PV) (o : Option PV) (s : DS) : Re Fl := match o with
  | some r => kSi3 i r j s
  | none => .bad
def kAx3 (i : Nat) (c : P2) (j old q : PV) (s : DS) : Re Fl := kAx4 i j (c old q) s
def kAx2 (i : Nat) (c : P2) (f : EM) (j : PV) (o : Option PV) (s : DS) : Re Fl := match o with
  | some old => (f s).bind (kAx3 i c j old)
  | none => .bad
def kAx1b (i : Nat) (c : P2) (f : EM) (j : PV) (s : DS) (p : PV) (_ : DS) : Re Fl := kAx2 i c f j (lixG p j) s
def kAx1 (i : Nat) (c : P2) (f : EM) (j : PV) (s : DS) : Re Fl := (nameB i s).bind (kAx1b i c f j s)
def kAx (i : Nat) (c : P2) (g f : EM) (s : DS) (_ : PV) (_ : DS) : Re Fl := (g s).bind (kAx1 i c f)
theorem augIxS_ap {c : P2} : augIxS i c f f2 s = (nameB i s).bind (kAx i c f f2 s) := by
  unfold augIxS kAx
  cases nameB i s with
  | ok p s1 =>
    simp only [bind_ok]
    cases f s with
    | ok j s2 =>
      simp only [bind_ok, kAx1]
      cases nameB i s2 with
      | ok p s3 =>
        simp only [bind_ok, kAx1b, kAx2]
        cases lixG p j with
        | none => rfl
        | some old =>
          simp only
          cases f2 s2 with
          | ok q s4 =>
            simp only [bind_ok, kAx3, kAx4, kSi3]
            cases c old q with
            | none => rfl
            | some r => rfl
          | exc _ _ => rfl
          | bad => rfl
      | exc _ _ => rfl
      | bad => rfl
    | exc _ _ => rfl
    | bad => rfl
  | exc _ _ => rfl
  | bad => rfl
theorem kAx_ap {c : P2} {s2 : DS} : kAx i c f f2 s p s2 = (f s).bind (kAx1 i c f2) := (rfl)
theorem kAx1_ap {c : P2} : kAx1 i c f q s = (nameB i s).bind (kAx1b i c f q s) := (rfl)
theorem kAx1b_ap {c : P2} {s2 : DS} : kAx1b i c f q s p s2 = kAx2 i c f q (lixG p q) s := (rfl)
theorem kAx2_ap {c : P2} : kAx2 i c f q (some p) s = (f s).bind (kAx3 i c q p) := (rfl)
theorem kAx3_ap {c : P2} : kAx3 i c r p q s = kAx4 i r (c p q) s := (rfl)
theorem kAx4_ap : kAx4 i q (some r) s = kSi3 i r q s := (rfl)
theorem lixG_ok (h0 : 0 ≤ x) (hx : x.toNat < ps.length) : lixG (.lst ps) (.int x) = ps[x.toNat]? := atI_of h0 (by omega)
/-! expressions -/
def kSh (p : PV) (s : DS) : Re (PV × Bool) := .ok (p, false) s
theorem sharedE_ap : sharedE f s = (f s).bind kSh := (rfl)
theorem kSh_ap : kSh p s = .ok (p, false) s := (rfl)
def kPl (p : PV × Bool) (s : DS) : Re PV := .ok p.1 s
theorem plainE_ap : plainE g s = (g s).bind kPl := (rfl)
theorem kPl_ap : kPl (p, fr) s = .ok p s := (rfl)
theorem constE_ap : constE p s = .ok p s := (rfl)
theorem nilA_ap : nilA s = .ok [] s := (rfl)
def kCo2 {α : Type} (p : α) (ps : List α) (s : DS) : Re (List α) := .ok (p :: ps) s
def kCo {α : Type} (g : DS → Re (List α)) (p : α) (s : DS) : Re (List α) := (g s).bind (kCo2 p)
theorem consA_ap : consA f fa s = (f s).bind (kCo fa) := (rfl)
theorem kCo_ap {g : DS → Re (List α)} {a : α} : kCo g a s = (g s).bind (kCo2 a) := (rfl)
theorem kCo2_ap {a : α} {as : List α} : kCo2 a as s = .ok (a :: as) s := (rfl)
theorem nilL_ap : nilL s = .ok [] s := (rfl)
theorem consL_ap : consL g fl s = (g s).bind (kCo fl) := (rfl)
def kTu (ps : List PV) (s : DS) : Re PV := if lineOk ps.length then .ok (.tup false ps) s else .bad
def kLs (ps : List PV) (s : DS) : Re (PV × Bool) := if lineOk ps.length then .ok (.lst ps, true) s else .bad
theorem tupE_ap : tupE fa s = (fa s).bind kTu := (rfl)
theorem lstE_ap : lstE fa s = (fa s).bind kLs := (rfl)
theorem lineOk_le (hn : n ≤ 100) : lineOk n = true := by
  unfold lineOk
  have : 100 ≤ sizeLine := by decide
  exact decide_eq_true (by omega)
theorem kTu_ap (hn : ps.length ≤ 100) : kTu ps s = .ok (.tup false ps) s := by unfold kTu; rw [if_pos (lineOk_le hn)]
theorem kLs_ap (hn : ps.length ≤ 100) : kLs ps s = .ok (.lst ps, true) s := by unfold kLs; rw [if_pos (lineOk_le hn)]
def kOp {α : Type} (o : Option α) (s : DS) : Re α := match o with
  | some r => .ok r s
  | none => .bad
theorem kOp_ap {a : α} : kOp (some a) s = .ok a s := (rfl)
theorem kOp_no : kOp (none : Option α) s = .bad := (rfl)
def kBi2 (B : B2) (p q : PV) (s : DS) : Re (PV × Bool) := kOp (B p q) s
def kBi (B : B2) (f : EM) (p : PV) (s : DS) : Re (PV × Bool) := (f s).bind (kBi2 B p)
theorem binO_ap : binO B f f2 s = (f s).bind (kBi B f2) := by
  unfold binO
  congr 1
  funext p s1
  unfold kBi
  congr 1
  funext q s2
  unfold kBi2
  cases B p q <;> rfl
theorem kBi_ap : kBi B f p s = (f s).bind (kBi2 B p) := (rfl)
theorem kBi2_ap : kBi2 B p q s = kOp (B p q) s := (rfl)
def kBe2 (G : P2) (p q : PV) (s : DS) : Re PV := kOp (G p q) s
def kBe (G : P2) (f : EM) (p : PV) (s : DS) : Re PV := (f s).bind (kBe2 G p)
theorem binE_ap : binE G f f2 s = (f s).bind (kBe G f2) := by
  unfold binE plainE binO
  cases f s with
  | ok p s1 =>
    simp only [bind_ok, kBe]
    cases f2 s1 with
    | ok q s2 =>
      simp only [bind_ok, p2, kBe2]
      cases G p q <;> rfl
    | exc _ _ => rfl
    | bad => rfl
  | exc _ _ => rfl
  | bad => rfl
theorem kBe_ap : kBe G f p s = (f s).bind (kBe2 G p) := (rfl)
theorem kBe2_ap : kBe2 G p q s = kOp (G p q) s := (rfl)
def kCh4 (G : P2) (p q : PV) (s : DS) : Re PV := kOp (G p q) s
def kCh3 (G : P2) (f : EM) (q : PV) (o : Option PV) (s : DS) : Re PV := match o with
  | some (.bl true) => (f s).bind (kCh4 G q)
  | some (.bl false) => .ok (.bl false) s
  | _ => .bad
def kCh2 (G G' : P2) (f : EM) (p q : PV) (s : DS) : Re PV := kCh3 G' f q (G p q) s
def kCh (G G' : P2) (f f2 : EM) (p : PV) (s : DS) : Re PV := (f s).bind (kCh2 G G' f2 p)
theorem chainE_ap {G' : P2} : chainE G G' f f2 f3 s = (f s).bind (kCh G G' f2 f3) := by
  unfold chainE
  congr 1
  funext p s1
  unfold kCh
  congr 1
  funext q s2
  unfold kCh2 kCh3
  cases G p q with
  | none => rfl
  | some z =>
    cases z <;> try rfl
    rename_i b
    cases b with
    | false => rfl
    | true =>
      simp only
      congr 1
      funext r s3
      unfold kCh4
      cases G' q r <;> rfl
theorem kCh_ap {G' : P2} : kCh G G' f f2 p s = (f s).bind (kCh2 G G' f2 p) := (rfl)
theorem kCh2_ap {G' : P2} : kCh2 G G' f p q s = kCh3 G' f q (G p q) s := (rfl)
theorem kCh3_t : kCh3 G f q (some (.bl true)) s = (f s).bind (kCh4 G q) := (rfl)
theorem kCh3_f : kCh3 G f q (some (.bl false)) s = .ok (.bl false) s := (rfl)
theorem kCh4_ap : kCh4 G p q s = kOp (G p q) s := (rfl)
theorem testE_ap : testE f s = (f s).bind toB := (rfl)
theorem toB_ap : toB (.bl b) s = .ok b s := (rfl)
def kAnd (f : EM) (p : PV) (s : DS) : Re PV := match p with
  | .bl true => f s
  | .bl false => .ok (.bl false) s
  | _ => .bad
def kOr (f : EM) (p : PV) (s : DS) : Re PV := match p with
  | .bl true => .ok (.bl true) s
  | .bl false => f s
  | _ => .bad
def kNot (p : PV) (s : DS) : Re PV := match p with
  | .bl b => .ok (.bl (!b)) s
  | _ => .bad
theorem andE_ap : andE f f2 s = (f s).bind (kAnd f2) := (rfl)
theorem orE_ap : orE f f2 s = (f s).bind (kOr f2) := (rfl)
theorem notE_ap : notE f s = (f s).bind kNot := (rfl)
theorem kAnd_t : kAnd f (.bl true) s = f s := (rfl)
theorem kAnd_f : kAnd f (.bl false) s = .ok (.bl false) s := (rfl)
theorem kOr_t : kOr f (.bl true) s = .ok (.bl true) s := (rfl)
theorem kOr_f : kOr f (.bl false) s = f s := (rfl)
theorem kNot_ap : kNot (.bl b) s = .ok (.bl (!b)) s := (rfl)
def kAndT (t : TM) (b : Bool) (s : DS) : Re Bool := if b = true then t s else .ok false s
def kOrT (t : TM) (b : Bool) (s : DS) : Re Bool := if b = true then .ok true s else t s
def kNotT (b : Bool) (s : DS) : Re Bool := .ok (!b) s
theorem andT_ap : andT t1 t2 s = (t1 s).bind (kAndT t2) := (rfl)
theorem orT_ap : orT t1 t2 s = (t1 s).bind (kOrT t2) := (rfl)
theorem notT_ap : notT t1 s = (t1 s).bind kNotT := (rfl)
theorem kAndT_t : kAndT t1 true s = t1 s := (rfl)
theorem kAndT_f : kAndT t1 false s = .ok false s := (rfl)
theorem kOrT_t : kOrT t1 true s = .ok true s := (rfl)
theorem kOrT_f : kOrT t1 false s = t1 s := (rfl)
theorem kNotT_ap : kNotT b s = .ok (!b) s := (rfl)
def kNeg (p : PV) (s : DS) : Re PV := match p with
  | .int i => .ok (.int (-i)) s
  | _ => .bad
theorem negE_ap : negE f s = (f s).bind kNeg := (rfl)
theorem kNeg_ap : kNeg (.int x) s = .ok (.int (-x)) s := (rfl)
/-! calls -/
def kFr (r : FR) (s : DS) : Re (PV × Bool) := match r with
  | .ok p fr t' => .ok (p, fr) ⟨s.e, t'⟩
  | .exc x t' => .exc x ⟨s.e, t'⟩
  | .bad => .bad
def kCall (sem : SemF) (ps : List PV) (s : DS) : Re (PV × Bool) := kFr (sem ps s.t) s
theorem callO_ap : callO sem fa s = (fa s).bind (kCall sem) := by
  unfold callO
  cases fa s <;> rfl
theorem kCall_ap : kCall sem ps ⟨e, t⟩ = kFr (sem ps t) ⟨e, t⟩ := (rfl)
theorem kFr_ap : kFr (.ok p fr t') ⟨e, t⟩ = .ok (p, fr) ⟨e, t'⟩ := (rfl)
theorem kFr_exc {z : Exn} : kFr (.exc z t') ⟨e, t⟩ = .exc z ⟨e, t'⟩ := (rfl)
def kUn (O : O1) (p : PV) (s : DS) : Re (PV × Bool) := kOp (O p) s
def kUe (U : G1) (p : PV) (s : DS) : Re PV := kOp (U p) s
theorem un1O_ap : un1O O f s = (f s).bind (kUn O) := by
  unfold un1O
  congr 1
  funext p s1
  unfold kUn
  cases O p <;> rfl
theorem kUn_ap : kUn O p s = kOp (O p) s := (rfl)
theorem un1E_ap : un1E U f s = (f s).bind (kUe U) := by
  unfold un1E plainE un1O
  cases f s with
  | ok p s1 =>
    simp only [bind_ok, g1, kUe]
    cases U p <;> rfl
  | exc _ _ => rfl
  | bad => rfl
theorem kUe_ap : kUe U p s = kOp (U p) s := (rfl)
theorem lenG_lst : lenG (.lst ps) = some (.int ps.length) := (rfl)
theorem lenG_tup : lenG (.tup b ps) = some (.int ps.length) := (rfl)
theorem lenG_scr : lenG (.scr ps) = some (.int ps.length) := (rfl)
theorem tupG_lst : tupG (.lst ps) = some (.tup false ps) := (rfl)
theorem tupG_tup : tupG (.tup b ps) = some (.tup b ps) := (rfl)
theorem listG_lst : listG (.lst ps) = some (.lst ps, true) := (rfl)
theorem listG_tup : listG (.tup b ps) = some (.lst ps, true) := (rfl)
theorem intG_int : intG (.int x) = some (.int x) := (rfl)
theorem intG_bl : intG (.bl b) = some (.int (if b then 1 else 0)) := (rfl)
theorem absG_int : absG (.int x) = some (.int (if x < 0 then -x else x)) := (rfl)
/-! items, slices -/
def kIx3 (q p : PV) (s : DS) : Re PV := kOp (ixG p q) s
def kIx2 (i : Nat) (q : PV) (s : DS) : Re PV := (nameB i s).bind (kIx3 q)
def kIx (i : Nat) (f : EM) (s : DS) (_ : PV) (_ : DS) : Re PV := (f s).bind (kIx2 i)
theorem ixN_ap : ixN i f s = (nameB i s).bind (kIx i f s) := by
  unfold ixN
  congr 1
  funext p s1
  unfold kIx
  congr 1
  funext q s2
  unfold kIx2
  congr 1
  funext r s3
  unfold kIx3
  cases ixG r q <;> rfl
theorem kIx_ap {s2 : DS} : kIx i f s p s2 = (f s).bind (kIx2 i) := (rfl)
theorem kIx2_ap : kIx2 i q s = (nameB i s).bind (kIx3 q) := (rfl)
theorem kIx3_ap : kIx3 q p s = kOp (ixG p q) s := (rfl)
def kIe2 (p q : PV) (s : DS) : Re PV := kOp (ixG p q) s
def kIe (f : EM) (p : PV) (s : DS) : Re PV := (f s).bind (kIe2 p)
theorem ixE_ap : ixE f f2 s = (f s).bind (kIe f2) := by
  unfold ixE
  congr 1
  funext p s1
  unfold kIe
  congr 1
  funext q s2
  unfold kIe2
  cases ixG p q <;> rfl
theorem kIe_ap : kIe f p s = (f s).bind (kIe2 p) := (rfl)
theorem kIe2_ap : kIe2 p q s = kOp (ixG p q) s := (rfl)
theorem ixG_lst (h0 : 0 ≤ x) (hx : x.toNat < ps.length) : ixG (.lst ps) (.int x) = ps[x.toNat]? := atI_of h0 (by omega)
theorem ixG_tup (h0 : 0 ≤ x) (hx : x.toNat < ps.length) : ixG (.tup b ps) (.int x) = ps[x.toNat]? := atI_of h0 (by omega)
theorem ixG_scr (h0 : 0 ≤ x) (hx : x.toNat < ps.length) : ixG (.scr ps) (.int x) = ps[x.toNat]? := atI_of h0 (by omega)
theorem noQ_ap : noQ s = .ok none s := (rfl)
def kSq (p : PV) (s : DS) : Re (Option Int) := match p with
  | .int i => .ok (some i) s
  | _ => .bad
theorem someQ_ap : someQ f s = (f s).bind kSq := (rfl)
theorem kSq_ap : kSq (.int x) s = .ok (some x) s := (rfl)
def kCt3 (p : PV) (lo hi : Option Int) (s : DS) : Re (PV × Bool) := kOp (cutG p lo hi) s
def kCt2 (u : QM) (p : PV) (lo : Option Int) (s : DS) : Re (PV × Bool) := (u s).bind (kCt3 p lo)
def kCt (l u : QM) (p : PV) (s : DS) : Re (PV × Bool) := (l s).bind (kCt2 u p)
theorem cutO_ap {l u : QM} : cutO f l u s = (f s).bind (kCt l u) := by
  unfold cutO
  congr 1
  funext p s1
  unfold kCt
  congr 1
  funext lo s2
  unfold kCt2
  congr 1
  funext hi s3
  unfold kCt3
  cases cutG p lo hi <;> rfl
theorem kCt_ap {l u : QM} : kCt l u p s = (l s).bind (kCt2 u p) := (rfl)
theorem kCt2_ap {u : QM} {lo : Option Int} : kCt2 u p lo s = (u s).bind (kCt3 p lo) := (rfl)
theorem kCt3_ap {lo hi : Option Int} : kCt3 p lo hi s = kOp (cutG p lo hi) s := (rfl)
def kCn4 (lo hi : Option Int) (p : PV) (s : DS) : Re (PV × Bool) := kOp (cutG p lo hi) s
def kCn3 (i : Nat) (lo hi : Option Int) (s : DS) : Re (PV × Bool) := (nameB i s).bind (kCn4 lo hi)
def kCn2 (i : Nat) (u : QM) (lo : Option Int) (s : DS) : Re (PV × Bool) := (u s).bind (kCn3 i lo)
def kCn (i : Nat) (l u : QM) (s : DS) (_ : PV) (_ : DS) : Re (PV × Bool) := (l s).bind (kCn2 i u)
theorem cutN_ap {l u : QM} : cutN i l u s = (nameB i s).bind (kCn i l u s) := by
  unfold cutN
  congr 1
  funext p s1
  unfold kCn
  congr 1
  funext lo s2
  unfold kCn2
  congr 1
  funext hi s3
  unfold kCn3
  congr 1
  funext q s4
  unfold kCn4
  cases cutG q lo hi <;> rfl
theorem kCn_ap {l u : QM} {s2 : DS} : kCn i l u s p s2 = (l s).bind (kCn2 i u) := (rfl)
theorem kCn2_ap {u : QM} {lo : Option Int} : kCn2 i u lo s = (u s).bind (kCn3 i lo) := (rfl)
theorem kCn3_ap {lo hi : Option Int} : kCn3 i lo hi s = (nameB i s).bind (kCn4 lo hi) := (rfl)
theorem kCn4_ap {lo hi : Option Int} : kCn4 lo hi p s = kOp (cutG p lo hi) s := (rfl)
theorem newK_ap : newK s = .ok (.dK [], true) s := (rfl)
theorem newT_ap : newT s = .ok (.dT [], true) s := (rfl)
/-! what is walked -/
theorem seqI_ap : seqI f s = (f s).bind seqP := (rfl)
theorem seqP_lst : seqP (.lst ps) s = .ok ps s := (rfl)
theorem seqP_tup : seqP (.tup b ps) s = .ok ps s := (rfl)
theorem seqP_scr : seqP (.scr ps) s = .ok ps s := (rfl)
def kR1 (p : PV) (s : DS) : Re (List PV) := match p with
  | .int j => if big62 j then .ok (rangeP 0 j.toNat) s else .bad
  | _ => .bad
theorem range1I_ap : range1I f s = (f s).bind kR1 := (rfl)
theorem big62_ok (h0 : -1000000000 ≤ x) (h1 : x ≤ 1000000000) : big62 x = true := decide_eq_true (by omega)
theorem kR1_ap (h0 : -1000000000 ≤ x) (h1 : x ≤ 1000000000) : kR1 (.int x) s = .ok (rangeP 0 x.toNat) s := by
  show (if big62 x then _ else _) = _
  rw [if_pos (big62_ok h0 h1)]
def kR2b (p q : PV) (s : DS) : Re (List PV) := match p, q with
  | .int i, .int j => if big62 i && big62 j then .ok (rangeP i (j - i).toNat) s else .bad
  | _, _ => .bad
def kR2 (f : EM) (p : PV) (s : DS) : Re (List PV) := (f s).bind (kR2b p)
theorem range2I_ap : range2I f f2 s = (f s).bind (kR2 f2) := (rfl)
theorem kR2_ap : kR2 f p s = (f s).bind (kR2b p) := (rfl)
theorem kR2b_ap (h0 : -1000000000 ≤ x) (h1 : x ≤ 1000000000) (g0 : -1000000000 ≤ y) (g1 : y ≤ 1000000000) : kR2b (.int x) (.int y) s = .ok (rangeP x (y - x).toNat) s := by
  show (if big62 x && big62 y then _ else _) = _
  rw [big62_ok h0 h1, big62_ok g0 g1]
  rfl
theorem forS_ap {bd : SM} : forS it tg bd s = (it s).bind (forL tg bd) := (rfl)
def kBody (r : Re Fl) : FR := match r with
  | .ok (.rt p fr) s => .ok p fr s.t
  | .ok .nx s => .ok .non false s.t
  | .ok .bk _ => .bad
  | .ok .ct _ => .bad
  | .exc x s => .exc x s.t
  | .bad => .bad
theorem bodyF_ap : bodyF n u ps t = kBody (u ⟨frameE n ps, t⟩) := (rfl)
theorem kBody_rt : kBody (.ok (.rt p fr) ⟨e, t⟩) = .ok p fr t := (rfl)
theorem kBody_nx : kBody (.ok .nx ⟨e, t⟩) = .ok .non false t := (rfl)
theorem kBody_exc {z : Exn} : kBody (.exc z ⟨e, t⟩) = .exc z t := (rfl)
theorem yesT_ap : yesT s = .ok true s := (rfl)
theorem ix0 {a : α} {l : List α} : (a :: l)[0]? = some a := (rfl)
theorem ix1 {a : α} {l : List α} {n : Nat} : (a :: l)[n + 1]? = l[n]? := (rfl)
theorem allG_ok {bs : List Bool} : allG (.lst (bs.map .bl)) = some (.bl (bs.all id)) := by
  have h : bools (bs.map PV.bl) = some bs := by
    induction bs with
    | nil => rfl
    | cons a l ih => simp [bools, ih]
  simp [allG, h]
theorem anyG_ok {bs : List Bool} : anyG (.lst (bs.map .bl)) = some (.bl (bs.any id)) := by
  have h : bools (bs.map PV.bl) = some bs := by
    induction bs with
    | nil => rfl
    | cons a l ih => simp [bools, ih]
  simp [anyG, h]
theorem intsP_ok {xs : List Int} : intsP (xs.map .int) = some xs := by
  induction xs with
  | nil => rfl
  | cons a l ih => simp [intsP, ih]
theorem sumG_ok {xs : List Int} : sumG (.lst (xs.map .int)) = some (.int xs.sum) := by simp [sumG, intsP_ok]
theorem maxG_ok {xs : List Int} {m : Int} (hm : maxL xs = some m) : maxG (.lst (xs.map .int)) = some (.int m) := by simp [maxG, intsP_ok, hm]
theorem minG_ok {xs : List Int} {m : Int} (hm : minL xs = some m) : minG (.lst (xs.map .int)) = some (.int m) := by simp [minG, intsP_ok, hm]
/-! loops, turn by turn -/
def kFor2 (tg : Tg) (bd : SM) (ps : List PV) (fl : Fl) (s : DS) : Re Fl := match fl with
  | .nx => forL tg bd ps s
  | .ct => forL tg bd ps s
  | .bk => .ok .nx s
  | .rt p fr => .ok (.rt p fr) s
def kFor (tg : Tg) (bd : SM) (ps : List PV) (o : Option DE) (t : DT) : Re Fl := match o with
  | some e => (bd ⟨e, t⟩).bind (kFor2 tg bd ps)
  | none => .bad
theorem forL_nil {bd : SM} : forL tg bd [] s = .ok .nx s := (rfl)
theorem forL_ap {bd : SM} : forL tg bd (p :: ps) ⟨e, t⟩ = kFor tg bd ps (asgT tg p e) t := by
  unfold kFor
  show (match asgT tg p e with
    | none => _
    | some e' => _) = _
  cases asgT tg p e <;> rfl
theorem kFor_ap {bd : SM} : kFor tg bd ps (some e) t = (bd ⟨e, t⟩).bind (kFor2 tg bd ps) := (rfl)
theorem kFor2_nx {bd : SM} : kFor2 tg bd ps .nx s = forL tg bd ps s := (rfl)
theorem kFor2_ct {bd : SM} : kFor2 tg bd ps .ct s = forL tg bd ps s := (rfl)
theorem kFor2_bk {bd : SM} : kFor2 tg bd ps .bk s = .ok .nx s := (rfl)
theorem kFor2_rt {bd : SM} : kFor2 tg bd ps (.rt p fr) s = .ok (.rt p fr) s := (rfl)
theorem lenA_lst : lenA (.lst ps) = some (.int ps.length) := (rfl)
theorem lenA_tup : lenA (.tup b ps) = some (.int ps.length) := (rfl)
theorem lenA_scr : lenA (.scr ps) = some (.int ps.length) := (rfl)
theorem lenA_dK {l : List (Key × PV)} : lenA (.dK l) = some (.int l.length) := (rfl)
theorem lenA_dT {l : List (List Key × PV)} : lenA (.dT l) = some (.int l.length) := (rfl)
theorem maxA_lst {xs : List Int} {m : Int} (hm : maxL xs = some m) : maxA (.lst (xs.map .int)) = some (.int m) := by simp [maxA, maxG, intsP_ok, hm]
theorem minA_lst {xs : List Int} {m : Int} (hm : minL xs = some m) : minA (.lst (xs.map .int)) = some (.int m) := by simp [minA, minG, intsP_ok, hm]
theorem maxA_tup {xs : List Int} {m : Int} (hm : maxL xs = some m) : maxA (.tup b (xs.map .int)) = some (.int m) := by simp [maxA, maxG, maxTG, intsP_ok, hm]
theorem minA_tup {xs : List Int} {m : Int} (hm : minL xs = some m) : minA (.tup b (xs.map .int)) = some (.int m) := by simp [minA, minG, minTG, intsP_ok, hm]
end
end DR
/-! DR: comprehensions of two clauses, reckoned; ranges; rows of ints. -/
namespace DR
open PySem
section
variable {vs vs1 : List Nat} {tg tg1 : Tg} {tt1 : TM} {f : EM} {it it1 : IM}
theorem wipeE_eq_of {e e' : DE} (hsub : ∀ i ∈ vs1, i ∈ vs) (h : wipeE vs1 e = wipeE vs1 e') : wipeE vs e = wipeE vs e' := by
  rw [← wipeE_in e hsub, ← wipeE_in e' hsub, h]
theorem lc2L_pure {e0 : DE} {t0 : DT} (Q : PV → List PV) (g : PV → PV → Option PV) (hsub : ∀ i ∈ vs1, i ∈ vs) : ∀ (ps acc : List PV) (s : DS),
    (∀ p ∈ ps, ∃ e1 s2, asgT tg p e0 = some e1 ∧ it1 ⟨e1, t0⟩ = .ok (Q p) s2 ∧ s2.t = t0 ∧ wipeE vs s2.e = e0 ∧ ∀ q ∈ Q p, ∃ e3 b s4, asgT tg1 q (wipeE vs1 s2.e) = some e3 ∧ tt1 ⟨e3, t0⟩ = .ok b s4 ∧ ((b = true ∧ ∃ y s5, f s4 = .ok y s5 ∧ g p q = some y ∧ wipeE vs1 s5.e = wipeE vs1 s2.e ∧ s5.t = t0) ∨ (b = false ∧ g p q = none ∧ wipeE vs1 s4.e = wipeE vs1 s2.e ∧ s4.t = t0))) →
    wipeE vs s.e = e0 → s.t = t0 → acc.length + (ps.flatMap Q).length ≤ sizeLine →
    ∃ s', lc2L tg yesT it1 tg1 tt1 f vs vs1 ps acc s = .ok (acc ++ ps.flatMap fun p => (Q p).filterMap (g p)) s' ∧ wipeE vs s'.e = e0 ∧ s'.t = t0
  | [], acc, s, h, i, it, hl => ⟨s, by simp [lc2L], i, it⟩
  | p :: ps, acc, s, h, i, it, hl => by
    obtain ⟨e1, s2, h1, h2, h3, h4, h5⟩ := h p List.mem_cons_self
    simp only [List.flatMap_cons, List.length_append] at hl
    obtain ⟨s6, k1, k2, k3⟩ := lcL_pure (vs := vs1) (tg := tg1) (tt := tt1) (f := f) (e0 := wipeE vs1 s2.e) (t0 := t0) (g p) (Q p) acc s2 h5 rfl h3 (by omega)
    have hw : wipeE vs s6.e = e0 := (wipeE_eq_of hsub k2).trans h4
    have hlen : ((Q p).filterMap (g p)).length ≤ (Q p).length := List.length_filterMap_le _ _
    obtain ⟨s7, m1, m2, m3⟩ := lc2L_pure Q g hsub ps (acc ++ (Q p).filterMap (g p)) s6 (fun q hq => h q (List.mem_cons_of_mem _ hq)) hw k3 (by simp only [List.length_append]; omega)
    refine ⟨s7, ?_, m2, m3⟩
    rw [lc2L_cons, i, h1]
    simp only [yesT_ap, bind_ok, if_true, it, h2, k1, m1, List.flatMap_cons, List.append_assoc]
theorem lc2O_pure {s s1 : DS} {ps : List PV} (Q : PV → List PV) (g : PV → PV → Option PV) (hsub : ∀ i ∈ vs1, i ∈ vs) (hit : it s = .ok ps s1)
    (h : ∀ p ∈ ps, ∃ e1 s2, asgT tg p (wipeE vs s1.e) = some e1 ∧ it1 ⟨e1, s1.t⟩ = .ok (Q p) s2 ∧ s2.t = s1.t ∧ wipeE vs s2.e = wipeE vs s1.e ∧ ∀ q ∈ Q p, ∃ e3 b s4, asgT tg1 q (wipeE vs1 s2.e) = some e3 ∧ tt1 ⟨e3, s1.t⟩ = .ok b s4 ∧ ((b = true ∧ ∃ y s5, f s4 = .ok y s5 ∧ g p q = some y ∧ wipeE vs1 s5.e = wipeE vs1 s2.e ∧ s5.t = s1.t) ∨ (b = false ∧ g p q = none ∧ wipeE vs1 s4.e = wipeE vs1 s2.e ∧ s4.t = s1.t)))
    (hl : (ps.flatMap Q).length ≤ sizeLine) : lc2O it tg yesT it1 tg1 tt1 f vs vs1 s = .ok (.lst (ps.flatMap fun p => (Q p).filterMap (g p)), true) ⟨restE vs s1.e s1.e, s1.t⟩ := by
  obtain ⟨s', h1, h2, h3⟩ := lc2L_pure (it1 := it1) (tg := tg) (tg1 := tg1) (tt1 := tt1) (f := f) (e0 := wipeE vs s1.e) (t0 := s1.t) Q g hsub ps [] s1 h rfl rfl (by simpa using hl)
  unfold lc2O
  rw [hit, bind_ok, h1, noX_ok, bind_ok, h3, restE_eq h2]
  simp
end
/-! ### nothing changed at all -/
mutual
theorem asgT_wipe {vs : List Nat} : ∀ (tg : Tg) (p : PV) (e e1 : DE), tgIn tg vs = true → asgT tg p e = some e1 → wipeE vs e1 = wipeE vs e
  | .nm i, p, e, e1, h, z => by
    simp only [asgT, Option.some.injEq] at z
    subst z
    have h : i ∈ vs := of_decide_eq_true h
    refine List.ext_getElem? fun j => ?_
    rw [wipeE_get, wipeE_get]
    by_cases hj : j ∈ vs
    · rw [if_pos hj, if_pos hj]
      by_cases hij : i = j
      · subst hij
        by_cases hl : i < e.length
        · rw [List.getElem?_set_self hl, List.getElem?_eq_getElem hl]
          rfl
        · rw [List.getElem?_eq_none (by rw [List.length_set]; omega), List.getElem?_eq_none (by omega)]
      · rw [List.getElem?_set_ne hij]
    · rw [if_neg hj, if_neg hj, List.getElem?_set_ne (show i ≠ j from fun z => hj (by rw [← z]; exact h))]
  | .tp ts, p, e, e1, h, z => by
    cases p with
    | tup c ps => exact asgTs_wipe ts ps e e1 h (by simpa [asgT] using z)
    | _ => simp [asgT] at z
theorem asgTs_wipe {vs : List Nat} : ∀ (ts : List Tg) (ps : List PV) (e e1 : DE), tgsIn ts vs = true → asgTs ts ps e = some e1 → wipeE vs e1 = wipeE vs e
  | [], ps, e, e1, h, z => by
    cases ps with
    | nil => simp only [asgTs, Option.some.injEq] at z; rw [z]
    | cons a b => simp [asgTs] at z
  | t :: ts, ps, e, e1, h, z => by
    cases ps with
    | nil => simp [asgTs] at z
    | cons a b =>
      simp only [asgTs] at z
      simp only [tgsIn, Bool.and_eq_true] at h
      cases e2 : asgT t a e with
      | none => rw [e2] at z; cases z
      | some e3 =>
        rw [e2] at z
        exact (asgTs_wipe ts b e3 e1 h.2 z).trans (asgT_wipe t a e e3 h.1 e2)
end
section
variable {vs vs1 : List Nat} {tg tg1 : Tg} {tt tt1 : TM} {f : EM} {it it1 : IM} {s s1 : DS} {ps : List PV}
theorem lcO_map0 (g : PV → PV) (hit : it s = .ok ps s1) (h : ∀ p ∈ ps, ∃ e1, asgT tg p (wipeE vs s1.e) = some e1 ∧ f ⟨e1, s1.t⟩ = .ok (g p) ⟨e1, s1.t⟩) (hl : ps.length ≤ sizeLine) (hin : tgIn tg vs = true := by rfl) :
    lcO it tg yesT f vs s = .ok (.lst (ps.map g), true) ⟨restE vs s1.e s1.e, s1.t⟩ :=
  lcO_map g hit (fun p hp => by
    obtain ⟨e1, h1, h2⟩ := h p hp
    exact ⟨e1, _, h1, h2, (asgT_wipe tg p _ _ hin h1).trans (wipeE_in _ fun _ z => z), rfl⟩) hl
theorem lcO_flt0 (c : PV → Bool) (g : PV → PV) (hit : it s = .ok ps s1) (h : ∀ p ∈ ps, ∃ e1, asgT tg p (wipeE vs s1.e) = some e1 ∧ tt ⟨e1, s1.t⟩ = .ok (c p) ⟨e1, s1.t⟩ ∧ (c p = true → f ⟨e1, s1.t⟩ = .ok (g p) ⟨e1, s1.t⟩)) (hl : ps.length ≤ sizeLine) (hin : tgIn tg vs = true := by rfl) :
    lcO it tg tt f vs s = .ok (.lst ((ps.filter c).map g), true) ⟨restE vs s1.e s1.e, s1.t⟩ := by
  rw [lcO_pure (fun p => if c p = true then some (g p) else none) hit (fun p hp => ?_) hl]
  · congr 3
    clear h hl hit
    induction ps with
    | nil => rfl
    | cons p ps ih => by_cases hc : c p = true <;> simp [hc, ih]
  · obtain ⟨e1, h1, h2, h3⟩ := h p hp
    have hw := (asgT_wipe tg p _ _ hin h1).trans (wipeE_in _ fun _ z => z)
    by_cases hc : c p = true
    · exact ⟨e1, true, ⟨e1, s1.t⟩, h1, by rw [h2, hc], .inl ⟨rfl, g p, _, h3 hc, by rw [if_pos hc], hw, rfl⟩⟩
    · exact ⟨e1, false, ⟨e1, s1.t⟩, h1, by rw [h2, Bool.eq_false_iff.mpr hc], .inr ⟨rfl, by rw [if_neg hc], hw, rfl⟩⟩
theorem lc2O_0 (Q : PV → List PV) (c : PV → PV → Bool) (g : PV → PV → PV) (hit : it s = .ok ps s1)
    (h : ∀ p ∈ ps, ∃ e1, asgT tg p (wipeE vs s1.e) = some e1 ∧ it1 ⟨e1, s1.t⟩ = .ok (Q p) ⟨e1, s1.t⟩ ∧ ∀ q ∈ Q p, ∃ e3, asgT tg1 q (wipeE vs1 e1) = some e3 ∧ tt1 ⟨e3, s1.t⟩ = .ok (c p q) ⟨e3, s1.t⟩ ∧ (c p q = true → f ⟨e3, s1.t⟩ = .ok (g p q) ⟨e3, s1.t⟩))
    (hl : (ps.flatMap Q).length ≤ sizeLine) (hin : tgIn tg vs = true := by rfl) (hin1 : tgIn tg1 vs1 = true := by rfl) (hsub : ∀ i ∈ vs1, i ∈ vs := by decide) :
    lc2O it tg yesT it1 tg1 tt1 f vs vs1 s = .ok (.lst (ps.flatMap fun p => ((Q p).filter (c p)).map (g p)), true) ⟨restE vs s1.e s1.e, s1.t⟩ := by
  rw [lc2O_pure Q (fun p q => if c p q = true then some (g p q) else none) hsub hit (fun p hp => ?_) hl]
  · have e : ∀ p, (Q p).filterMap (fun q => if c p q = true then some (g p q) else none) = ((Q p).filter (c p)).map (g p) := fun p => by
      induction Q p with
      | nil => rfl
      | cons q qs ih => by_cases hc : c p q = true <;> simp [hc, ih]
    simp only [e]
  · obtain ⟨e1, h1, h2, h3⟩ := h p hp
    have hw := (asgT_wipe tg p _ _ hin h1).trans (wipeE_in _ fun _ z => z)
    refine ⟨e1, _, h1, h2, rfl, hw, fun q hq => ?_⟩
    obtain ⟨e3, k1, k2, k3⟩ := h3 q hq
    have hw3 := (asgT_wipe tg1 q _ _ hin1 k1).trans (wipeE_in _ fun _ z => z)
    by_cases hc : c p q = true
    · exact ⟨e3, true, ⟨e3, s1.t⟩, k1, by rw [k2, hc], .inl ⟨rfl, g p q, _, k3 hc, by rw [if_pos hc], hw3, rfl⟩⟩
    · exact ⟨e3, false, ⟨e3, s1.t⟩, k1, by rw [k2, Bool.eq_false_iff.mpr hc], .inr ⟨rfl, by rw [if_neg hc], hw3, rfl⟩⟩
end
theorem pow_10_18 : powI (.int 10) (.int 18) = some (.int 1000000000000000000) := by
  rw [pow_ok (by decide) (by decide) (by decide)]
  rfl
theorem rangeP0 (n : Nat) : rangeP 0 n = (List.range n).map fun i : Nat => PV.int (i : Int) := by
  unfold rangeP
  congr 1
  funext i
  rw [Int.zero_add]
theorem mem_rangeP0 {n : Nat} {p : PV} (h : p ∈ rangeP 0 n) : ∃ i : Nat, i < n ∧ p = .int i := by
  rw [rangeP0] at h
  obtain ⟨i, h1, rfl⟩ := List.mem_map.mp h
  exact ⟨i, List.mem_range.mp h1, rfl⟩
theorem rangeP0_get {n i : Nat} {p : PV} (h : (rangeP 0 n)[i]? = some p) : i < n ∧ p = .int (i : Int) := by
  have h1 := (List.getElem?_eq_some_iff.mp h).1
  rw [rangeP_len] at h1
  have h2 := rangeP_get h
  rw [Int.zero_add] at h2
  exact ⟨h1, h2⟩
/-- rows of ints -/
abbrev rowP (r : List Int) : PV := .tup false (r.map .int)
abbrev shP (sh : List (List Int)) : PV := .tup false (sh.map rowP)
def at2 (sh : List (List Int)) (a b : Nat) : Int := (sh.getD a []).getD b 0
theorem ix_sh {c : Bool} {sh : List (List Int)} {a : Nat} (h : a < sh.length) : ixG (.tup c (sh.map rowP)) (.int a) = some (rowP (sh.getD a [])) := by
  show L2.atI _ _ = _
  apply atI_nat
  rw [List.getElem?_map, List.getElem?_eq_getElem h, List.getD_eq_getElem?_getD, List.getElem?_eq_getElem h]
  rfl
theorem ix_row {c : Bool} {r : List Int} {b : Nat} (h : b < r.length) : ixG (.tup c (r.map .int)) (.int b) = some (.int (r.getD b 0)) := by
  show L2.atI _ _ = _
  apply atI_nat
  rw [List.getElem?_map, List.getElem?_eq_getElem h, List.getD_eq_getElem?_getD, List.getElem?_eq_getElem h]
  rfl
theorem ix_lrow {r : List Int} {b : Nat} (h : b < r.length) : ixG (.lst (r.map .int)) (.int b) = some (.int (r.getD b 0)) := by
  show L2.atI _ _ = _
  apply atI_nat
  rw [List.getElem?_map, List.getElem?_eq_getElem h, List.getD_eq_getElem?_getD, List.getElem?_eq_getElem h]
  rfl
theorem ix_shI {c : Bool} {sh : List (List Int)} {i : Int} (h0 : 0 ≤ i) (h : i.toNat < sh.length) : ixG (.tup c (sh.map rowP)) (.int i) = some (rowP (sh.getD i.toNat [])) := by
  have := ix_sh (c := c) h
  rwa [Int.toNat_of_nonneg h0] at this
theorem ix_rowI {c : Bool} {r : List Int} {i : Int} (h0 : 0 ≤ i) (h : i.toNat < r.length) : ixG (.tup c (r.map .int)) (.int i) = some (.int (r.getD i.toNat 0)) := by
  have := ix_row (c := c) h
  rwa [Int.toNat_of_nonneg h0] at this
end DR
/-! DR: data compared; pairs of ints. -/
namespace DR
open PySem
/-- data of at most n deep -/
def dOk (n : Nat) (p : PV) : Prop := ∃ d, toD p = some d ∧ d.canLay0 = true ∧ d.depth ≤ n
def dsOk (n : Nat) (ps : List PV) : Prop := ∃ ds, toDs ps = some ds ∧ PyData.canLayAll0 ds = true ∧ PyData.depthAll ds ≤ n
theorem dOk_int (n : Nat) (i : Int) : dOk n (.int i) := ⟨.int i, rfl, by simp [PyData.canLay0], by simp [PyData.depth]⟩
theorem dOk_bl (n : Nat) (i : Bool) : dOk n (.bl i) := ⟨.bool i, rfl, by simp [PyData.canLay0], by simp [PyData.depth]⟩
theorem dOk_non (n : Nat) : dOk n .non := ⟨.none, rfl, by simp [PyData.canLay0], by simp [PyData.depth]⟩
theorem dsOk_all {n : Nat} : ∀ {ps : List PV}, (∀ p ∈ ps, dOk n p) → dsOk n ps
  | [], _ => ⟨[], rfl, by simp [PyData.canLayAll0], by simp [PyData.depthAll]⟩
  | p :: ps, h => by
    obtain ⟨d, h1, h2, h3⟩ := h p List.mem_cons_self
    obtain ⟨ds, g1, g2, g3⟩ := dsOk_all fun q hq => h q (List.mem_cons_of_mem _ hq)
    exact ⟨d :: ds, by simp [toDs, h1, g1], by simp [PyData.canLayAll0, h2, g2], by simp [PyData.depthAll]; omega⟩
theorem dOk_tup {n : Nat} {c : Bool} {ps : List PV} (h : ∀ p ∈ ps, dOk n p) : dOk (n + 1) (.tup c ps) := by
  obtain ⟨ds, h1, h2, h3⟩ := dsOk_all h
  exact ⟨.tuple ds, by simp [toD, h1], by simp [PyData.canLay0, h2], by simp [PyData.depth]; omega⟩
theorem dOk_lst {n : Nat} {ps : List PV} (h : ∀ p ∈ ps, dOk n p) : dOk (n + 1) (.lst ps) := by
  obtain ⟨ds, h1, h2, h3⟩ := dsOk_all h
  exact ⟨.list ds, by simp [toD, h1], by simp [PyData.canLay0, h2], by simp [PyData.depth]; omega⟩
theorem dOk.ok {n : Nat} {p : PV} (h : dOk n p) (hn : n ≤ 64) : okD p = true := by
  obtain ⟨d, h1, h2, h3⟩ := h
  simp [okD, h1, SeqAt.shaped, h2]
  omega
theorem eqD_self {p : PV} (h : okD p = true) : eqD p p = true := by
  obtain ⟨d, h1, h2⟩ := okD_data h
  unfold eqD
  rw [h1]
  exact PySem.SeqAt.eqv_refl d (SeqAt.canLay_of_shaped h2)
theorem eqG_self {p : PV} (n : Bool) (h : okD p = true) : eqG n p p = some (.bl (!n)) := by
  unfold eqG
  rw [h, eqD_self h]
  cases n <;> rfl
/-- pairs of ints -/
abbrev pairP (x : Int × Int) : PV := .tup false [.int x.1, .int x.2]
theorem dOk_pair {n : Nat} (x : Int × Int) : dOk (n + 1) (pairP x) := dOk_tup fun p hp => by
  simp only [List.mem_cons, List.not_mem_nil, or_false] at hp
  rcases hp with rfl | rfl <;> exact dOk_int _ _
theorem okD_pairs (l : List (Int × Int)) : okD (.lst (l.map pairP)) = true := (dOk_lst (n := 1) fun p hp => by
  obtain ⟨x, _, rfl⟩ := List.mem_map.mp hp
  exact dOk_pair x).ok (by decide)
theorem okD_pair (x : Int × Int) : okD (pairP x) = true := (dOk_pair (n := 0) x).ok (by decide)
theorem eqv_pair (x y : Int × Int) : PyData.eqv (.tuple [.int x.1, .int x.2]) (.tuple [.int y.1, .int y.2]) = decide (x = y) := by
  obtain ⟨a, b⟩ := x
  obtain ⟨c, d⟩ := y
  simp only [PyData.eqv, PyData.eqvAll, Prod.mk.injEq]
  by_cases h : a = c <;> by_cases g : b = d <;> simp [h, g]
theorem eqG_pair (n : Bool) (x y : Int × Int) : eqG n (pairP x) (pairP y) = some (.bl (n != decide (x = y))) := by
  have e : eqD (pairP x) (pairP y) = decide (x = y) := eqv_pair x y
  unfold eqG
  rw [okD_pair, okD_pair, e]
  rfl
theorem toDs_pairs : ∀ l : List (Int × Int), toDs (l.map pairP) = some (l.map fun x => PyData.tuple [.int x.1, .int x.2])
  | [] => rfl
  | x :: l => by simp [toDs, toD, toDs_pairs l]
theorem any_pair (x : Int × Int) (l : List (Int × Int)) : ((l.map fun x => PyData.tuple [.int x.1, .int x.2]).any fun z => PyData.eqv z (.tuple [.int x.1, .int x.2])) = decide (x ∈ l) := by
  induction l with
  | nil => simp
  | cons y l ih =>
    simp only [List.map_cons, List.any_cons, ih, eqv_pair, List.mem_cons]
    by_cases h : y = x
    · simp [h]
    · simp [h, Ne.symm h]
theorem memD_pairs (x : Int × Int) (l : List (Int × Int)) : memD (pairP x) (l.map pairP) = some (decide (x ∈ l)) := by
  have h1 := okD_pairs l
  have h2 := okD_pair x
  have h3 : okD (.tup false (l.map pairP)) = true := (dOk_tup (n := 1) fun p hp => by
    obtain ⟨x, _, rfl⟩ := List.mem_map.mp hp
    exact dOk_pair x).ok (by decide)
  simp only [okD, toD, toDs_pairs, Option.map_some] at h1 h2 h3
  unfold memD
  rw [toDs_pairs]
  have e : toD (pairP x) = some (.tuple [.int x.1, .int x.2]) := rfl
  rw [e]
  simp only
  rw [h1, h3, show SeqAt.shaped (.tuple [.int x.1, .int x.2]) = true from h2, any_pair]
  rfl
theorem inG_pairs (n : Bool) (x : Int × Int) (l : List (Int × Int)) : inG n (pairP x) (.lst (l.map pairP)) = some (.bl (n != decide (x ∈ l))) := by
  show (memD (pairP x) (l.map pairP)).map _ = _
  rw [memD_pairs]
  rfl
/-- largest, least -/
theorem maxL_some {xs : List Int} (h : xs ≠ []) : ∃ m, maxL xs = some m ∧ m ∈ xs ∧ ∀ y ∈ xs, y ≤ m := by
  cases xs with
  | nil => exact absurd rfl h
  | cons a l => exact ⟨_, rfl, maxL_spec rfl⟩
theorem minL_some {xs : List Int} (h : xs ≠ []) : ∃ m, minL xs = some m ∧ m ∈ xs ∧ ∀ y ∈ xs, m ≤ y := by
  cases xs with
  | nil => exact absurd rfl h
  | cons a l => exact ⟨_, rfl, minL_spec rfl⟩
theorem ix_last {c : Bool} {ps : List PV} (h : 0 < ps.length) : ixG (.tup c ps) (.int (-1)) = ps[ps.length - 1]? := by
  show L2.atI _ _ = _
  unfold L2.atI L2.ixN
  have h1 : ¬ (0 : Int) ≤ -1 := by omega
  have h2 : -(ps.length : Int) ≤ -1 := by omega
  simp only [h1, if_false, h2, if_true]
  have h3 : (-1 + (ps.length : Int)).toNat = ps.length - 1 := by omega
  rw [h3]
  rfl
theorem ix_lastL {ps : List PV} (h : 0 < ps.length) : ixG (.lst ps) (.int (-1)) = ps[ps.length - 1]? := ix_last (c := true) h
/-- the places of a board, row by row -/
def grid (h w : Nat) (P : Nat → Nat → Bool) : List (Int × Int) := (List.range h).flatMap fun a => ((List.range w).filter fun b => P a b).map fun b : Nat => ((a : Int), (b : Int))
def toI : PV → Int
  | .int i => i
  | _ => 0
theorem grid_eq (h w : Nat) (P : Nat → Nat → Bool) : ((rangeP 0 h).flatMap fun p => ((rangeP 0 w).filter fun q => P (toI p).toNat (toI q).toNat).map fun q => PV.tup false [p, q]) = (grid h w P).map pairP := by
  unfold grid
  rw [rangeP0, rangeP0, List.flatMap_map, List.map_flatMap]
  congr 1
  funext a
  rw [List.map_map, List.filter_map, List.map_map]
  simp only [toI, Int.toNat_natCast, Function.comp_def]
theorem mem_grid {h w : Nat} {P : Nat → Nat → Bool} {x : Int × Int} : x ∈ grid h w P ↔ ∃ a b : Nat, a < h ∧ b < w ∧ P a b = true ∧ x = ((a : Int), (b : Int)) := by
  unfold grid
  simp only [List.mem_flatMap, List.mem_range, List.mem_map, List.mem_filter]
  constructor
  · rintro ⟨a, ha, b, ⟨hb, hp⟩, rfl⟩
    exact ⟨a, b, ha, hb, hp, rfl⟩
  · rintro ⟨a, b, ha, hb, hp, rfl⟩
    exact ⟨a, ha, b, ⟨hb, hp⟩, rfl⟩
theorem grid_filter (h w : Nat) (P Q : Nat → Nat → Bool) : (grid h w P).filter (fun x => Q x.1.toNat x.2.toNat) = grid h w fun a b => P a b && Q a b := by
  unfold grid
  rw [List.filter_flatMap]
  congr 1
  funext a
  rw [List.filter_map, List.filter_filter]
  simp only [Function.comp_def, Int.toNat_natCast]
  congr 1
  congr 1
  funext b
  exact Bool.and_comm _ _
theorem grid_len (h w : Nat) (P : Nat → Nat → Bool) : (grid h w P).length ≤ h * w := by
  unfold grid
  rw [List.length_flatMap]
  have : ∀ n : Nat, ((List.range n).map fun a => (((List.range w).filter fun b => P a b).map fun b : Nat => ((a : Int), (b : Int))).length).sum ≤ n * w := fun n => by
    induction n with
    | zero => simp
    | succ n ih =>
      rw [List.range_succ, List.map_append, List.sum_append, Nat.succ_mul]
      have := List.length_filter_le (fun b => P n b) (List.range w)
      simp only [List.map_cons, List.map_nil, List.sum_cons, List.sum_nil, List.length_map, Nat.add_zero] at *
      rw [List.length_range] at this
      omega
  exact this h
theorem addI_ap (i j : Int) : addI (.int i) (.int j) = some (.int (i + j)) := (rfl)
end DR
namespace K63
open PySem PySem.Spec PyProof.Rows L2 DR
def top (i : Nat) : Stmt := PySem.Challenge.pw_doorroads_k63_whole_common_cells_of_stee.main.body.getD i (.Pass ⟨0, 0, 0, 0⟩)
abbrev s__law_hand : Stmt := top 23
abbrev N__law_hand : List Str := ["script", "cells", "cell"]
def cp0__law_hand : OM := lcO (seqI (plainE (cutN 0 noQ (someQ (constE (.int 63)))))) (.nm 2) yesT (un1E absG (un1E intG (nameB 2))) [2]
def b__law_hand : SM := (seqS (setS 1 cp0__law_hand)
  (retS (lstE (consA (nameE 1) (consA (constE (.int 0)) (consA (constE (.int 0)) (consA (plainE (binO addO (constE (.int 63)) (plainE (binO mulO (constE (.int 277)) (un1E lenA (nameB 1)))))) (consA (constE (.int 0)) nilA))))))))
def F__law_hand : SemF := bodyF 3 b__law_hand
theorem sc__law_hand : FnScope N__law_hand ["script"] (defScope s__law_hand) := ⟨rfl, rfl, rfl, by decide +kernel, rfl, by decide +kernel, by decide +kernel⟩
abbrev s_is_integer : Stmt := top 1
abbrev N_is_integer : List Str := ["thing"]
def b_is_integer : SM := (retS (sharedE (andE (un1E (isiG "int") (nameB 0)) (notE (un1E (isiG "bool") (nameB 0))))))
def F_is_integer : SemF := bodyF 1 b_is_integer
theorem sc_is_integer : FnScope N_is_integer ["thing"] (defScope s_is_integer) := ⟨rfl, rfl, rfl, by decide +kernel, rfl, by decide +kernel, by decide +kernel⟩
abbrev s_is_within : Stmt := top 2
abbrev N_is_within : List Str := ["thing", "least", "most"]
def b_is_within : SM := (retS (sharedE (andE (plainE (callO F_is_integer (consA (nameE 0) nilA))) (chainE leI leI (nameE 1) (nameE 0) (nameE 2)))))
def F_is_within : SemF := bodyF 3 b_is_within
theorem sc_is_within : FnScope N_is_within ["thing", "least", "most"] (defScope s_is_within) := ⟨rfl, rfl, rfl, by decide +kernel, rfl, by decide +kernel, by decide +kernel⟩
abbrev s_check_sides : Stmt := top 11
abbrev N_check_sides : List Str := ["high", "wide"]
def b_check_sides : SM := (ifS (orT (notT (testE (plainE (callO F_is_within (consA (nameE 0) (consA (constE (.int 2)) (consA (constE (.int 8)) nilA))))))) (notT (testE (plainE (callO F_is_within (consA (nameE 1) (consA (constE (.int 2)) (consA (constE (.int 8)) nilA)))))))) badS nextS)
def F_check_sides : SemF := bodyF 2 b_check_sides
theorem sc_check_sides : FnScope N_check_sides ["high", "wide"] (defScope s_check_sides) := ⟨rfl, rfl, rfl, by decide +kernel, rfl, by decide +kernel, by decide +kernel⟩
abbrev s_is_tuple : Stmt := top 3
abbrev N_is_tuple : List Str := ["thing", "least", "most"]
def b_is_tuple : SM := (retS (sharedE (andE (un1E (isiG "tuple") (nameB 0)) (chainE leI leI (nameE 1) (un1E lenA (nameB 0)) (nameE 2)))))
def F_is_tuple : SemF := bodyF 3 b_is_tuple
theorem sc_is_tuple : FnScope N_is_tuple ["thing", "least", "most"] (defScope s_is_tuple) := ⟨rfl, rfl, rfl, by decide +kernel, rfl, by decide +kernel, by decide +kernel⟩
abbrev s_is_heights : Stmt := top 10
abbrev N_is_heights : List Str := ["high", "wide", "thing", "a", "b", "x", "y", "row", "one"]
def cp0_is_heights : OM := lcO (seqI (nameE 2)) (.nm 7) yesT (plainE (callO F_is_tuple (consA (nameE 7) (consA (nameE 1) (consA (nameE 1) nilA))))) [7]
def cp1_is_heights : OM := lc2O (seqI (nameE 2)) (.nm 7) yesT (seqI (nameE 7)) (.nm 8) yesT (plainE (callO F_is_within (consA (nameE 8) (consA (negE (constE (.int 100))) (consA (constE (.int 100)) nilA))))) [7, 8] [8]
def bd0_is_heights : SM := (ifS (andT (testE (binE ltI (plainE (binO addO (nameE 3) (nameE 5))) (nameE 0))) (andT (testE (chainE leI ltI (constE (.int 0)) (plainE (binO addO (nameE 4) (nameE 6))) (nameE 1))) (testE (binE gtI (un1E absG (binE subI (ixE (ixN 2 (nameE 3)) (nameE 4)) (ixE (ixN 2 (plainE (binO addO (nameE 3) (nameE 5)))) (plainE (binO addO (nameE 4) (nameE 6)))))) (constE (.int 1)))))) (retS (sharedE (constE (.bl false)))) nextS)
def it0_is_heights : IM := (seqI (tupE (consA (tupE (consA (constE (.int 0)) (consA (constE (.int 1)) nilA))) (consA (tupE (consA (constE (.int 1)) (consA (negE (constE (.int 1))) nilA))) (consA (tupE (consA (constE (.int 1)) (consA (constE (.int 0)) nilA))) (consA (tupE (consA (constE (.int 1)) (consA (constE (.int 1)) nilA))) nilA))))))
def lp0_is_heights : SM := forS it0_is_heights (.tp [(.nm 5), (.nm 6)]) bd0_is_heights
def bd1_is_heights : SM := lp0_is_heights
def it1_is_heights : IM := (range1I (nameE 1))
def lp1_is_heights : SM := forS it1_is_heights (.nm 4) bd1_is_heights
def bd2_is_heights : SM := lp1_is_heights
def it2_is_heights : IM := (range1I (nameE 0))
def lp2_is_heights : SM := forS it2_is_heights (.nm 3) bd2_is_heights
def b_is_heights : SM := (seqS (exprS (plainE (callO F_check_sides (consA (nameE 0) (consA (nameE 1) nilA)))))
  (seqS (ifS (orT (notT (testE (plainE (callO F_is_tuple (consA (nameE 2) (consA (nameE 0) (consA (nameE 0) nilA))))))) (notT (testE (un1E allG (plainE cp0_is_heights))))) (retS (sharedE (constE (.bl false)))) nextS)
  (seqS (ifS (notT (testE (un1E allG (plainE cp1_is_heights)))) (retS (sharedE (constE (.bl false)))) nextS)
  (seqS lp2_is_heights
  (retS (sharedE (constE (.bl true))))))))
def F_is_heights : SemF := bodyF 9 b_is_heights
theorem sc_is_heights : FnScope N_is_heights ["high", "wide", "thing"] (defScope s_is_heights) := ⟨rfl, rfl, rfl, by decide +kernel, rfl, by decide +kernel, by decide +kernel⟩
abbrev s_check_heights : Stmt := top 12
abbrev N_check_heights : List Str := ["high", "wide", "thing"]
def b_check_heights : SM := (ifS (notT (testE (plainE (callO F_is_heights (consA (nameE 0) (consA (nameE 1) (consA (nameE 2) nilA))))))) badS nextS)
def F_check_heights : SemF := bodyF 3 b_check_heights
theorem sc_check_heights : FnScope N_check_heights ["high", "wide", "thing"] (defScope s_check_heights) := ⟨rfl, rfl, rfl, by decide +kernel, rfl, by decide +kernel, by decide +kernel⟩
abbrev s_both_noughts : Stmt := top 20
abbrev N_both_noughts : List Str := ["high", "wide", "one", "other", "a", "b"]
def cp0_both_noughts : OM := lc2O (range1I (nameE 0)) (.nm 4) yesT (range1I (nameE 1)) (.nm 5) (andT (testE (binE (eqG false) (ixE (ixN 2 (nameE 4)) (nameE 5)) (constE (.int 0)))) (testE (binE (eqG false) (ixE (ixN 3 (nameE 4)) (nameE 5)) (constE (.int 0))))) (tupE (consA (nameE 4) (consA (nameE 5) nilA))) [4, 5] [5]
def b_both_noughts : SM := (seqS (exprS (plainE (callO F_check_heights (consA (nameE 0) (consA (nameE 1) (consA (nameE 2) nilA))))))
  (seqS (exprS (plainE (callO F_check_heights (consA (nameE 0) (consA (nameE 1) (consA (nameE 3) nilA))))))
  (retS cp0_both_noughts)))
def F_both_noughts : SemF := bodyF 6 b_both_noughts
theorem sc_both_noughts : FnScope N_both_noughts ["high", "wide", "one", "other"] (defScope s_both_noughts) := ⟨rfl, rfl, rfl, by decide +kernel, rfl, by decide +kernel, by decide +kernel⟩
abbrev s__law_draw : Stmt := top 24
abbrev N__law_draw : List Str := ["hand", "many", "cell", "digit", "number"]
def b__law_draw : SM := (seqS (ifS (andT (testE (binE (eqG false) (ixN 0 (constE (.int 2))) (constE (.int 0)))) (testE (binE ltI (ixN 0 (constE (.int 1))) (un1E lenA (ixN 0 (constE (.int 0))))))) (seqS (setS 2 (sharedE (ixE (ixN 0 (constE (.int 0))) (ixN 0 (constE (.int 1))))))
  (seqS (setIxS 0 (plainE (binO addO (ixN 0 (constE (.int 1))) (constE (.int 1)))) (constE (.int 1)))
  (seqS (setIxS 0 (binE modI (un1E intG (plainE (binO addO (plainE (binO addO (plainE (binO mulO (ixN 0 (constE (.int 3))) (constE (.int 69621)))) (plainE (binO mulO (nameE 2) (constE (.int 40692)))))) (constE (.int 63))))) (constE (.int 2147483629))) (constE (.int 3)))
  (ifS (testE (binE geI (nameE 2) (binE powI (constE (.int 10)) (constE (.int 18))))) (setIxS 0 (nameE 2) (constE (.int 2))) nextS)))) nextS)
  (seqS (ifS (testE (binE gtI (ixN 0 (constE (.int 2))) (constE (.int 0)))) (seqS (setS 3 (sharedE (binE modI (un1E intG (ixN 0 (constE (.int 2)))) (nameE 1))))
  (seqS (setIxS 0 (binE fdivI (ixN 0 (constE (.int 2))) (nameE 1)) (constE (.int 2)))
  (retS (sharedE (nameE 3))))) nextS)
  (seqS (setIxS 0 (plainE (binO addO (ixN 0 (constE (.int 4))) (constE (.int 1)))) (constE (.int 4)))
  (seqS (setS 4 (sharedE (binE modI (un1E intG (plainE (binO mulO (un1E intG (plainE (binO addO (ixN 0 (constE (.int 3))) (plainE (binO mulO (constE (.int 7919)) (ixN 0 (constE (.int 4)))))))) (constE (.int 48271))))) (constE (.int 2147483647)))))
  (seqS (setS 4 (sharedE (binE modI (un1E intG (plainE (binO mulO (nameE 4) (plainE (binO addO (binE fdivI (nameE 4) (constE (.int 1009))) (constE (.int 69621))))))) (constE (.int 2147483647)))))
  (seqS (setS 4 (sharedE (binE modI (un1E intG (plainE (binO mulO (nameE 4) (plainE (binO addO (binE fdivI (nameE 4) (constE (.int 2003))) (constE (.int 40014))))))) (constE (.int 2147483563)))))
  (retS (sharedE (binE modI (un1E intG (binE fdivI (nameE 4) (constE (.int 16)))) (nameE 1))))))))))
def F__law_draw : SemF := bodyF 5 b__law_draw
theorem sc__law_draw : FnScope N__law_draw ["hand", "many"] (defScope s__law_draw) := ⟨rfl, rfl, rfl, by decide +kernel, rfl, by decide +kernel, by decide +kernel⟩
abbrev s__law_steep : Stmt := top 26
abbrev N__law_steep : List Str := ["hand", "high", "wide", "across", "turn", "begin", "low", "found", "a", "floor", "b", "row"]
def bd0__law_steep : SM := (exprS (appE 3 (binE subI (plainE (binO addO (ixN 3 (negE (constE (.int 1)))) (plainE (callO F__law_draw (consA (nameE 0) (consA (constE (.int 3)) nilA)))))) (constE (.int 1)))))
def it0__law_steep : IM := (range1I (binE subI (nameE 2) (constE (.int 1))))
def lp0__law_steep : SM := forS it0__law_steep (.nm 4) bd0__law_steep
def cp0__law_steep : OM := lcO (range1I (nameE 2)) (.nm 10) yesT (binE max2G (nameE 9) (binE min2G (plainE (binO addO (ixN 3 (nameE 10)) (nameE 6))) (binE subI (nameE 8) (nameE 5)))) [10]
def bd1__law_steep : SM := (seqS (setS 9 (sharedE (binE subI (nameE 8) (binE subI (nameE 1) (constE (.int 1))))))
  (exprS (appE 7 (plainE cp0__law_steep))))
def it1__law_steep : IM := (range1I (nameE 1))
def lp1__law_steep : SM := forS it1__law_steep (.nm 8) bd1__law_steep
def cp1__law_steep : OM := lcO (seqI (nameE 7)) (.nm 11) yesT (un1E tupG (nameB 11)) [11]
def b__law_steep : SM := (seqS (setS 3 (lstE (consA (binE subI (plainE (callO F__law_draw (consA (nameE 0) (consA (constE (.int 5)) nilA)))) (constE (.int 2))) nilA)))
  (seqS lp0__law_steep
  (seqS (parS [5, 6] (consL (callO F__law_draw (consA (nameE 0) (consA (nameE 1) nilA))) (consL (callO F__law_draw (consA (nameE 0) (consA (constE (.int 3)) nilA))) nilL)))
  (seqS (setS 7 (lstE nilA))
  (seqS lp1__law_steep
  (retS (sharedE (un1E tupG (plainE cp1__law_steep)))))))))
def F__law_steep : SemF := bodyF 12 b__law_steep
theorem sc__law_steep : FnScope N__law_steep ["hand", "high", "wide"] (defScope s__law_steep) := ⟨rfl, rfl, rfl, by decide +kernel, rfl, by decide +kernel, by decide +kernel⟩
abbrev s_turned : Stmt := top 21
abbrev sco_turned_0 : Scope := pScope (pArg (pVal (pS (defBody s_turned) 1)) 0)
abbrev N_turned : List Str := ["high", "wide", "heights", "at", "row"]
def cp0_turned : OM := lcO (seqI (nameE 2)) (.nm 4) yesT (ixN 4 (nameE 3)) [4]
def cp1_turned : OM := lcO (range1I (nameE 1)) (.nm 3) yesT (un1E tupG (plainE cp0_turned)) [3]
def b_turned : SM := (seqS (exprS (plainE (callO F_check_heights (consA (nameE 0) (consA (nameE 1) (consA (nameE 2) nilA))))))
  (retS (sharedE (un1E tupG (plainE cp1_turned)))))
def F_turned : SemF := bodyF 5 b_turned
theorem sc_turned : FnScope N_turned ["high", "wide", "heights"] (defScope s_turned) := ⟨rfl, rfl, rfl, by decide +kernel, rfl, by decide +kernel, by decide +kernel⟩
abbrev s_is_up_down : Stmt := top 13
abbrev N_is_up_down : List Str := ["heights"]
def b_is_up_down : SM := (retS (sharedE (chainE leI leI (un1E maxA (ixN 0 (constE (.int 0)))) (constE (.int 0)) (un1E minA (ixN 0 (negE (constE (.int 1))))))))
def F_is_up_down : SemF := bodyF 1 b_is_up_down
theorem sc_is_up_down : FnScope N_is_up_down ["heights"] (defScope s_is_up_down) := ⟨rfl, rfl, rfl, by decide +kernel, rfl, by decide +kernel, by decide +kernel⟩
abbrev s_is_left_right : Stmt := top 14
abbrev N_is_left_right : List Str := ["heights", "row"]
def cp0_is_left_right : OM := lcO (seqI (nameE 0)) (.nm 1) yesT (ixN 1 (constE (.int 0))) [1]
def cp1_is_left_right : OM := lcO (seqI (nameE 0)) (.nm 1) yesT (ixN 1 (negE (constE (.int 1)))) [1]
def b_is_left_right : SM := (retS (sharedE (chainE leI leI (un1E maxA (plainE cp0_is_left_right)) (constE (.int 0)) (un1E minA (plainE cp1_is_left_right)))))
def F_is_left_right : SemF := bodyF 2 b_is_left_right
theorem sc_is_left_right : FnScope N_is_left_right ["heights"] (defScope s_is_left_right) := ⟨rfl, rfl, rfl, by decide +kernel, rfl, by decide +kernel, by decide +kernel⟩
abbrev s__law_blocked : Stmt := top 27
abbrev N__law_blocked : List Str := ["rows", "high", "wide", "found", "at", "a", "b", "spot"]
def cp0__law_blocked : OM := lcO (range1I (nameE 2)) (.nm 6) (testE (binE (eqG true) (ixE (ixN 0 (constE (.int 0))) (nameE 6)) (constE (.int 0)))) (tupE (consA (constE (.int 0)) (consA (nameE 6) nilA))) [6]
def bd0__law_blocked : SM := (ifS (andT (testE (chainE leI ltI (constE (.int 0)) (ixN 7 (constE (.int 0))) (nameE 1))) (andT (testE (chainE leI ltI (constE (.int 0)) (ixN 7 (constE (.int 1))) (nameE 2))) (andT (testE (binE (inG true) (nameE 7) (nameB 3))) (testE (binE (eqG true) (ixE (ixN 0 (ixN 7 (constE (.int 0)))) (ixN 7 (constE (.int 1)))) (constE (.int 0))))))) (exprS (appE 3 (nameE 7))) nextS)
def it0__law_blocked : IM := (seqI (tupE (consA (tupE (consA (binE subI (nameE 5) (constE (.int 1))) (consA (binE subI (nameE 6) (constE (.int 1))) nilA))) (consA (tupE (consA (binE subI (nameE 5) (constE (.int 1))) (consA (nameE 6) nilA))) (consA (tupE (consA (binE subI (nameE 5) (constE (.int 1))) (consA (plainE (binO addO (nameE 6) (constE (.int 1)))) nilA))) (consA (tupE (consA (nameE 5) (consA (binE subI (nameE 6) (constE (.int 1))) nilA))) (consA (tupE (consA (nameE 5) (consA (plainE (binO addO (nameE 6) (constE (.int 1)))) nilA))) (consA (tupE (consA (plainE (binO addO (nameE 5) (constE (.int 1)))) (consA (binE subI (nameE 6) (constE (.int 1))) nilA))) (consA (tupE (consA (plainE (binO addO (nameE 5) (constE (.int 1)))) (consA (nameE 6) nilA))) (consA (tupE (consA (plainE (binO addO (nameE 5) (constE (.int 1)))) (consA (plainE (binO addO (nameE 6) (constE (.int 1)))) nilA))) nilA))))))))))
def lp0__law_blocked : SM := forS it0__law_blocked (.nm 7) bd0__law_blocked
def bd1__law_blocked : SM := (seqS (asgS (.tp [(.nm 5), (.nm 6)]) (ixN 3 (nameE 4)))
  (seqS (setS 4 (binO addO (nameE 4) (constE (.int 1))))
  lp0__law_blocked))
def ts0__law_blocked : TM := (testE (binE ltI (nameE 4) (un1E lenA (nameB 3))))
def wl0__law_blocked : SM := whileN ts0__law_blocked bd1__law_blocked fuel
def cp1__law_blocked : OM := lcO (seqI (nameE 3)) (.tp [(.nm 5), (.nm 6)]) yesT (binE (eqG false) (nameE 5) (binE subI (nameE 1) (constE (.int 1)))) [5, 6]
def b__law_blocked : SM := (seqS (parS [1, 2] (consL (sharedE (un1E lenA (nameB 0))) (consL (sharedE (un1E lenA (ixN 0 (constE (.int 0))))) nilL)))
  (seqS (setS 3 cp0__law_blocked)
  (seqS (setS 4 (sharedE (constE (.int 0))))
  (seqS wl0__law_blocked
  (retS (sharedE (notE (un1E anyG (plainE cp1__law_blocked)))))))))
def F__law_blocked : SemF := bodyF 8 b__law_blocked
theorem sc__law_blocked : FnScope N__law_blocked ["rows"] (defScope s__law_blocked) := ⟨rfl, rfl, rfl, by decide +kernel, rfl, by decide +kernel, by decide +kernel⟩
abbrev s_noughts : Stmt := top 15
abbrev N_noughts : List Str := ["high", "wide", "heights", "a", "b"]
def cp0_noughts : OM := lc2O (range1I (nameE 0)) (.nm 3) yesT (range1I (nameE 1)) (.nm 4) (testE (binE (eqG false) (ixE (ixN 2 (nameE 3)) (nameE 4)) (constE (.int 0)))) (tupE (consA (nameE 3) (consA (nameE 4) nilA))) [3, 4] [4]
def b_noughts : SM := (seqS (exprS (plainE (callO F_check_heights (consA (nameE 0) (consA (nameE 1) (consA (nameE 2) nilA))))))
  (retS cp0_noughts))
def F_noughts : SemF := bodyF 5 b_noughts
theorem sc_noughts : FnScope N_noughts ["high", "wide", "heights"] (defScope s_noughts) := ⟨rfl, rfl, rfl, by decide +kernel, rfl, by decide +kernel, by decide +kernel⟩
abbrev s_common : Stmt := top 19
abbrev N_common : List Str := ["high", "wide", "one", "other"]
def b_common : SM := (seqS (exprS (plainE (callO F_check_heights (consA (nameE 0) (consA (nameE 1) (consA (nameE 2) nilA))))))
  (seqS (exprS (plainE (callO F_check_heights (consA (nameE 0) (consA (nameE 1) (consA (nameE 3) nilA))))))
  (seqS (ifS (orT (notT (testE (plainE (callO F_is_up_down (consA (nameE 2) nilA))))) (notT (testE (plainE (callO F_is_left_right (consA (nameE 3) nilA)))))) badS nextS)
  (retS (sharedE (ixE (plainE (callO F_both_noughts (consA (nameE 0) (consA (nameE 1) (consA (nameE 2) (consA (nameE 3) nilA)))))) (constE (.int 0))))))))
def F_common : SemF := bodyF 4 b_common
theorem sc_common : FnScope N_common ["high", "wide", "one", "other"] (defScope s_common) := ⟨rfl, rfl, rfl, by decide +kernel, rfl, by decide +kernel, by decide +kernel⟩
abbrev s_around : Stmt := top 17
abbrev N_around : List Str := ["high", "wide", "cell", "found", "x", "y", "one"]
def cp0_around : OM := lc2O (seqI (tupE (consA (negE (constE (.int 1))) (consA (constE (.int 0)) (consA (constE (.int 1)) nilA))))) (.nm 4) yesT (seqI (tupE (consA (negE (constE (.int 1))) (consA (constE (.int 0)) (consA (constE (.int 1)) nilA))))) (.nm 5) (testE (binE (eqG true) (tupE (consA (nameE 4) (consA (nameE 5) nilA))) (tupE (consA (constE (.int 0)) (consA (constE (.int 0)) nilA))))) (tupE (consA (plainE (binO addO (ixN 2 (constE (.int 0))) (nameE 4))) (consA (plainE (binO addO (ixN 2 (constE (.int 1))) (nameE 5))) nilA))) [4, 5] [5]
def cp1_around : OM := lcO (seqI (nameE 3)) (.nm 6) (andT (testE (chainE leI ltI (constE (.int 0)) (ixN 6 (constE (.int 0))) (nameE 0))) (testE (chainE leI ltI (constE (.int 0)) (ixN 6 (constE (.int 1))) (nameE 1)))) (nameE 6) [6]
def b_around : SM := (seqS (setS 3 cp0_around)
  (retS cp1_around))
def F_around : SemF := bodyF 7 b_around
theorem sc_around : FnScope N_around ["high", "wide", "cell"] (defScope s_around) := ⟨rfl, rfl, rfl, by decide +kernel, rfl, by decide +kernel, by decide +kernel⟩
abbrev s_line_of : Stmt := top 16
abbrev N_line_of : List Str := ["heights", "high", "wide", "ahead", "waiting", "at", "a", "here", "found", "cell"]
def bd0_line_of : SM := (ifS (testE (binE (eqG false) (ixE (ixN 0 (nameE 6)) (constE (.int 0))) (constE (.int 0)))) (seqS (setIxS 3 (constE .non) (tupE (consA (nameE 6) (consA (constE (.int 0)) nilA))))
  (exprS (appE 4 (tupE (consA (nameE 6) (consA (constE (.int 0)) nilA)))))) nextS)
def it0_line_of : IM := (range1I (nameE 1))
def lp0_line_of : SM := forS it0_line_of (.nm 6) bd0_line_of
def bd1_line_of : SM := (seqS (exprS (appE 8 (nameE 7)))
  (setS 7 (sharedE (ixN 3 (nameE 7)))))
def ts0_line_of : TM := (testE (binE (isG true) (nameE 7) (constE .non)))
def wl0_line_of : SM := whileN ts0_line_of bd1_line_of fuel
def bd2_line_of : SM := (ifS (andT (testE (binE (inG true) (nameE 9) (nameB 3))) (testE (binE (eqG false) (ixE (ixN 0 (ixN 9 (constE (.int 0)))) (ixN 9 (constE (.int 1)))) (constE (.int 0))))) (seqS (setIxS 3 (nameE 7) (nameE 9))
  (exprS (appE 4 (nameE 9)))) nextS)
def it1_line_of : IM := (seqI (plainE (callO F_around (consA (nameE 1) (consA (nameE 2) (consA (nameE 7) nilA))))))
def lp1_line_of : SM := forS it1_line_of (.nm 9) bd2_line_of
def bd3_line_of : SM := (seqS (setS 7 (sharedE (ixN 4 (nameE 5))))
  (seqS (augS 5 addI (constE (.int 1)))
  (seqS (ifS (testE (binE (eqG false) (ixN 7 (constE (.int 1))) (binE subI (nameE 2) (constE (.int 1))))) (seqS (setS 8 (lstE nilA))
  (seqS wl0_line_of
  (retS (un1O revG (nameB 8))))) nextS)
  lp1_line_of)))
def ts1_line_of : TM := (testE (binE ltI (nameE 5) (un1E lenA (nameB 4))))
def wl1_line_of : SM := whileN ts1_line_of bd3_line_of fuel
def b_line_of : SM := (seqS (parS [1, 2] (consL (sharedE (un1E lenA (nameB 0))) (consL (sharedE (un1E lenA (ixN 0 (constE (.int 0))))) nilL)))
  (seqS (parS [3, 4, 5] (consL newT (consL (lstE nilA) (consL (sharedE (constE (.int 0))) nilL))))
  (seqS lp0_line_of
  (seqS wl1_line_of
  (retS (sharedE (constE .non)))))))
def F_line_of : SemF := bodyF 10 b_line_of
theorem sc_line_of : FnScope N_line_of ["heights"] (defScope s_line_of) := ⟨rfl, rfl, rfl, by decide +kernel, rfl, by decide +kernel, by decide +kernel⟩
abbrev s_line_told : Stmt := top 18
abbrev N_line_told : List Str := ["high", "wide", "heights"]
def b_line_told : SM := (seqS (exprS (plainE (callO F_check_heights (consA (nameE 0) (consA (nameE 1) (consA (nameE 2) nilA))))))
  (seqS (ifS (notT (testE (plainE (callO F_is_up_down (consA (nameE 2) nilA))))) badS nextS)
  (retS (sharedE (un1E tupG (plainE (callO F_line_of (consA (nameE 2) nilA))))))))
def F_line_told : SemF := bodyF 3 b_line_told
theorem sc_line_told : FnScope N_line_told ["high", "wide", "heights"] (defScope s_line_told) := ⟨rfl, rfl, rfl, by decide +kernel, rfl, by decide +kernel, by decide +kernel⟩
abbrev s__law_is_right : Stmt := top 28
abbrev N__law_is_right : List Str := ["hand", "high", "wide", "one", "mate", "both", "line", "spot", "a", "b"]
def cp0__law_is_right : OM := lcO (seqI (plainE (callO F_noughts (consA (nameE 1) (consA (nameE 2) (consA (nameE 3) nilA)))))) (.nm 7) (testE (binE (eqG false) (ixE (ixN 4 (ixN 7 (constE (.int 0)))) (ixN 7 (constE (.int 1)))) (constE (.int 0)))) (nameE 7) [7]
def cp1__law_is_right : OM := lcO (seqI (nameE 6)) (.tp [(.nm 8), (.nm 9)]) yesT (binE (eqG false) (ixE (ixN 3 (nameE 8)) (nameE 9)) (constE (.int 0))) [8, 9]
def b__law_is_right : SM := (seqS (parS [1, 2] (consL (binO addO (constE (.int 2)) (plainE (callO F__law_draw (consA (nameE 0) (consA (constE (.int 5)) nilA))))) (consL (binO addO (constE (.int 2)) (plainE (callO F__law_draw (consA (nameE 0) (consA (constE (.int 5)) nilA))))) nilL)))
  (seqS (setS 3 (callO F__law_steep (consA (nameE 0) (consA (nameE 1) (consA (nameE 2) nilA)))))
  (seqS (setS 4 (callO F_turned (consA (nameE 2) (consA (nameE 1) (consA (plainE (callO F__law_steep (consA (nameE 0) (consA (nameE 2) (consA (nameE 1) nilA))))) nilA)))))
  (seqS (ifS (orT (testE (binE (isG true) (plainE (callO F_is_heights (consA (nameE 1) (consA (nameE 2) (consA (nameE 3) nilA))))) (constE (.bl true)))) (testE (binE (isG true) (plainE (callO F_is_heights (consA (nameE 1) (consA (nameE 2) (consA (nameE 4) nilA))))) (constE (.bl true))))) (retS (sharedE (constE (.bl false)))) nextS)
  (seqS (ifS (orT (notT (testE (plainE (callO F_is_up_down (consA (nameE 3) nilA))))) (notT (testE (plainE (callO F_is_left_right (consA (nameE 4) nilA)))))) (retS (sharedE (constE (.bl true)))) nextS)
  (seqS (ifS (notT (testE (plainE (callO F__law_blocked (consA (nameE 3) nilA))))) (retS (sharedE (constE (.bl false)))) nextS)
  (seqS (setS 5 cp0__law_is_right)
  (seqS (ifS (orT (testE (binE (eqG false) (un1E lenA (nameB 5)) (constE (.int 0)))) (orT (testE (binE (eqG true) (plainE (callO F_common (consA (nameE 1) (consA (nameE 2) (consA (nameE 3) (consA (nameE 4) nilA)))))) (ixN 5 (constE (.int 0))))) (testE (binE (eqG true) (plainE (callO F_both_noughts (consA (nameE 1) (consA (nameE 2) (consA (nameE 3) (consA (nameE 4) nilA)))))) (nameE 5))))) (retS (sharedE (constE (.bl false)))) nextS)
  (seqS (setS 6 (callO F_line_told (consA (nameE 1) (consA (nameE 2) (consA (nameE 3) nilA)))))
  (retS (sharedE (andE (un1E allG (plainE cp1__law_is_right)) (binE geI (un1E lenA (nameB 6)) (nameE 2))))))))))))))
def F__law_is_right : SemF := bodyF 10 b__law_is_right
theorem sc__law_is_right : FnScope N__law_is_right ["hand"] (defScope s__law_is_right) := ⟨rfl, rfl, rfl, by decide +kernel, rfl, by decide +kernel, by decide +kernel⟩
abbrev s_law : Stmt := top 29
abbrev N_law : List Str := ["script", "hand", "turn"]
def cp0_law : OM := lcO (range1I (constE (.int 5))) (.nm 2) yesT (plainE (callO F__law_is_right (consA (nameE 1) nilA))) [2]
def b_law : SM := (seqS (cellS 1 (callO F__law_hand (consA (nameE 0) nilA)))
  (seqS (ifS (testE (binE (eqG true) (plainE (callO F_both_noughts (consA (constE (.int 2)) (consA (constE (.int 2)) (consA (tupE (consA (tupE (consA (constE (.int 0)) (consA (constE (.int 0)) nilA))) (consA (tupE (consA (constE (.int 0)) (consA (constE (.int 0)) nilA))) nilA))) (consA (tupE (consA (tupE (consA (constE (.int 0)) (consA (constE (.int 1)) nilA))) (consA (tupE (consA (constE (.int 0)) (consA (constE (.int 1)) nilA))) nilA))) nilA)))))) (plainE (lstE (consA (tupE (consA (constE (.int 0)) (consA (constE (.int 0)) nilA))) (consA (tupE (consA (constE (.int 1)) (consA (constE (.int 0)) nilA))) nilA)))))) (retS (sharedE (constE (.bl false)))) nextS)
  (retS (sharedE (un1E allG (plainE cp0_law))))))
def F_law : SemF := bodyF 3 b_law
theorem sc_law : FnScope N_law ["script"] (defScope s_law) := ⟨rfl, rfl, rfl, by decide +kernel, rfl, by decide +kernel, by decide +kernel⟩
section
variable {P : Program} {w : World} {K : PySem.W.Frag} {mg : Str → Option Value} {base : Heap} {f : Addr} {fd : FuncData}
theorem ok__law_hand (F : FunD K "_law_hand" "_law_hand" (defArgs s__law_hand) (defBody s__law_hand) (defScope s__law_hand) [] [] f fd) (hm : mg "_law_hand" = some (.ref f)) (m_int : mg "int" = none) (m_abs : mg "abs" = none) (m_len : mg "len" = none) :
    Fd P w K mg base "_law_hand" 1 1 F__law_hand := by
  refine Fd.mk' (ps := ["script"]) F hm rfl (fun _ _ _ _ _ _ us hl => match us, hl with | [_], _ => rfl) (fn_okD F sc__law_hand fun cdv A outer s H E hr => ?_)
  exact (ss_cons (ps_setLcX (i := 1) rfl sc__law_hand.nd rfl rfl rfl (i_seq (px_of (po_cutN 0 rfl q_none (q_some px_int)))) (blkOk_by (N := N__law_hand) (sc := (defScope s__law_hand)) (own := [("cell", 2)]) (by decide +kernel)) (fun _ _ _ _ _ => (g_nm 2 sc__law_hand.nd)) (fun _ _ _ _ _ => t_nil) (fun _ _ _ _ _ => (px_of (po_blt u_abs rfl m_abs bb_abs (pb_of (px_of (po_bty u_int rfl m_int bb_int (pb_name 2))))))))
  (ss_one (ps_retX (po_lst (pa_consX (px_name 1) (pa_consX px_int (pa_consX px_int (pa_consX (px_of (po_bin br_add px_int (px_of (po_bin br_mul px_int (px_of (po_blt u_lenA rfl m_len bb_len (pb_name 1))))))) (pa_consX px_int pa_nilX)))))))))
theorem ok_is_integer (F : FunD K "is_integer" "is_integer" (defArgs s_is_integer) (defBody s_is_integer) (defScope s_is_integer) [] [] f fd) (hm : mg "is_integer" = some (.ref f)) (m_isinstance : mg "isinstance" = none) (m_int : mg "int" = none) (m_bool : mg "bool" = none) :
    Fd P w K mg base "is_integer" 1 1 F_is_integer := by
  refine Fd.mk' (ps := ["thing"]) F hm rfl (fun _ _ _ _ _ _ us hl => match us, hl with | [_], _ => rfl) (fn_okD F sc_is_integer fun cdv A outer s H E hr => ?_)
  exact (ss_one (ps_retX (po_of (px_and (px_isi rfl m_isinstance (pb_name 0) rfl m_int bb_int bb_isinstance) (px_one (px_not (px_isi rfl m_isinstance (pb_name 0) rfl m_bool bb_bool bb_isinstance)))))))
theorem ok_is_within (F : FunD K "is_within" "is_within" (defArgs s_is_within) (defBody s_is_within) (defScope s_is_within) [] [] f fd) (hm : mg "is_within" = some (.ref f)) (c_is_integer : Fd P w K mg base "is_integer" 1 1 F_is_integer) :
    Fd P w K mg base "is_within" 2 3 F_is_within := by
  refine Fd.mk' (ps := ["thing", "least", "most"]) F hm rfl (fun _ _ _ _ _ _ us hl => match us, hl with | [_, _, _], _ => rfl) (fn_okD F sc_is_within fun cdv A outer s H E hr => ?_)
  exact (ss_one (ps_retX (po_of (px_and (px_of (po_call c_is_integer hr (by decide) rfl (takes_of rfl rfl rfl rfl) (pa_consX (px_name 0) pa_nilX) (len_cons len_nilA))) (px_one (px_chain br_le br_le (px_name 1) (px_name 0) (px_name 2)))))))
theorem ok_check_sides (F : FunD K "check_sides" "check_sides" (defArgs s_check_sides) (defBody s_check_sides) (defScope s_check_sides) [] [] f fd) (hm : mg "check_sides" = some (.ref f)) {t_MOST_SIDE : Tok} (g_MOST_SIDE : mg "MOST_SIDE" = some (.int 8 t_MOST_SIDE)) (c_is_within : Fd P w K mg base "is_within" 2 3 F_is_within) :
    Fd P w K mg base "check_sides" 3 2 F_check_sides := by
  refine Fd.mk' (ps := ["high", "wide"]) F hm rfl (fun _ _ _ _ _ _ us hl => match us, hl with | [_, _], _ => rfl) (fn_okD F sc_check_sides fun cdv A outer s H E hr => ?_)
  exact (ss_one (ps_ifX (pt_w (pw_orX (pt_notX (pt_of (px_of (po_call c_is_within hr (by decide) rfl (takes_of rfl rfl rfl rfl) (pa_consX (px_name 0) (pa_consX px_int (pa_consX (px_globi rfl g_MOST_SIDE) pa_nilX))) (len_cons (len_cons (len_cons len_nilA))))))) (pw_lastO (pt_notX (pt_of (px_of (po_call c_is_within hr (by decide) rfl (takes_of rfl rfl rfl rfl) (pa_consX (px_name 1) (pa_consX px_int (pa_consX (px_globi rfl g_MOST_SIDE) pa_nilX))) (len_cons (len_cons (len_cons len_nilA)))))))))) (ss_one ps_badX) ss_nil))
theorem ok_is_tuple (F : FunD K "is_tuple" "is_tuple" (defArgs s_is_tuple) (defBody s_is_tuple) (defScope s_is_tuple) [] [] f fd) (hm : mg "is_tuple" = some (.ref f)) (m_isinstance : mg "isinstance" = none) (m_tuple : mg "tuple" = none) (m_len : mg "len" = none) :
    Fd P w K mg base "is_tuple" 1 3 F_is_tuple := by
  refine Fd.mk' (ps := ["thing", "least", "most"]) F hm rfl (fun _ _ _ _ _ _ us hl => match us, hl with | [_, _, _], _ => rfl) (fn_okD F sc_is_tuple fun cdv A outer s H E hr => ?_)
  exact (ss_one (ps_retX (po_of (px_and (px_isi rfl m_isinstance (pb_name 0) rfl m_tuple bb_tuple bb_isinstance) (px_one (px_chain br_le br_le (px_name 1) (px_of (po_blt u_lenA rfl m_len bb_len (pb_name 0))) (px_name 2)))))))
theorem ok_is_heights (F : FunD K "is_heights" "is_heights" (defArgs s_is_heights) (defBody s_is_heights) (defScope s_is_heights) [] [] f fd) (hm : mg "is_heights" = some (.ref f)) (m_all : mg "all" = none) (m_range : mg "range" = none) (m_abs : mg "abs" = none) (c_check_sides : Fd P w K mg base "check_sides" 3 2 F_check_sides) (c_is_tuple : Fd P w K mg base "is_tuple" 1 3 F_is_tuple) (c_is_within : Fd P w K mg base "is_within" 2 3 F_is_within) :
    Fd P w K mg base "is_heights" 4 3 F_is_heights := by
  refine Fd.mk' (ps := ["high", "wide", "thing"]) F hm rfl (fun _ _ _ _ _ _ us hl => match us, hl with | [_, _, _], _ => rfl) (fn_okD F sc_is_heights fun cdv A outer s H E hr => ?_)
  exact (ss_cons (ps_exprX (px_of (po_call c_check_sides hr (by decide) rfl (takes_of rfl rfl rfl rfl) (pa_consX (px_name 0) (pa_consX (px_name 1) pa_nilX)) (len_cons (len_cons len_nilA)))))
  (ss_cons (ps_ifX (pt_w (pw_orX (pt_notX (pt_of (px_of (po_call c_is_tuple hr (by decide) rfl (takes_of rfl rfl rfl rfl) (pa_consX (px_name 2) (pa_consX (px_name 0) (pa_consX (px_name 0) pa_nilX))) (len_cons (len_cons (len_cons len_nilA))))))) (pw_lastO (pt_notX (pt_of (px_of (po_blt (u_all rfl) rfl m_all bb_all (pb_of (px_of (po_lc rfl sc_is_heights.nd (i_seq (px_name 2)) (blkOk_by (N := N_is_heights) (sc := (defScope s_is_heights)) (own := [("row", 7)]) (by decide +kernel)) (fun _ _ _ _ _ => (g_nm 7 sc_is_heights.nd)) (fun _ _ _ _ _ => t_nil) (fun _ _ _ _ _ => (px_of (po_call c_is_tuple hr (by decide) rfl takes0 (pa_consX (px_name 7) (pa_consX (px_name 1) (pa_consX (px_name 1) pa_nilX))) (len_cons (len_cons (len_cons len_nilA)))))))))))))))) (ss_one (ps_retX (po_of px_bl))) ss_nil)
  (ss_cons (ps_ifX (pt_notX (pt_of (px_of (po_blt (u_all rfl) rfl m_all bb_all (pb_of (px_of (po_lc2 rfl sc_is_heights.nd (i_seq (px_name 2)) (blkOk_by (N := N_is_heights) (sc := (defScope s_is_heights)) (own := [("row", 7), ("one", 8)]) (by decide +kernel)) (fun _ _ _ _ _ => (g_nm 7 sc_is_heights.nd)) (fun _ _ _ _ _ => t_nil) (fun _ _ _ _ _ => (i_seq (px_name 7))) (fun _ _ _ _ _ => (g_nm 8 sc_is_heights.nd)) (fun _ _ _ _ _ => t_nil) (fun _ _ _ _ _ => (px_of (po_call c_is_within hr (by decide) rfl takes0 (pa_consX (px_name 8) (pa_consX (px_neg px_int) (pa_consX px_int pa_nilX))) (len_cons (len_cons (len_cons len_nilA))))))))))))) (ss_one (ps_retX (po_of px_bl))) ss_nil)
  (ss_cons (ps_forX (passes_of rfl) rfl (i_range1 rfl m_range (px_name 0)) (g_nm 3 sc_is_heights.nd) (ss_one (ps_forX (passes_of rfl) rfl (i_range1 rfl m_range (px_name 1)) (g_nm 4 sc_is_heights.nd) (ss_one (ps_forX (passes_of rfl) rfl (i_seq (px_tup (pa_consX (px_tup (pa_consX px_int (pa_consX px_int pa_nilX))) (pa_consX (px_tup (pa_consX px_int (pa_consX (px_neg px_int) pa_nilX))) (pa_consX (px_tup (pa_consX px_int (pa_consX px_int pa_nilX))) (pa_consX (px_tup (pa_consX px_int (pa_consX px_int pa_nilX))) pa_nilX)))))) (g_tp rfl (gs_cons (g_nm 5 sc_is_heights.nd) (gs_cons (g_nm 6 sc_is_heights.nd) gs_nil))) (ss_one (ps_ifX (pt_w (pw_andX (pt_cmp br_lt (px_of (po_bin br_add (px_name 3) (px_name 5))) (px_name 0)) (pw_andX (pt_chain br_le br_lt px_int (px_of (po_bin br_add (px_name 4) (px_name 6))) (px_name 1)) (pw_lastA (pt_cmp br_gt (px_of (po_blt u_abs rfl m_abs bb_abs (pb_of (px_bin br_sub (px_ix (u1 hr) (px_ixN (u1 hr) 2 rfl (px_name 3)) (px_name 4)) (px_ix (u1 hr) (px_ixN (u1 hr) 2 rfl (px_of (po_bin br_add (px_name 3) (px_name 5)))) (px_of (po_bin br_add (px_name 4) (px_name 6)))))))) px_int))))) (ss_one (ps_retX (po_of px_bl))) ss_nil)))))))
  (ss_one (ps_retX (po_of px_bl)))))))
theorem ok_check_heights (F : FunD K "check_heights" "check_heights" (defArgs s_check_heights) (defBody s_check_heights) (defScope s_check_heights) [] [] f fd) (hm : mg "check_heights" = some (.ref f)) (c_is_heights : Fd P w K mg base "is_heights" 4 3 F_is_heights) :
    Fd P w K mg base "check_heights" 5 3 F_check_heights := by
  refine Fd.mk' (ps := ["high", "wide", "thing"]) F hm rfl (fun _ _ _ _ _ _ us hl => match us, hl with | [_, _, _], _ => rfl) (fn_okD F sc_check_heights fun cdv A outer s H E hr => ?_)
  exact (ss_one (ps_ifX (pt_notX (pt_of (px_of (po_call c_is_heights hr (by decide) rfl (takes_of rfl rfl rfl rfl) (pa_consX (px_name 0) (pa_consX (px_name 1) (pa_consX (px_name 2) pa_nilX))) (len_cons (len_cons (len_cons len_nilA))))))) (ss_one ps_badX) ss_nil))
theorem ok_both_noughts (F : FunD K "both_noughts" "both_noughts" (defArgs s_both_noughts) (defBody s_both_noughts) (defScope s_both_noughts) [] [] f fd) (hm : mg "both_noughts" = some (.ref f)) (m_range : mg "range" = none) (c_check_heights : Fd P w K mg base "check_heights" 5 3 F_check_heights) :
    Fd P w K mg base "both_noughts" 6 4 F_both_noughts := by
  refine Fd.mk' (ps := ["high", "wide", "one", "other"]) F hm rfl (fun _ _ _ _ _ _ us hl => match us, hl with | [_, _, _, _], _ => rfl) (fn_okD F sc_both_noughts fun cdv A outer s H E hr => ?_)
  exact (ss_cons (ps_exprX (px_of (po_call c_check_heights hr (by decide) rfl (takes_of rfl rfl rfl rfl) (pa_consX (px_name 0) (pa_consX (px_name 1) (pa_consX (px_name 2) pa_nilX))) (len_cons (len_cons (len_cons len_nilA))))))
  (ss_cons (ps_exprX (px_of (po_call c_check_heights hr (by decide) rfl (takes_of rfl rfl rfl rfl) (pa_consX (px_name 0) (pa_consX (px_name 1) (pa_consX (px_name 3) pa_nilX))) (len_cons (len_cons (len_cons len_nilA))))))
  (ss_one (ps_retX (po_lc2 rfl sc_both_noughts.nd (i_range1 rfl m_range (px_name 0)) (blkOk_by (N := N_both_noughts) (sc := (defScope s_both_noughts)) (own := [("a", 4), ("b", 5)]) (by decide +kernel)) (fun _ _ _ _ _ => (g_nm 4 sc_both_noughts.nd)) (fun _ _ _ _ _ => t_nil) (fun _ _ _ _ _ => (i_range1 rfl m_range (px_name 1))) (fun _ _ _ _ _ => (g_nm 5 sc_both_noughts.nd)) (fun _ _ _ _ _ => (t_one (pt_w (pw_andX (pt_cmp (br_eq (u64 hr)) (px_ix (u1 hr) (px_ixN (u1 hr) 2 rfl (px_name 4)) (px_name 5)) px_int) (pw_lastA (pt_cmp (br_eq (u64 hr)) (px_ix (u1 hr) (px_ixN (u1 hr) 3 rfl (px_name 4)) (px_name 5)) px_int)))))) (fun _ _ _ _ _ => (px_tup (pa_consX (px_name 4) (pa_consX (px_name 5) pa_nilX)))))))))
theorem ok__law_draw (F : FunD K "_law_draw" "_law_draw" (defArgs s__law_draw) (defBody s__law_draw) (defScope s__law_draw) [] [] f fd) (hm : mg "_law_draw" = some (.ref f)) (m_len : mg "len" = none) (m_int : mg "int" = none) :
    Fd P w K mg base "_law_draw" 1 2 F__law_draw := by
  refine Fd.mk' (ps := ["hand", "many"]) F hm rfl (fun _ _ _ _ _ _ us hl => match us, hl with | [_, _], _ => rfl) (fn_okD F sc__law_draw fun cdv A outer s H E hr => ?_)
  exact (ss_cons (ps_ifX (pt_w (pw_andX (pt_cmp (br_eq (u64 hr)) (px_ixN (u1 hr) 0 rfl px_int) px_int) (pw_lastA (pt_cmp br_lt (px_ixN (u1 hr) 0 rfl px_int) (px_of (po_blt u_lenA rfl m_len bb_len (pb_of (px_ixN (u1 hr) 0 rfl px_int)))))))) (ss_cons (ps_setX 2 sc__law_draw.nd (po_of (px_ix (u1 hr) (px_ixN (u1 hr) 0 rfl px_int) (px_ixN (u1 hr) 0 rfl px_int))))
  (ss_cons (ps_setIx (u1 hr) 0 rfl (px_of (po_bin br_add (px_ixN (u1 hr) 0 rfl px_int) px_int)) px_int)
  (ss_cons (ps_setIx (u1 hr) 0 rfl (px_bin br_mod (px_of (po_bty u_int rfl m_int bb_int (pb_of (px_of (po_bin br_add (px_of (po_bin br_add (px_of (po_bin br_mul (px_ixN (u1 hr) 0 rfl px_int) px_int)) (px_of (po_bin br_mul (px_name 2) px_int)))) px_int))))) px_int) px_int)
  (ss_one (ps_ifX (pt_cmp br_ge (px_name 2) (px_bin br_pow px_int px_int)) (ss_one (ps_setIx (u1 hr) 0 rfl (px_name 2) px_int)) ss_nil))))) ss_nil)
  (ss_cons (ps_ifX (pt_cmp br_gt (px_ixN (u1 hr) 0 rfl px_int) px_int) (ss_cons (ps_setX 3 sc__law_draw.nd (po_of (px_bin br_mod (px_of (po_bty u_int rfl m_int bb_int (pb_of (px_ixN (u1 hr) 0 rfl px_int)))) (px_name 1))))
  (ss_cons (ps_setIx (u1 hr) 0 rfl (px_bin br_fdiv (px_ixN (u1 hr) 0 rfl px_int) (px_name 1)) px_int)
  (ss_one (ps_retX (po_of (px_name 3)))))) ss_nil)
  (ss_cons (ps_setIx (u1 hr) 0 rfl (px_of (po_bin br_add (px_ixN (u1 hr) 0 rfl px_int) px_int)) px_int)
  (ss_cons (ps_setX 4 sc__law_draw.nd (po_of (px_bin br_mod (px_of (po_bty u_int rfl m_int bb_int (pb_of (px_of (po_bin br_mul (px_of (po_bty u_int rfl m_int bb_int (pb_of (px_of (po_bin br_add (px_ixN (u1 hr) 0 rfl px_int) (px_of (po_bin br_mul px_int (px_ixN (u1 hr) 0 rfl px_int)))))))) px_int))))) px_int)))
  (ss_cons (ps_setX 4 sc__law_draw.nd (po_of (px_bin br_mod (px_of (po_bty u_int rfl m_int bb_int (pb_of (px_of (po_bin br_mul (px_name 4) (px_of (po_bin br_add (px_bin br_fdiv (px_name 4) px_int) px_int))))))) px_int)))
  (ss_cons (ps_setX 4 sc__law_draw.nd (po_of (px_bin br_mod (px_of (po_bty u_int rfl m_int bb_int (pb_of (px_of (po_bin br_mul (px_name 4) (px_of (po_bin br_add (px_bin br_fdiv (px_name 4) px_int) px_int))))))) px_int)))
  (ss_one (ps_retX (po_of (px_bin br_mod (px_of (po_bty u_int rfl m_int bb_int (pb_of (px_bin br_fdiv (px_name 4) px_int)))) (px_name 1)))))))))))
theorem ok__law_steep (F : FunD K "_law_steep" "_law_steep" (defArgs s__law_steep) (defBody s__law_steep) (defScope s__law_steep) [] [] f fd) (hm : mg "_law_steep" = some (.ref f)) (m_range : mg "range" = none) (m_min : mg "min" = none) (m_max : mg "max" = none) (m_tuple : mg "tuple" = none) (c__law_draw : Fd P w K mg base "_law_draw" 1 2 F__law_draw) :
    Fd P w K mg base "_law_steep" 2 3 F__law_steep := by
  refine Fd.mk' (ps := ["hand", "high", "wide"]) F hm rfl (fun _ _ _ _ _ _ us hl => match us, hl with | [_, _, _], _ => rfl) (fn_okD F sc__law_steep fun cdv A outer s H E hr => ?_)
  exact (ss_cons (ps_setX 3 sc__law_steep.nd (po_lst (pa_consX (px_bin br_sub (px_of (po_call c__law_draw hr (by decide) rfl (takes_of rfl rfl rfl rfl) (pa_consX (px_name 0) (pa_consX px_int pa_nilX)) (len_cons (len_cons len_nilA)))) px_int) pa_nilX)))
  (ss_cons (ps_forX (passes_of rfl) rfl (i_range1 rfl m_range (px_bin br_sub (px_name 2) px_int)) (g_nm 4 sc__law_steep.nd) (ss_one (ps_exprX (px_app 3 rfl (px_bin br_sub (px_of (po_bin br_add (px_ixN (u1 hr) 3 rfl (px_neg px_int)) (px_of (po_call c__law_draw hr (by decide) rfl (takes_of rfl rfl rfl rfl) (pa_consX (px_name 0) (pa_consX px_int pa_nilX)) (len_cons (len_cons len_nilA)))))) px_int)))))
  (ss_cons (ps_parT rfl (pl_cons (po_call c__law_draw hr (by decide) rfl (takes_of rfl rfl rfl rfl) (pa_consX (px_name 0) (pa_consX (px_name 1) pa_nilX)) (len_cons (len_cons len_nilA))) (pl_cons (po_call c__law_draw hr (by decide) rfl (takes_of rfl rfl rfl rfl) (pa_consX (px_name 0) (pa_consX px_int pa_nilX)) (len_cons (len_cons len_nilA))) pl_nil)) (go_cons 5 sc__law_steep.nd (go_cons 6 sc__law_steep.nd go_nil)))
  (ss_cons (ps_setX 7 sc__law_steep.nd (po_lst pa_nilX))
  (ss_cons (ps_forX (passes_of rfl) rfl (i_range1 rfl m_range (px_name 1)) (g_nm 8 sc__law_steep.nd) (ss_cons (ps_setX 9 sc__law_steep.nd (po_of (px_bin br_sub (px_name 8) (px_bin br_sub (px_name 1) px_int))))
  (ss_one (ps_exprX (px_app 7 rfl (px_of (po_lc rfl sc__law_steep.nd (i_range1 rfl m_range (px_name 2)) (blkOk_by (N := N__law_steep) (sc := (defScope s__law_steep)) (own := [("b", 10)]) (by decide +kernel)) (fun _ _ _ _ _ => (g_nm 10 sc__law_steep.nd)) (fun _ _ _ _ _ => t_nil) (fun _ _ _ _ _ => (px_max2 rfl rfl m_max bb_max (px_name 9) (px_min2 rfl rfl m_min bb_min (px_of (po_bin br_add (px_ixN (u1 hr) 3 rfl (px_name 10)) (px_name 6))) (px_bin br_sub (px_name 8) (px_name 5))))))))))))
  (ss_one (ps_retX (po_of (px_of (po_bty u_tup rfl m_tuple bb_tuple (pb_of (px_of (po_lc rfl sc__law_steep.nd (i_seq (px_name 7)) (blkOk_by (N := N__law_steep) (sc := (defScope s__law_steep)) (own := [("row", 11)]) (by decide +kernel)) (fun _ _ _ _ _ => (g_nm 11 sc__law_steep.nd)) (fun _ _ _ _ _ => t_nil) (fun _ _ _ _ _ => (px_of (po_bty u_tup rfl m_tuple bb_tuple (pb_name 11)))))))))))))))))
theorem ok_turned (F : FunD K "turned" "turned" (defArgs s_turned) (defBody s_turned) (defScope s_turned) [] [] f fd) (hm : mg "turned" = some (.ref f)) (m_range : mg "range" = none) (m_tuple : mg "tuple" = none) (c_check_heights : Fd P w K mg base "check_heights" 5 3 F_check_heights) :
    Fd P w K mg base "turned" 6 3 F_turned := by
  refine Fd.mk' (ps := ["high", "wide", "heights"]) F hm rfl (fun _ _ _ _ _ _ us hl => match us, hl with | [_, _, _], _ => rfl) (fn_okD F sc_turned fun cdv A outer s H E hr => ?_)
  exact (ss_cons (ps_exprX (px_of (po_call c_check_heights hr (by decide) rfl (takes_of rfl rfl rfl rfl) (pa_consX (px_name 0) (pa_consX (px_name 1) (pa_consX (px_name 2) pa_nilX))) (len_cons (len_cons (len_cons len_nilA))))))
  (ss_one (ps_retX (po_of (px_of (po_bty u_tup rfl m_tuple bb_tuple (pb_of (px_of (po_lc rfl sc_turned.nd (i_range1 rfl m_range (px_name 1)) (blkOk_by (N := N_turned) (sc := (defScope s_turned)) (scope := sco_turned_0) (own := [("at", 3)]) (by decide +kernel)) (fun _ _ _ _ _ => (g_nm 3 sc_turned.nd)) (fun _ _ _ _ _ => t_nil) (fun _ _ _ _ _ => (px_of (po_bty u_tup rfl m_tuple bb_tuple (pb_of (px_of (po_lc rfl sc_turned.nd (i_seq (px_name 2)) (blkOk_by (N := N_turned) (sc := (relS sco_turned_0 (defScope s_turned))) (own := [("row", 4)]) (by decide +kernel)) (fun _ _ _ _ _ => (g_nm 4 sc_turned.nd)) (fun _ _ _ _ _ => t_nil) (fun _ _ _ _ _ => (px_ixN (u1 hr) 4 rfl (px_name 3))))))))))))))))))
theorem ok_is_up_down (F : FunD K "is_up_down" "is_up_down" (defArgs s_is_up_down) (defBody s_is_up_down) (defScope s_is_up_down) [] [] f fd) (hm : mg "is_up_down" = some (.ref f)) (m_max : mg "max" = none) (m_min : mg "min" = none) :
    Fd P w K mg base "is_up_down" 1 1 F_is_up_down := by
  refine Fd.mk' (ps := ["heights"]) F hm rfl (fun _ _ _ _ _ _ us hl => match us, hl with | [_], _ => rfl) (fn_okD F sc_is_up_down fun cdv A outer s H E hr => ?_)
  exact (ss_one (ps_retX (po_of (px_chain br_le br_le (px_of (po_blt (u_maxA rfl (u65 hr)) rfl m_max bb_max (pb_of (px_ixN (u1 hr) 0 rfl px_int)))) px_int (px_of (po_blt (u_minA rfl (u65 hr)) rfl m_min bb_min (pb_of (px_ixN (u1 hr) 0 rfl (px_neg px_int)))))))))
theorem ok_is_left_right (F : FunD K "is_left_right" "is_left_right" (defArgs s_is_left_right) (defBody s_is_left_right) (defScope s_is_left_right) [] [] f fd) (hm : mg "is_left_right" = some (.ref f)) (m_max : mg "max" = none) (m_min : mg "min" = none) :
    Fd P w K mg base "is_left_right" 1 1 F_is_left_right := by
  refine Fd.mk' (ps := ["heights"]) F hm rfl (fun _ _ _ _ _ _ us hl => match us, hl with | [_], _ => rfl) (fn_okD F sc_is_left_right fun cdv A outer s H E hr => ?_)
  exact (ss_one (ps_retX (po_of (px_chain br_le br_le (px_of (po_blt (u_maxA rfl (u65 hr)) rfl m_max bb_max (pb_of (px_of (po_lc rfl sc_is_left_right.nd (i_seq (px_name 0)) (blkOk_by (N := N_is_left_right) (sc := (defScope s_is_left_right)) (own := [("row", 1)]) (by decide +kernel)) (fun _ _ _ _ _ => (g_nm 1 sc_is_left_right.nd)) (fun _ _ _ _ _ => t_nil) (fun _ _ _ _ _ => (px_ixN (u1 hr) 1 rfl px_int))))))) px_int (px_of (po_blt (u_minA rfl (u65 hr)) rfl m_min bb_min (pb_of (px_of (po_lc rfl sc_is_left_right.nd (i_seq (px_name 0)) (blkOk_by (N := N_is_left_right) (sc := (defScope s_is_left_right)) (own := [("row", 1)]) (by decide +kernel)) (fun _ _ _ _ _ => (g_nm 1 sc_is_left_right.nd)) (fun _ _ _ _ _ => t_nil) (fun _ _ _ _ _ => (px_ixN (u1 hr) 1 rfl (px_neg px_int))))))))))))
theorem ok__law_blocked (F : FunD K "_law_blocked" "_law_blocked" (defArgs s__law_blocked) (defBody s__law_blocked) (defScope s__law_blocked) [] [] f fd) (hm : mg "_law_blocked" = some (.ref f)) (m_len : mg "len" = none) (m_range : mg "range" = none) (m_any : mg "any" = none) :
    Fd P w K mg base "_law_blocked" 1 1 F__law_blocked := by
  refine Fd.mk' (ps := ["rows"]) F hm rfl (fun _ _ _ _ _ _ us hl => match us, hl with | [_], _ => rfl) (fn_okD F sc__law_blocked fun cdv A outer s H E hr => ?_)
  exact (ss_cons (ps_parT rfl (pl_cons (po_of (px_of (po_blt u_lenA rfl m_len bb_len (pb_name 0)))) (pl_cons (po_of (px_of (po_blt u_lenA rfl m_len bb_len (pb_of (px_ixN (u1 hr) 0 rfl px_int))))) pl_nil)) (go_cons 1 sc__law_blocked.nd (go_cons 2 sc__law_blocked.nd go_nil)))
  (ss_cons (ps_setLcX (i := 3) rfl sc__law_blocked.nd rfl rfl rfl (i_range1 rfl m_range (px_name 2)) (blkOk_by (N := N__law_blocked) (sc := (defScope s__law_blocked)) (own := [("b", 6)]) (by decide +kernel)) (fun _ _ _ _ _ => (g_nm 6 sc__law_blocked.nd)) (fun _ _ _ _ _ => (t_one (pt_cmp (br_ne (u64 hr)) (px_ix (u1 hr) (px_ixN (u1 hr) 0 rfl px_int) (px_name 6)) px_int))) (fun _ _ _ _ _ => (px_tup (pa_consX px_int (pa_consX (px_name 6) pa_nilX)))))
  (ss_cons (ps_setX 4 sc__law_blocked.nd (po_of px_int))
  (ss_cons (ps_whileX fuel (passes_of rfl) (pt_cmp br_lt (px_name 4) (px_of (po_blt u_lenA rfl m_len bb_len (pb_name 3)))) (ss_cons (ps_asgX (px_ixN (u1 hr) 3 rfl (px_name 4)) (g_tp rfl (gs_cons (g_nm 5 sc__law_blocked.nd) (gs_cons (g_nm 6 sc__law_blocked.nd) gs_nil))))
  (ss_cons (ps_setX 4 sc__law_blocked.nd (po_bin br_add (px_name 4) px_int))
  (ss_one (ps_forX (passes_of rfl) rfl (i_seq (px_tup (pa_consX (px_tup (pa_consX (px_bin br_sub (px_name 5) px_int) (pa_consX (px_bin br_sub (px_name 6) px_int) pa_nilX))) (pa_consX (px_tup (pa_consX (px_bin br_sub (px_name 5) px_int) (pa_consX (px_name 6) pa_nilX))) (pa_consX (px_tup (pa_consX (px_bin br_sub (px_name 5) px_int) (pa_consX (px_of (po_bin br_add (px_name 6) px_int)) pa_nilX))) (pa_consX (px_tup (pa_consX (px_name 5) (pa_consX (px_bin br_sub (px_name 6) px_int) pa_nilX))) (pa_consX (px_tup (pa_consX (px_name 5) (pa_consX (px_of (po_bin br_add (px_name 6) px_int)) pa_nilX))) (pa_consX (px_tup (pa_consX (px_of (po_bin br_add (px_name 5) px_int)) (pa_consX (px_bin br_sub (px_name 6) px_int) pa_nilX))) (pa_consX (px_tup (pa_consX (px_of (po_bin br_add (px_name 5) px_int)) (pa_consX (px_name 6) pa_nilX))) (pa_consX (px_tup (pa_consX (px_of (po_bin br_add (px_name 5) px_int)) (pa_consX (px_of (po_bin br_add (px_name 6) px_int)) pa_nilX))) pa_nilX)))))))))) (g_nm 7 sc__law_blocked.nd) (ss_one (ps_ifX (pt_w (pw_andX (pt_chain br_le br_lt px_int (px_ixN (u1 hr) 7 rfl px_int) (px_name 1)) (pw_andX (pt_chain br_le br_lt px_int (px_ixN (u1 hr) 7 rfl px_int) (px_name 2)) (pw_andX (pt_cmpB (bb_notin (u65 hr)) (px_name 7) (pb_name 3)) (pw_lastA (pt_cmp (br_ne (u64 hr)) (px_ix (u1 hr) (px_ixN (u1 hr) 0 rfl (px_ixN (u1 hr) 7 rfl px_int)) (px_ixN (u1 hr) 7 rfl px_int)) px_int)))))) (ss_one (ps_exprX (px_app 3 rfl (px_name 7)))) ss_nil)))))))
  (ss_one (ps_retX (po_of (px_not (px_of (po_blt (u_any rfl) rfl m_any bb_any (pb_of (px_of (po_lc rfl sc__law_blocked.nd (i_seq (px_name 3)) (blkOk_by (N := N__law_blocked) (sc := (defScope s__law_blocked)) (own := [("a", 5), ("b", 6)]) (by decide +kernel)) (fun _ _ _ _ _ => (g_tp rfl (gs_cons (g_nm 5 sc__law_blocked.nd) (gs_cons (g_nm 6 sc__law_blocked.nd) gs_nil)))) (fun _ _ _ _ _ => t_nil) (fun _ _ _ _ _ => (px_cmp (br_eq (u64 hr)) (px_name 5) (px_bin br_sub (px_name 1) px_int))))))))))))))))
theorem ok_noughts (F : FunD K "noughts" "noughts" (defArgs s_noughts) (defBody s_noughts) (defScope s_noughts) [] [] f fd) (hm : mg "noughts" = some (.ref f)) (m_range : mg "range" = none) (c_check_heights : Fd P w K mg base "check_heights" 5 3 F_check_heights) :
    Fd P w K mg base "noughts" 6 3 F_noughts := by
  refine Fd.mk' (ps := ["high", "wide", "heights"]) F hm rfl (fun _ _ _ _ _ _ us hl => match us, hl with | [_, _, _], _ => rfl) (fn_okD F sc_noughts fun cdv A outer s H E hr => ?_)
  exact (ss_cons (ps_exprX (px_of (po_call c_check_heights hr (by decide) rfl (takes_of rfl rfl rfl rfl) (pa_consX (px_name 0) (pa_consX (px_name 1) (pa_consX (px_name 2) pa_nilX))) (len_cons (len_cons (len_cons len_nilA))))))
  (ss_one (ps_retX (po_lc2 rfl sc_noughts.nd (i_range1 rfl m_range (px_name 0)) (blkOk_by (N := N_noughts) (sc := (defScope s_noughts)) (own := [("a", 3), ("b", 4)]) (by decide +kernel)) (fun _ _ _ _ _ => (g_nm 3 sc_noughts.nd)) (fun _ _ _ _ _ => t_nil) (fun _ _ _ _ _ => (i_range1 rfl m_range (px_name 1))) (fun _ _ _ _ _ => (g_nm 4 sc_noughts.nd)) (fun _ _ _ _ _ => (t_one (pt_cmp (br_eq (u64 hr)) (px_ix (u1 hr) (px_ixN (u1 hr) 2 rfl (px_name 3)) (px_name 4)) px_int))) (fun _ _ _ _ _ => (px_tup (pa_consX (px_name 3) (pa_consX (px_name 4) pa_nilX))))))))
theorem ok_common (F : FunD K "common" "common" (defArgs s_common) (defBody s_common) (defScope s_common) [] [] f fd) (hm : mg "common" = some (.ref f)) (c_check_heights : Fd P w K mg base "check_heights" 5 3 F_check_heights) (c_is_up_down : Fd P w K mg base "is_up_down" 1 1 F_is_up_down) (c_is_left_right : Fd P w K mg base "is_left_right" 1 1 F_is_left_right) (c_both_noughts : Fd P w K mg base "both_noughts" 6 4 F_both_noughts) :
    Fd P w K mg base "common" 7 4 F_common := by
  refine Fd.mk' (ps := ["high", "wide", "one", "other"]) F hm rfl (fun _ _ _ _ _ _ us hl => match us, hl with | [_, _, _, _], _ => rfl) (fn_okD F sc_common fun cdv A outer s H E hr => ?_)
  exact (ss_cons (ps_exprX (px_of (po_call c_check_heights hr (by decide) rfl (takes_of rfl rfl rfl rfl) (pa_consX (px_name 0) (pa_consX (px_name 1) (pa_consX (px_name 2) pa_nilX))) (len_cons (len_cons (len_cons len_nilA))))))
  (ss_cons (ps_exprX (px_of (po_call c_check_heights hr (by decide) rfl (takes_of rfl rfl rfl rfl) (pa_consX (px_name 0) (pa_consX (px_name 1) (pa_consX (px_name 3) pa_nilX))) (len_cons (len_cons (len_cons len_nilA))))))
  (ss_cons (ps_ifX (pt_w (pw_orX (pt_notX (pt_of (px_of (po_call c_is_up_down hr (by decide) rfl (takes_of rfl rfl rfl rfl) (pa_consX (px_name 2) pa_nilX) (len_cons len_nilA))))) (pw_lastO (pt_notX (pt_of (px_of (po_call c_is_left_right hr (by decide) rfl (takes_of rfl rfl rfl rfl) (pa_consX (px_name 3) pa_nilX) (len_cons len_nilA)))))))) (ss_one ps_badX) ss_nil)
  (ss_one (ps_retX (po_of (px_ix (u1 hr) (px_of (po_call c_both_noughts hr (by decide) rfl (takes_of rfl rfl rfl rfl) (pa_consX (px_name 0) (pa_consX (px_name 1) (pa_consX (px_name 2) (pa_consX (px_name 3) pa_nilX)))) (len_cons (len_cons (len_cons (len_cons len_nilA)))))) px_int)))))))
theorem ok_around (F : FunD K "around" "around" (defArgs s_around) (defBody s_around) (defScope s_around) [] [] f fd) (hm : mg "around" = some (.ref f)) :
    Fd P w K mg base "around" 1 3 F_around := by
  refine Fd.mk' (ps := ["high", "wide", "cell"]) F hm rfl (fun _ _ _ _ _ _ us hl => match us, hl with | [_, _, _], _ => rfl) (fn_okD F sc_around fun cdv A outer s H E hr => ?_)
  exact (ss_cons (ps_setLc2X (i := 3) rfl sc_around.nd rfl rfl rfl (i_seq (px_tup (pa_consX (px_neg px_int) (pa_consX px_int (pa_consX px_int pa_nilX))))) (blkOk_by (N := N_around) (sc := (defScope s_around)) (own := [("x", 4), ("y", 5)]) (by decide +kernel)) (fun _ _ _ _ _ => (g_nm 4 sc_around.nd)) (fun _ _ _ _ _ => t_nil) (fun _ _ _ _ _ => (i_seq (px_tup (pa_consX (px_neg px_int) (pa_consX px_int (pa_consX px_int pa_nilX)))))) (fun _ _ _ _ _ => (g_nm 5 sc_around.nd)) (fun _ _ _ _ _ => (t_one (pt_cmp (br_ne (u64 hr)) (px_tup (pa_consX (px_name 4) (pa_consX (px_name 5) pa_nilX))) (px_tup (pa_consX px_int (pa_consX px_int pa_nilX)))))) (fun _ _ _ _ _ => (px_tup (pa_consX (px_of (po_bin br_add (px_ixN (u1 hr) 2 rfl px_int) (px_name 4))) (pa_consX (px_of (po_bin br_add (px_ixN (u1 hr) 2 rfl px_int) (px_name 5))) pa_nilX)))))
  (ss_one (ps_retX (po_lc rfl sc_around.nd (i_seq (px_name 3)) (blkOk_by (N := N_around) (sc := (defScope s_around)) (own := [("one", 6)]) (by decide +kernel)) (fun _ _ _ _ _ => (g_nm 6 sc_around.nd)) (fun _ _ _ _ _ => (t_one (pt_w (pw_andX (pt_chain br_le br_lt px_int (px_ixN (u1 hr) 6 rfl px_int) (px_name 0)) (pw_lastA (pt_chain br_le br_lt px_int (px_ixN (u1 hr) 6 rfl px_int) (px_name 1))))))) (fun _ _ _ _ _ => (px_name 6))))))
theorem ok_line_of (F : FunD K "line_of" "line_of" (defArgs s_line_of) (defBody s_line_of) (defScope s_line_of) [] [] f fd) (hm : mg "line_of" = some (.ref f)) (m_len : mg "len" = none) (m_range : mg "range" = none) (c_around : Fd P w K mg base "around" 1 3 F_around) :
    Fd P w K mg base "line_of" 2 1 F_line_of := by
  refine Fd.mk' (ps := ["heights"]) F hm rfl (fun _ _ _ _ _ _ us hl => match us, hl with | [_], _ => rfl) (fn_okD F sc_line_of fun cdv A outer s H E hr => ?_)
  exact (ss_cons (ps_par2 rfl sc_line_of.nd (pl_cons (po_of (px_of (po_blt u_lenA rfl m_len bb_len (pb_name 0)))) (pl_cons (po_of (px_of (po_blt u_lenA rfl m_len bb_len (pb_of (px_ixN (u1 hr) 0 rfl px_int))))) pl_nil)))
  (ss_cons (ps_par3X rfl sc_line_of.nd (pl_cons po_newT (pl_cons (po_lst pa_nilX) (pl_cons (po_of px_int) pl_nil))))
  (ss_cons (ps_forX (passes_of rfl) rfl (i_range1 rfl m_range (px_name 1)) (g_nm 6 sc_line_of.nd) (ss_one (ps_ifX (pt_cmp (br_eq (u64 hr)) (px_ix (u1 hr) (px_ixN (u1 hr) 0 rfl (px_name 6)) px_int) px_int) (ss_cons (ps_setIx (u1 hr) 3 rfl px_non (px_tup (pa_consX (px_name 6) (pa_consX px_int pa_nilX))))
  (ss_one (ps_exprX (px_app 4 rfl (px_tup (pa_consX (px_name 6) (pa_consX px_int pa_nilX))))))) ss_nil)))
  (ss_cons (ps_whileX fuel (passes_of rfl) (pt_cmp br_lt (px_name 5) (px_of (po_blt u_lenA rfl m_len bb_len (pb_name 4)))) (ss_cons (ps_setX 7 sc_line_of.nd (po_of (px_ixN (u1 hr) 4 rfl (px_name 5))))
  (ss_cons (ps_augX 5 sc_line_of.nd ip_add px_int)
  (ss_cons (ps_ifX (pt_cmp (br_eq (u64 hr)) (px_ixN (u1 hr) 7 rfl px_int) (px_bin br_sub (px_name 2) px_int)) (ss_cons (ps_setX 8 sc_line_of.nd (po_lst pa_nilX))
  (ss_cons (ps_whileX fuel (passes_of rfl) (pt_cmp br_isnot (px_name 7) px_non) (ss_cons (ps_exprX (px_app 8 rfl (px_name 7)))
  (ss_one (ps_setX 7 sc_line_of.nd (po_of (px_ixN (u1 hr) 3 rfl (px_name 7)))))))
  (ss_one (ps_retX (po_revL (pb_name 8)))))) ss_nil)
  (ss_one (ps_forX (passes_of rfl) rfl (i_seq (px_of (po_call c_around hr (by decide) rfl (takes_of rfl rfl rfl rfl) (pa_consX (px_name 1) (pa_consX (px_name 2) (pa_consX (px_name 7) pa_nilX))) (len_cons (len_cons (len_cons len_nilA)))))) (g_nm 9 sc_line_of.nd) (ss_one (ps_ifX (pt_w (pw_andX (pt_cmpB (bb_notin (u65 hr)) (px_name 9) (pb_name 3)) (pw_lastA (pt_cmp (br_eq (u64 hr)) (px_ix (u1 hr) (px_ixN (u1 hr) 0 rfl (px_ixN (u1 hr) 9 rfl px_int)) (px_ixN (u1 hr) 9 rfl px_int)) px_int)))) (ss_cons (ps_setIx (u1 hr) 3 rfl (px_name 7) (px_name 9))
  (ss_one (ps_exprX (px_app 4 rfl (px_name 9))))) ss_nil))))))))
  (ss_one (ps_retX (po_of px_non)))))))
theorem ok_line_told (F : FunD K "line_told" "line_told" (defArgs s_line_told) (defBody s_line_told) (defScope s_line_told) [] [] f fd) (hm : mg "line_told" = some (.ref f)) (m_tuple : mg "tuple" = none) (c_check_heights : Fd P w K mg base "check_heights" 5 3 F_check_heights) (c_is_up_down : Fd P w K mg base "is_up_down" 1 1 F_is_up_down) (c_line_of : Fd P w K mg base "line_of" 2 1 F_line_of) :
    Fd P w K mg base "line_told" 6 3 F_line_told := by
  refine Fd.mk' (ps := ["high", "wide", "heights"]) F hm rfl (fun _ _ _ _ _ _ us hl => match us, hl with | [_, _, _], _ => rfl) (fn_okD F sc_line_told fun cdv A outer s H E hr => ?_)
  exact (ss_cons (ps_exprX (px_of (po_call c_check_heights hr (by decide) rfl (takes_of rfl rfl rfl rfl) (pa_consX (px_name 0) (pa_consX (px_name 1) (pa_consX (px_name 2) pa_nilX))) (len_cons (len_cons (len_cons len_nilA))))))
  (ss_cons (ps_ifX (pt_notX (pt_of (px_of (po_call c_is_up_down hr (by decide) rfl (takes_of rfl rfl rfl rfl) (pa_consX (px_name 2) pa_nilX) (len_cons len_nilA))))) (ss_one ps_badX) ss_nil)
  (ss_one (ps_retX (po_of (px_of (po_bty u_tup rfl m_tuple bb_tuple (pb_of (px_of (po_call c_line_of hr (by decide) rfl (takes_of rfl rfl rfl rfl) (pa_consX (px_name 2) pa_nilX) (len_cons len_nilA)))))))))))
theorem ok__law_is_right (F : FunD K "_law_is_right" "_law_is_right" (defArgs s__law_is_right) (defBody s__law_is_right) (defScope s__law_is_right) [] [] f fd) (hm : mg "_law_is_right" = some (.ref f)) (m_len : mg "len" = none) (m_all : mg "all" = none) (c__law_draw : Fd P w K mg base "_law_draw" 1 2 F__law_draw) (c__law_steep : Fd P w K mg base "_law_steep" 2 3 F__law_steep) (c_turned : Fd P w K mg base "turned" 6 3 F_turned) (c_is_heights : Fd P w K mg base "is_heights" 4 3 F_is_heights) (c_is_up_down : Fd P w K mg base "is_up_down" 1 1 F_is_up_down) (c_is_left_right : Fd P w K mg base "is_left_right" 1 1 F_is_left_right) (c__law_blocked : Fd P w K mg base "_law_blocked" 1 1 F__law_blocked) (c_noughts : Fd P w K mg base "noughts" 6 3 F_noughts) (c_common : Fd P w K mg base "common" 7 4 F_common) (c_both_noughts : Fd P w K mg base "both_noughts" 6 4 F_both_noughts) (c_line_told : Fd P w K mg base "line_told" 6 3 F_line_told) :
    Fd P w K mg base "_law_is_right" 8 1 F__law_is_right := by
  refine Fd.mk' (ps := ["hand"]) F hm rfl (fun _ _ _ _ _ _ us hl => match us, hl with | [_], _ => rfl) (fn_okD F sc__law_is_right fun cdv A outer s H E hr => ?_)
  exact (ss_cons (ps_par2 rfl sc__law_is_right.nd (pl_cons (po_bin br_add px_int (px_of (po_call c__law_draw hr (by decide) rfl (takes_of rfl rfl rfl rfl) (pa_consX (px_name 0) (pa_consX px_int pa_nilX)) (len_cons (len_cons len_nilA))))) (pl_cons (po_bin br_add px_int (px_of (po_call c__law_draw hr (by decide) rfl (takes_of rfl rfl rfl rfl) (pa_consX (px_name 0) (pa_consX px_int pa_nilX)) (len_cons (len_cons len_nilA))))) pl_nil)))
  (ss_cons (ps_setX 3 sc__law_is_right.nd (po_call c__law_steep hr (by decide) rfl (takes_of rfl rfl rfl rfl) (pa_consX (px_name 0) (pa_consX (px_name 1) (pa_consX (px_name 2) pa_nilX))) (len_cons (len_cons (len_cons len_nilA)))))
  (ss_cons (ps_setX 4 sc__law_is_right.nd (po_call c_turned hr (by decide) rfl (takes_of rfl rfl rfl rfl) (pa_consX (px_name 2) (pa_consX (px_name 1) (pa_consX (px_of (po_call c__law_steep hr (by decide) rfl (takes_of rfl rfl rfl rfl) (pa_consX (px_name 0) (pa_consX (px_name 2) (pa_consX (px_name 1) pa_nilX))) (len_cons (len_cons (len_cons len_nilA))))) pa_nilX))) (len_cons (len_cons (len_cons len_nilA)))))
  (ss_cons (ps_ifX (pt_w (pw_orX (pt_cmp br_isnot (px_of (po_call c_is_heights hr (by decide) rfl (takes_of rfl rfl rfl rfl) (pa_consX (px_name 1) (pa_consX (px_name 2) (pa_consX (px_name 3) pa_nilX))) (len_cons (len_cons (len_cons len_nilA))))) px_bl) (pw_lastO (pt_cmp br_isnot (px_of (po_call c_is_heights hr (by decide) rfl (takes_of rfl rfl rfl rfl) (pa_consX (px_name 1) (pa_consX (px_name 2) (pa_consX (px_name 4) pa_nilX))) (len_cons (len_cons (len_cons len_nilA))))) px_bl)))) (ss_one (ps_retX (po_of px_bl))) ss_nil)
  (ss_cons (ps_ifX (pt_w (pw_orX (pt_notX (pt_of (px_of (po_call c_is_up_down hr (by decide) rfl (takes_of rfl rfl rfl rfl) (pa_consX (px_name 3) pa_nilX) (len_cons len_nilA))))) (pw_lastO (pt_notX (pt_of (px_of (po_call c_is_left_right hr (by decide) rfl (takes_of rfl rfl rfl rfl) (pa_consX (px_name 4) pa_nilX) (len_cons len_nilA)))))))) (ss_one (ps_retX (po_of px_bl))) ss_nil)
  (ss_cons (ps_ifX (pt_notX (pt_of (px_of (po_call c__law_blocked hr (by decide) rfl (takes_of rfl rfl rfl rfl) (pa_consX (px_name 3) pa_nilX) (len_cons len_nilA))))) (ss_one (ps_retX (po_of px_bl))) ss_nil)
  (ss_cons (ps_setLcX (i := 5) rfl sc__law_is_right.nd rfl rfl rfl (i_seq (px_of (po_call c_noughts hr (by decide) rfl (takes_of rfl rfl rfl rfl) (pa_consX (px_name 1) (pa_consX (px_name 2) (pa_consX (px_name 3) pa_nilX))) (len_cons (len_cons (len_cons len_nilA)))))) (blkOk_by (N := N__law_is_right) (sc := (defScope s__law_is_right)) (own := [("spot", 7)]) (by decide +kernel)) (fun _ _ _ _ _ => (g_nm 7 sc__law_is_right.nd)) (fun _ _ _ _ _ => (t_one (pt_cmp (br_eq (u64 hr)) (px_ix (u1 hr) (px_ixN (u1 hr) 4 rfl (px_ixN (u1 hr) 7 rfl px_int)) (px_ixN (u1 hr) 7 rfl px_int)) px_int))) (fun _ _ _ _ _ => (px_name 7)))
  (ss_cons (ps_ifX (pt_w (pw_orX (pt_cmp (br_eq (u64 hr)) (px_of (po_blt u_lenA rfl m_len bb_len (pb_name 5))) px_int) (pw_orX (pt_cmp (br_ne (u64 hr)) (px_of (po_call c_common hr (by decide) rfl (takes_of rfl rfl rfl rfl) (pa_consX (px_name 1) (pa_consX (px_name 2) (pa_consX (px_name 3) (pa_consX (px_name 4) pa_nilX)))) (len_cons (len_cons (len_cons (len_cons len_nilA)))))) (px_ixN (u1 hr) 5 rfl px_int)) (pw_lastO (pt_cmp (br_ne (u64 hr)) (px_of (po_call c_both_noughts hr (by decide) rfl (takes_of rfl rfl rfl rfl) (pa_consX (px_name 1) (pa_consX (px_name 2) (pa_consX (px_name 3) (pa_consX (px_name 4) pa_nilX)))) (len_cons (len_cons (len_cons (len_cons len_nilA)))))) (px_name 5)))))) (ss_one (ps_retX (po_of px_bl))) ss_nil)
  (ss_cons (ps_setX 6 sc__law_is_right.nd (po_call c_line_told hr (by decide) rfl (takes_of rfl rfl rfl rfl) (pa_consX (px_name 1) (pa_consX (px_name 2) (pa_consX (px_name 3) pa_nilX))) (len_cons (len_cons (len_cons len_nilA)))))
  (ss_one (ps_retX (po_of (px_and (px_of (po_blt (u_all rfl) rfl m_all bb_all (pb_of (px_of (po_lc rfl sc__law_is_right.nd (i_seq (px_name 6)) (blkOk_by (N := N__law_is_right) (sc := (defScope s__law_is_right)) (own := [("a", 8), ("b", 9)]) (by decide +kernel)) (fun _ _ _ _ _ => (g_tp rfl (gs_cons (g_nm 8 sc__law_is_right.nd) (gs_cons (g_nm 9 sc__law_is_right.nd) gs_nil)))) (fun _ _ _ _ _ => t_nil) (fun _ _ _ _ _ => (px_cmp (br_eq (u64 hr)) (px_ix (u1 hr) (px_ixN (u1 hr) 3 rfl (px_name 8)) (px_name 9)) px_int))))))) (px_one (px_cmp br_ge (px_of (po_blt u_lenA rfl m_len bb_len (pb_name 6))) (px_name 2))))))))))))))))
theorem ok_law (F : FunD K "law" "law" (defArgs s_law) (defBody s_law) (defScope s_law) [] [] f fd) (m_range : mg "range" = none) (m_all : mg "all" = none) (c__law_hand : Fd P w K mg base "_law_hand" 1 1 F__law_hand) (c_both_noughts : Fd P w K mg base "both_noughts" 6 4 F_both_noughts) (c__law_is_right : Fd P w K mg base "_law_is_right" 8 1 F__law_is_right) :
    FnOk P w K mg base (L2.CX P w) 9 f fd ["script"] (spF K 1 F_law) := by
  refine fn_okD F sc_law fun cdv A outer s H E hr => ?_
  exact (ss_cons (ps_cell 1 sc_law.nd (po_call c__law_hand hr (by decide) rfl (takes_of rfl rfl rfl rfl) (pa_consX (px_name 0) pa_nilX) (len_cons len_nilA)))
  (ss_cons (ps_ifX (pt_cmp (br_ne (u64 hr)) (px_of (po_call c_both_noughts hr (by decide) rfl (takes_of rfl rfl rfl rfl) (pa_consX px_int (pa_consX px_int (pa_consX (px_tup (pa_consX (px_tup (pa_consX px_int (pa_consX px_int pa_nilX))) (pa_consX (px_tup (pa_consX px_int (pa_consX px_int pa_nilX))) pa_nilX))) (pa_consX (px_tup (pa_consX (px_tup (pa_consX px_int (pa_consX px_int pa_nilX))) (pa_consX (px_tup (pa_consX px_int (pa_consX px_int pa_nilX))) pa_nilX))) pa_nilX)))) (len_cons (len_cons (len_cons (len_cons len_nilA)))))) (px_of (po_lst (pa_consX (px_tup (pa_consX px_int (pa_consX px_int pa_nilX))) (pa_consX (px_tup (pa_consX px_int (pa_consX px_int pa_nilX))) pa_nilX))))) (ss_one (ps_retX (po_of px_bl))) ss_nil)
  (ss_one (ps_retX (po_of (px_of (po_blt (u_all rfl) rfl m_all bb_all (pb_of (px_of (po_lc rfl sc_law.nd (i_range1 rfl m_range px_int) (blkOk_by (N := N_law) (sc := (defScope s_law)) (own := [("turn", 2)]) (by decide +kernel)) (fun _ _ _ _ _ => (g_nm 2 sc_law.nd)) (fun _ _ _ _ _ => t_nil) (fun _ _ _ _ _ => (px_of (po_call c__law_is_right hr (by decide) rfl takes0 (pa_consX (px_name 1) pa_nilX) (len_cons len_nilA))))))))))))))
end
def d__law_hand : He.DefD := ⟨("_law_hand", none), "_law_hand", "_law_hand", defArgs s__law_hand, defBody s__law_hand, defScope s__law_hand, [], []⟩
def d_is_integer : He.DefD := ⟨("is_integer", none), "is_integer", "is_integer", defArgs s_is_integer, defBody s_is_integer, defScope s_is_integer, [], []⟩
def d_is_within : He.DefD := ⟨("is_within", none), "is_within", "is_within", defArgs s_is_within, defBody s_is_within, defScope s_is_within, [], []⟩
def d_check_sides : He.DefD := ⟨("check_sides", none), "check_sides", "check_sides", defArgs s_check_sides, defBody s_check_sides, defScope s_check_sides, [], []⟩
def d_is_tuple : He.DefD := ⟨("is_tuple", none), "is_tuple", "is_tuple", defArgs s_is_tuple, defBody s_is_tuple, defScope s_is_tuple, [], []⟩
def d_is_heights : He.DefD := ⟨("is_heights", none), "is_heights", "is_heights", defArgs s_is_heights, defBody s_is_heights, defScope s_is_heights, [], []⟩
def d_check_heights : He.DefD := ⟨("check_heights", none), "check_heights", "check_heights", defArgs s_check_heights, defBody s_check_heights, defScope s_check_heights, [], []⟩
def d_both_noughts : He.DefD := ⟨("both_noughts", none), "both_noughts", "both_noughts", defArgs s_both_noughts, defBody s_both_noughts, defScope s_both_noughts, [], []⟩
def d__law_draw : He.DefD := ⟨("_law_draw", none), "_law_draw", "_law_draw", defArgs s__law_draw, defBody s__law_draw, defScope s__law_draw, [], []⟩
def d__law_steep : He.DefD := ⟨("_law_steep", none), "_law_steep", "_law_steep", defArgs s__law_steep, defBody s__law_steep, defScope s__law_steep, [], []⟩
def d_turned : He.DefD := ⟨("turned", none), "turned", "turned", defArgs s_turned, defBody s_turned, defScope s_turned, [], []⟩
def d_is_up_down : He.DefD := ⟨("is_up_down", none), "is_up_down", "is_up_down", defArgs s_is_up_down, defBody s_is_up_down, defScope s_is_up_down, [], []⟩
def d_is_left_right : He.DefD := ⟨("is_left_right", none), "is_left_right", "is_left_right", defArgs s_is_left_right, defBody s_is_left_right, defScope s_is_left_right, [], []⟩
def d__law_blocked : He.DefD := ⟨("_law_blocked", none), "_law_blocked", "_law_blocked", defArgs s__law_blocked, defBody s__law_blocked, defScope s__law_blocked, [], []⟩
def d_noughts : He.DefD := ⟨("noughts", none), "noughts", "noughts", defArgs s_noughts, defBody s_noughts, defScope s_noughts, [], []⟩
def d_common : He.DefD := ⟨("common", none), "common", "common", defArgs s_common, defBody s_common, defScope s_common, [], []⟩
def d_around : He.DefD := ⟨("around", none), "around", "around", defArgs s_around, defBody s_around, defScope s_around, [], []⟩
def d_line_of : He.DefD := ⟨("line_of", none), "line_of", "line_of", defArgs s_line_of, defBody s_line_of, defScope s_line_of, [], []⟩
def d_line_told : He.DefD := ⟨("line_told", none), "line_told", "line_told", defArgs s_line_told, defBody s_line_told, defScope s_line_told, [], []⟩
def d__law_is_right : He.DefD := ⟨("_law_is_right", none), "_law_is_right", "_law_is_right", defArgs s__law_is_right, defBody s__law_is_right, defScope s__law_is_right, [], []⟩
def d_law : He.DefD := ⟨("law", none), "law", "law", defArgs s_law, defBody s_law, defScope s_law, [], []⟩
def fn : List He.DefD := [d__law_hand, d_is_integer, d_is_within, d_check_sides, d_is_tuple, d_is_heights, d_check_heights, d_both_noughts, d__law_draw, d__law_steep, d_turned, d_is_up_down, d_is_left_right, d__law_blocked, d_noughts, d_common, d_around, d_line_of, d_line_told, d__law_is_right, d_law]
def fa0 : List He.Fa := [.glo "_law_hand", .glo "is_integer", .glo "is_within", .glo "check_sides", .glo "is_tuple", .glo "is_heights", .glo "check_heights", .glo "both_noughts", .glo "_law_draw", .glo "_law_steep", .glo "turned", .glo "is_up_down", .glo "is_left_right", .glo "_law_blocked", .glo "noughts", .glo "common", .glo "around", .glo "line_of", .glo "line_told", .glo "_law_is_right", .glo "law", .free "int", .free "abs", .free "len", .free "isinstance", .free "bool", .int "MOST_SIDE" 8, .free "tuple", .free "all", .free "range"]
def fa1 : List He.Fa := [.free "min", .free "max", .free "any"]
def fa : List He.Fa := fa0 ++ fa1
def loose0 : List Str := ["is_integer", "is_within", "is_tuple", "DoorError", "NoNumber", "NoHeights", "MOST_SIDE", "is_heights", "check_sides", "check_heights", "is_up_down", "is_left_right", "noughts", "line_of", "around", "line_told", "common", "both_noughts", "turned", "_law_hand", "_law_draw", "_law_any", "_law_steep", "_law_blocked", "_law_is_right"]
def loose : List Str := loose0
abbrev R : PySem.W.OpenRow := PySem.W.OpenLaw.row PySem.Challenge.rw_doorroads_k63_whole_common_cells_of_stee
abbrev hk : PySem.W.Hook := He.hookD 4 fa fn
def ob (s : PySem.W.SharedT) : He.AlD := He.obsDG 4 fa fn (HandSHeadRun.getT s)
theorem ob_eq (s : PySem.W.SharedT) : ob s = hk.obs s.abs := He.obsDG_eq (HandSHeadRun.getT_eq s)
theorem run (w : World) : HandSHeadRun.RunEq R (PySem.W.view R.prog [29]) hk ob 3000 loose w := by
  intro os
  kernel_rfl
theorem facts {P : Program} {w : World} {K : PySem.W.Frag} {h : Heap} {mg : Str → Option Value} {f : Addr} (X : K.In h) (G : h.Ns mainGlobals mg) (hfa : mg ("law" : Str) = some (.ref f)) (c : He.SaysD fa fn K) :
    ∃ fd : FuncData, (∀ (s : Shared) (v : Value), BindsTo s fd ⟨[v], []⟩ [("script", v)]) ∧ ∀ base : Heap, K.In base → base.Ns mainGlobals mg → FnOk P w K mg base (L2.CX P w) 9 f fd ["script"] (spF K 1 F_law) := by
  obtain ⟨fd__law_hand, D__law_hand⟩ := c.def_ 0 (d := d__law_hand) rfl
  have h__law_hand := He.glo_ok X G (c.fact 0 (f := .glo "_law_hand") rfl)
  obtain ⟨fd_is_integer, D_is_integer⟩ := c.def_ 1 (d := d_is_integer) rfl
  have h_is_integer := He.glo_ok X G (c.fact 1 (f := .glo "is_integer") rfl)
  obtain ⟨fd_is_within, D_is_within⟩ := c.def_ 2 (d := d_is_within) rfl
  have h_is_within := He.glo_ok X G (c.fact 2 (f := .glo "is_within") rfl)
  obtain ⟨fd_check_sides, D_check_sides⟩ := c.def_ 3 (d := d_check_sides) rfl
  have h_check_sides := He.glo_ok X G (c.fact 3 (f := .glo "check_sides") rfl)
  obtain ⟨fd_is_tuple, D_is_tuple⟩ := c.def_ 4 (d := d_is_tuple) rfl
  have h_is_tuple := He.glo_ok X G (c.fact 4 (f := .glo "is_tuple") rfl)
  obtain ⟨fd_is_heights, D_is_heights⟩ := c.def_ 5 (d := d_is_heights) rfl
  have h_is_heights := He.glo_ok X G (c.fact 5 (f := .glo "is_heights") rfl)
  obtain ⟨fd_check_heights, D_check_heights⟩ := c.def_ 6 (d := d_check_heights) rfl
  have h_check_heights := He.glo_ok X G (c.fact 6 (f := .glo "check_heights") rfl)
  obtain ⟨fd_both_noughts, D_both_noughts⟩ := c.def_ 7 (d := d_both_noughts) rfl
  have h_both_noughts := He.glo_ok X G (c.fact 7 (f := .glo "both_noughts") rfl)
  obtain ⟨fd__law_draw, D__law_draw⟩ := c.def_ 8 (d := d__law_draw) rfl
  have h__law_draw := He.glo_ok X G (c.fact 8 (f := .glo "_law_draw") rfl)
  obtain ⟨fd__law_steep, D__law_steep⟩ := c.def_ 9 (d := d__law_steep) rfl
  have h__law_steep := He.glo_ok X G (c.fact 9 (f := .glo "_law_steep") rfl)
  obtain ⟨fd_turned, D_turned⟩ := c.def_ 10 (d := d_turned) rfl
  have h_turned := He.glo_ok X G (c.fact 10 (f := .glo "turned") rfl)
  obtain ⟨fd_is_up_down, D_is_up_down⟩ := c.def_ 11 (d := d_is_up_down) rfl
  have h_is_up_down := He.glo_ok X G (c.fact 11 (f := .glo "is_up_down") rfl)
  obtain ⟨fd_is_left_right, D_is_left_right⟩ := c.def_ 12 (d := d_is_left_right) rfl
  have h_is_left_right := He.glo_ok X G (c.fact 12 (f := .glo "is_left_right") rfl)
  obtain ⟨fd__law_blocked, D__law_blocked⟩ := c.def_ 13 (d := d__law_blocked) rfl
  have h__law_blocked := He.glo_ok X G (c.fact 13 (f := .glo "_law_blocked") rfl)
  obtain ⟨fd_noughts, D_noughts⟩ := c.def_ 14 (d := d_noughts) rfl
  have h_noughts := He.glo_ok X G (c.fact 14 (f := .glo "noughts") rfl)
  obtain ⟨fd_common, D_common⟩ := c.def_ 15 (d := d_common) rfl
  have h_common := He.glo_ok X G (c.fact 15 (f := .glo "common") rfl)
  obtain ⟨fd_around, D_around⟩ := c.def_ 16 (d := d_around) rfl
  have h_around := He.glo_ok X G (c.fact 16 (f := .glo "around") rfl)
  obtain ⟨fd_line_of, D_line_of⟩ := c.def_ 17 (d := d_line_of) rfl
  have h_line_of := He.glo_ok X G (c.fact 17 (f := .glo "line_of") rfl)
  obtain ⟨fd_line_told, D_line_told⟩ := c.def_ 18 (d := d_line_told) rfl
  have h_line_told := He.glo_ok X G (c.fact 18 (f := .glo "line_told") rfl)
  obtain ⟨fd__law_is_right, D__law_is_right⟩ := c.def_ 19 (d := d__law_is_right) rfl
  have h__law_is_right := He.glo_ok X G (c.fact 19 (f := .glo "_law_is_right") rfl)
  obtain ⟨fd_law, D_law⟩ := c.def_ 20 (d := d_law) rfl
  have m_int := He.free_ok X G (c.fact 21 (f := .free "int") rfl)
  have m_abs := He.free_ok X G (c.fact 22 (f := .free "abs") rfl)
  have m_len := He.free_ok X G (c.fact 23 (f := .free "len") rfl)
  have m_isinstance := He.free_ok X G (c.fact 24 (f := .free "isinstance") rfl)
  have m_bool := He.free_ok X G (c.fact 25 (f := .free "bool") rfl)
  obtain ⟨t_MOST_SIDE, g_MOST_SIDE⟩ := He.int_ok X G (c.fact 26 (f := .int "MOST_SIDE" 8) rfl)
  have m_tuple := He.free_ok X G (c.fact 27 (f := .free "tuple") rfl)
  have m_all := He.free_ok X G (c.fact 28 (f := .free "all") rfl)
  have m_range := He.free_ok X G (c.fact 29 (f := .free "range") rfl)
  have m_min := He.free_ok X G (c.fact 30 (f := .free "min") rfl)
  have m_max := He.free_ok X G (c.fact 31 (f := .free "max") rfl)
  have m_any := He.free_ok X G (c.fact 32 (f := .free "any") rfl)
  have e := hfa.symm.trans (He.glo_ok X G (c.fact 20 (f := .glo "law") rfl))
  cases e
  refine ⟨fd_law, fun s v => FunD.bindsA (ps := ["script"]) D_law (fun _ _ _ _ _ _ us hl => match us, hl with | [_], _ => rfl) s [v] rfl, fun base _ _ => ?_⟩
  have c__law_hand := ok__law_hand (P := P) (w := w) (base := base) D__law_hand h__law_hand m_int m_abs m_len
  have c_is_integer := ok_is_integer (P := P) (w := w) (base := base) D_is_integer h_is_integer m_isinstance m_int m_bool
  have c_is_within := ok_is_within (P := P) (w := w) (base := base) D_is_within h_is_within c_is_integer
  have c_check_sides := ok_check_sides (P := P) (w := w) (base := base) D_check_sides h_check_sides g_MOST_SIDE c_is_within
  have c_is_tuple := ok_is_tuple (P := P) (w := w) (base := base) D_is_tuple h_is_tuple m_isinstance m_tuple m_len
  have c_is_heights := ok_is_heights (P := P) (w := w) (base := base) D_is_heights h_is_heights m_all m_range m_abs c_check_sides c_is_tuple c_is_within
  have c_check_heights := ok_check_heights (P := P) (w := w) (base := base) D_check_heights h_check_heights c_is_heights
  have c_both_noughts := ok_both_noughts (P := P) (w := w) (base := base) D_both_noughts h_both_noughts m_range c_check_heights
  have c__law_draw := ok__law_draw (P := P) (w := w) (base := base) D__law_draw h__law_draw m_len m_int
  have c__law_steep := ok__law_steep (P := P) (w := w) (base := base) D__law_steep h__law_steep m_range m_min m_max m_tuple c__law_draw
  have c_turned := ok_turned (P := P) (w := w) (base := base) D_turned h_turned m_range m_tuple c_check_heights
  have c_is_up_down := ok_is_up_down (P := P) (w := w) (base := base) D_is_up_down h_is_up_down m_max m_min
  have c_is_left_right := ok_is_left_right (P := P) (w := w) (base := base) D_is_left_right h_is_left_right m_max m_min
  have c__law_blocked := ok__law_blocked (P := P) (w := w) (base := base) D__law_blocked h__law_blocked m_len m_range m_any
  have c_noughts := ok_noughts (P := P) (w := w) (base := base) D_noughts h_noughts m_range c_check_heights
  have c_common := ok_common (P := P) (w := w) (base := base) D_common h_common c_check_heights c_is_up_down c_is_left_right c_both_noughts
  have c_around := ok_around (P := P) (w := w) (base := base) D_around h_around
  have c_line_of := ok_line_of (P := P) (w := w) (base := base) D_line_of h_line_of m_len m_range c_around
  have c_line_told := ok_line_told (P := P) (w := w) (base := base) D_line_told h_line_told m_tuple c_check_heights c_is_up_down c_line_of
  have c__law_is_right := ok__law_is_right (P := P) (w := w) (base := base) D__law_is_right h__law_is_right m_len m_all c__law_draw c__law_steep c_turned c_is_heights c_is_up_down c_is_left_right c__law_blocked c_noughts c_common c_both_noughts c_line_told
  exact ok_law D_law m_range m_all c__law_hand c_both_noughts c__law_is_right
end K63
namespace K63
open PySem DR
theorem draw_a (cells : List PV) (a b c d m : Int) (hm : 0 < m) (hm2 : m < 1073741824) (hb : 0 < b) : F__law_draw [.cell 0, .int m] [HandP cells a b c d] = .ok (.int (b % m)) false [HandP cells a (b / m) c d] := by
  have hb0 : ¬ b = 0 := by omega
  simp only [F__law_draw, b__law_draw, HandP, seqS_ap, kSeq_nx, kSeq_rt, kSeq_bk, kSeq_ct, retS_ap, kRet_ap, retN_ap, exprS_ap, kNx_ap, ifS_ap, ifE_ap, ifO_ap, kIf_t, kIf_f, badS_ap, nextS_ap, setS_ap, kSet_v, kSet_o, cellS_ap, kCell_ap, parS_ap, kPar_2, kPar_3, kPar_4, putSl_v, putSl_o, asgS_ap, kAsg_ap, kAsg2_ap, asgT_nm, asgT_tp, asgTs_nil, asgTs_nm, augS_ap, kAug_ap, kAug1_ap, kAug2_ap, nameE_ap, kNm_v, kNm_o, nameB_ap, kNb_o, kNb_v, kNc_cell, kNd_ap, kNc_int, kNc_bl, kNc_non, kNc_str, kNc_tup, kNc_lst, kNc_scr, kNc_dK, kNc_dT, kNc_ins, kMod_o, kMod_c, kMc_ap, kMo_ap, kMd_ap, appE_ap, kAp_ap, kAp2_ap, appU_ok, setIxS_ap, kSi_ap, kSi2_ap, kSi3_ap, setU_lst, augIxS_ap, kAx_ap, kAx1_ap, kAx1b_ap, kAx2_ap, kAx3_ap, kAx4_ap, lixG_ok, sharedE_ap, kSh_ap, plainE_ap, kPl_ap, constE_ap, nilA_ap, consA_ap, kCo_ap, kCo2_ap, nilL_ap, consL_ap, tupE_ap, lstE_ap, kTu_ap, kLs_ap, kOp_ap, kOp_no, binO_ap, kBi_ap, kBi2_ap, binE_ap, kBe_ap, kBe2_ap, chainE_ap, kCh_ap, kCh2_ap, kCh3_t, kCh3_f, kCh4_ap, testE_ap, toB_ap, andE_ap, orE_ap, notE_ap, kAnd_t, kAnd_f, kOr_t, kOr_f, kNot_ap, andT_ap, orT_ap, notT_ap, kAndT_t, kAndT_f, kOrT_t, kOrT_f, kNotT_ap, negE_ap, kNeg_ap, callO_ap, kCall_ap, kFr_ap, kFr_exc, un1O_ap, kUn_ap, un1E_ap, kUe_ap, lenG_lst, lenG_tup, lenG_scr, tupG_lst, tupG_tup, listG_lst, listG_tup, intG_int, intG_bl, absG_int, ixN_ap, kIx_ap, kIx2_ap, kIx3_ap, ixE_ap, kIe_ap, kIe2_ap, ixG_lst, ixG_tup, ixG_scr, noQ_ap, someQ_ap, kSq_ap, cutO_ap, kCt_ap, kCt2_ap, kCt3_ap, cutN_ap, kCn_ap, kCn2_ap, kCn3_ap, kCn4_ap, newK_ap, newT_ap, seqI_ap, seqP_lst, seqP_tup, seqP_scr, range1I_ap, kR1_ap, range2I_ap, kR2_ap, kR2b_ap, forS_ap, bodyF_ap, kBody_rt, kBody_nx, kBody_exc, yesT_ap, ix0, ix1, allG_ok, anyG_ok, sumG_ok, bind_ok, bind_bad, bind_exc, noX_ok, isi_int_int, isi_int_bool, isi_tup_tup, isi_lst_lst, isi_lst_tup, isi_tup_lst, subI_ok, addI_ok, ltI_ok, leI_ok, gtI_ok, geI_ok, cmpI_ok, max2_ok, min2_ok, eq_int, mul_modL, List.set_cons_zero, List.set_cons_succ, List.length_cons, List.length_nil, List.nil_append, List.cons_append, Nat.reduceAdd, Nat.reduceLeDiff, Nat.reduceLT, Nat.le_refl, decide_true, decide_false, Bool.not_true, Bool.not_false, Bool.true_and, Bool.false_and, Bool.and_true, Bool.and_false, Bool.true_or, Bool.false_or, Bool.or_true, Bool.or_false, Bool.false_bne, Bool.true_bne, Int.reduceLT, Int.reduceLE, Int.reducePow, Int.reduceNeg, Int.reduceToNat, if_true, if_false, frameE, List.map_cons, List.map_nil, List.replicate_succ, List.replicate_zero, Nat.reduceSub, List.replicate, ix0, ix1, and_self, true_and, and_true, pow_10_18, forL_nil, forL_ap, kFor_ap, kFor2_nx, kFor2_ct, kFor2_bk, kFor2_rt, lenA_lst, lenA_tup, lenA_scr, lenA_dK, lenA_dT, addI_ap, hb, hb0, modI_ok hm, fdivI_ok hm hm2]
theorem draw_b (cells : List PV) (a c d m : Int) (hm : 0 < m) (hm2 : m < 1073741824) (ha : ¬ a < cells.length) : ∃ r, F__law_draw [.cell 0, .int m] [HandP cells a 0 c d] = .ok (.int (r % m)) false [HandP cells a 0 c (d + 1)] := by
  apply Exists.intro
  simp only [F__law_draw, b__law_draw, HandP, seqS_ap, kSeq_nx, kSeq_rt, kSeq_bk, kSeq_ct, retS_ap, kRet_ap, retN_ap, exprS_ap, kNx_ap, ifS_ap, ifE_ap, ifO_ap, kIf_t, kIf_f, badS_ap, nextS_ap, setS_ap, kSet_v, kSet_o, cellS_ap, kCell_ap, parS_ap, kPar_2, kPar_3, kPar_4, putSl_v, putSl_o, asgS_ap, kAsg_ap, kAsg2_ap, asgT_nm, asgT_tp, asgTs_nil, asgTs_nm, augS_ap, kAug_ap, kAug1_ap, kAug2_ap, nameE_ap, kNm_v, kNm_o, nameB_ap, kNb_o, kNb_v, kNc_cell, kNd_ap, kNc_int, kNc_bl, kNc_non, kNc_str, kNc_tup, kNc_lst, kNc_scr, kNc_dK, kNc_dT, kNc_ins, kMod_o, kMod_c, kMc_ap, kMo_ap, kMd_ap, appE_ap, kAp_ap, kAp2_ap, appU_ok, setIxS_ap, kSi_ap, kSi2_ap, kSi3_ap, setU_lst, augIxS_ap, kAx_ap, kAx1_ap, kAx1b_ap, kAx2_ap, kAx3_ap, kAx4_ap, lixG_ok, sharedE_ap, kSh_ap, plainE_ap, kPl_ap, constE_ap, nilA_ap, consA_ap, kCo_ap, kCo2_ap, nilL_ap, consL_ap, tupE_ap, lstE_ap, kTu_ap, kLs_ap, kOp_ap, kOp_no, binO_ap, kBi_ap, kBi2_ap, binE_ap, kBe_ap, kBe2_ap, chainE_ap, kCh_ap, kCh2_ap, kCh3_t, kCh3_f, kCh4_ap, testE_ap, toB_ap, andE_ap, orE_ap, notE_ap, kAnd_t, kAnd_f, kOr_t, kOr_f, kNot_ap, andT_ap, orT_ap, notT_ap, kAndT_t, kAndT_f, kOrT_t, kOrT_f, kNotT_ap, negE_ap, kNeg_ap, callO_ap, kCall_ap, kFr_ap, kFr_exc, un1O_ap, kUn_ap, un1E_ap, kUe_ap, lenG_lst, lenG_tup, lenG_scr, tupG_lst, tupG_tup, listG_lst, listG_tup, intG_int, intG_bl, absG_int, ixN_ap, kIx_ap, kIx2_ap, kIx3_ap, ixE_ap, kIe_ap, kIe2_ap, ixG_lst, ixG_tup, ixG_scr, noQ_ap, someQ_ap, kSq_ap, cutO_ap, kCt_ap, kCt2_ap, kCt3_ap, cutN_ap, kCn_ap, kCn2_ap, kCn3_ap, kCn4_ap, newK_ap, newT_ap, seqI_ap, seqP_lst, seqP_tup, seqP_scr, range1I_ap, kR1_ap, range2I_ap, kR2_ap, kR2b_ap, forS_ap, bodyF_ap, kBody_rt, kBody_nx, kBody_exc, yesT_ap, ix0, ix1, allG_ok, anyG_ok, sumG_ok, bind_ok, bind_bad, bind_exc, noX_ok, isi_int_int, isi_int_bool, isi_tup_tup, isi_lst_lst, isi_lst_tup, isi_tup_lst, subI_ok, addI_ok, ltI_ok, leI_ok, gtI_ok, geI_ok, cmpI_ok, max2_ok, min2_ok, eq_int, mul_modL, List.set_cons_zero, List.set_cons_succ, List.length_cons, List.length_nil, List.nil_append, List.cons_append, Nat.reduceAdd, Nat.reduceLeDiff, Nat.reduceLT, Nat.le_refl, decide_true, decide_false, Bool.not_true, Bool.not_false, Bool.true_and, Bool.false_and, Bool.and_true, Bool.and_false, Bool.true_or, Bool.false_or, Bool.or_true, Bool.or_false, Bool.false_bne, Bool.true_bne, Int.reduceLT, Int.reduceLE, Int.reducePow, Int.reduceNeg, Int.reduceToNat, if_true, if_false, frameE, List.map_cons, List.map_nil, List.replicate_succ, List.replicate_zero, Nat.reduceSub, List.replicate, ix0, ix1, and_self, true_and, and_true, pow_10_18, forL_nil, forL_ap, kFor_ap, kFor2_nx, kFor2_ct, kFor2_bk, kFor2_rt, lenA_lst, lenA_tup, lenA_scr, lenA_dK, lenA_dT, addI_ap, ha, modI_ok hm, modI_ok, fdivI_ok, mulI_r, mulI_l, Int.lt_irrefl]
  rfl
theorem draw_c (cells : List PV) (a c d m x : Int) (hm : 0 < m) (hm2 : m < 1073741824) (ha : a < cells.length) (h0 : 0 ≤ a) (hx : ixG (.lst cells) (.int a) = some (.int x)) (h18 : 1000000000000000000 ≤ x) : F__law_draw [.cell 0, .int m] [HandP cells a 0 c d] = .ok (.int (x % m)) false [HandP cells (a + 1) (x / m) ((c * 69621 + x * 40692 + 63) % 2147483629) d] := by
  have hx0 : (0 : Int) < x := by omega
  simp only [F__law_draw, b__law_draw, HandP, hx, seqS_ap, kSeq_nx, kSeq_rt, kSeq_bk, kSeq_ct, retS_ap, kRet_ap, retN_ap, exprS_ap, kNx_ap, ifS_ap, ifE_ap, ifO_ap, kIf_t, kIf_f, badS_ap, nextS_ap, setS_ap, kSet_v, kSet_o, cellS_ap, kCell_ap, parS_ap, kPar_2, kPar_3, kPar_4, putSl_v, putSl_o, asgS_ap, kAsg_ap, kAsg2_ap, asgT_nm, asgT_tp, asgTs_nil, asgTs_nm, augS_ap, kAug_ap, kAug1_ap, kAug2_ap, nameE_ap, kNm_v, kNm_o, nameB_ap, kNb_o, kNb_v, kNc_cell, kNd_ap, kNc_int, kNc_bl, kNc_non, kNc_str, kNc_tup, kNc_lst, kNc_scr, kNc_dK, kNc_dT, kNc_ins, kMod_o, kMod_c, kMc_ap, kMo_ap, kMd_ap, appE_ap, kAp_ap, kAp2_ap, appU_ok, setIxS_ap, kSi_ap, kSi2_ap, kSi3_ap, setU_lst, augIxS_ap, kAx_ap, kAx1_ap, kAx1b_ap, kAx2_ap, kAx3_ap, kAx4_ap, lixG_ok, sharedE_ap, kSh_ap, plainE_ap, kPl_ap, constE_ap, nilA_ap, consA_ap, kCo_ap, kCo2_ap, nilL_ap, consL_ap, tupE_ap, lstE_ap, kTu_ap, kLs_ap, kOp_ap, kOp_no, binO_ap, kBi_ap, kBi2_ap, binE_ap, kBe_ap, kBe2_ap, chainE_ap, kCh_ap, kCh2_ap, kCh3_t, kCh3_f, kCh4_ap, testE_ap, toB_ap, andE_ap, orE_ap, notE_ap, kAnd_t, kAnd_f, kOr_t, kOr_f, kNot_ap, andT_ap, orT_ap, notT_ap, kAndT_t, kAndT_f, kOrT_t, kOrT_f, kNotT_ap, negE_ap, kNeg_ap, callO_ap, kCall_ap, kFr_ap, kFr_exc, un1O_ap, kUn_ap, un1E_ap, kUe_ap, lenG_lst, lenG_tup, lenG_scr, tupG_lst, tupG_tup, listG_lst, listG_tup, intG_int, intG_bl, absG_int, ixN_ap, kIx_ap, kIx2_ap, kIx3_ap, ixE_ap, kIe_ap, kIe2_ap, ixG_lst, ixG_tup, ixG_scr, noQ_ap, someQ_ap, kSq_ap, cutO_ap, kCt_ap, kCt2_ap, kCt3_ap, cutN_ap, kCn_ap, kCn2_ap, kCn3_ap, kCn4_ap, newK_ap, newT_ap, seqI_ap, seqP_lst, seqP_tup, seqP_scr, range1I_ap, kR1_ap, range2I_ap, kR2_ap, kR2b_ap, forS_ap, bodyF_ap, kBody_rt, kBody_nx, kBody_exc, yesT_ap, ix0, ix1, allG_ok, anyG_ok, sumG_ok, bind_ok, bind_bad, bind_exc, noX_ok, isi_int_int, isi_int_bool, isi_tup_tup, isi_lst_lst, isi_lst_tup, isi_tup_lst, subI_ok, addI_ok, ltI_ok, leI_ok, gtI_ok, geI_ok, cmpI_ok, max2_ok, min2_ok, eq_int, mul_modL, List.set_cons_zero, List.set_cons_succ, List.length_cons, List.length_nil, List.nil_append, List.cons_append, Nat.reduceAdd, Nat.reduceLeDiff, Nat.reduceLT, Nat.le_refl, decide_true, decide_false, Bool.not_true, Bool.not_false, Bool.true_and, Bool.false_and, Bool.and_true, Bool.and_false, Bool.true_or, Bool.false_or, Bool.or_true, Bool.or_false, Bool.false_bne, Bool.true_bne, Int.reduceLT, Int.reduceLE, Int.reducePow, Int.reduceNeg, Int.reduceToNat, if_true, if_false, frameE, List.map_cons, List.map_nil, List.replicate_succ, List.replicate_zero, Nat.reduceSub, List.replicate, ix0, ix1, and_self, true_and, and_true, pow_10_18, forL_nil, forL_ap, kFor_ap, kFor2_nx, kFor2_ct, kFor2_bk, kFor2_rt, lenA_lst, lenA_tup, lenA_scr, lenA_dK, lenA_dT, addI_ap, ha, modI_ok hm, modI_ok, fdivI_ok, fdivI_ok hm hm2, mulI_r, mulI_l, h18, hx0, pow_ok, Int.natAbs]
theorem draw_d (cells : List PV) (a c d m x : Int) (hm : 0 < m) (hm2 : m < 1073741824) (ha : a < cells.length) (h0 : 0 ≤ a) (hx : ixG (.lst cells) (.int a) = some (.int x)) (h18 : ¬ 1000000000000000000 ≤ x) : ∃ r, F__law_draw [.cell 0, .int m] [HandP cells a 0 c d] = .ok (.int (r % m)) false [HandP cells (a + 1) 0 ((c * 69621 + x * 40692 + 63) % 2147483629) (d + 1)] := by
  apply Exists.intro
  simp only [F__law_draw, b__law_draw, HandP, hx, seqS_ap, kSeq_nx, kSeq_rt, kSeq_bk, kSeq_ct, retS_ap, kRet_ap, retN_ap, exprS_ap, kNx_ap, ifS_ap, ifE_ap, ifO_ap, kIf_t, kIf_f, badS_ap, nextS_ap, setS_ap, kSet_v, kSet_o, cellS_ap, kCell_ap, parS_ap, kPar_2, kPar_3, kPar_4, putSl_v, putSl_o, asgS_ap, kAsg_ap, kAsg2_ap, asgT_nm, asgT_tp, asgTs_nil, asgTs_nm, augS_ap, kAug_ap, kAug1_ap, kAug2_ap, nameE_ap, kNm_v, kNm_o, nameB_ap, kNb_o, kNb_v, kNc_cell, kNd_ap, kNc_int, kNc_bl, kNc_non, kNc_str, kNc_tup, kNc_lst, kNc_scr, kNc_dK, kNc_dT, kNc_ins, kMod_o, kMod_c, kMc_ap, kMo_ap, kMd_ap, appE_ap, kAp_ap, kAp2_ap, appU_ok, setIxS_ap, kSi_ap, kSi2_ap, kSi3_ap, setU_lst, augIxS_ap, kAx_ap, kAx1_ap, kAx1b_ap, kAx2_ap, kAx3_ap, kAx4_ap, lixG_ok, sharedE_ap, kSh_ap, plainE_ap, kPl_ap, constE_ap, nilA_ap, consA_ap, kCo_ap, kCo2_ap, nilL_ap, consL_ap, tupE_ap, lstE_ap, kTu_ap, kLs_ap, kOp_ap, kOp_no, binO_ap, kBi_ap, kBi2_ap, binE_ap, kBe_ap, kBe2_ap, chainE_ap, kCh_ap, kCh2_ap, kCh3_t, kCh3_f, kCh4_ap, testE_ap, toB_ap, andE_ap, orE_ap, notE_ap, kAnd_t, kAnd_f, kOr_t, kOr_f, kNot_ap, andT_ap, orT_ap, notT_ap, kAndT_t, kAndT_f, kOrT_t, kOrT_f, kNotT_ap, negE_ap, kNeg_ap, callO_ap, kCall_ap, kFr_ap, kFr_exc, un1O_ap, kUn_ap, un1E_ap, kUe_ap, lenG_lst, lenG_tup, lenG_scr, tupG_lst, tupG_tup, listG_lst, listG_tup, intG_int, intG_bl, absG_int, ixN_ap, kIx_ap, kIx2_ap, kIx3_ap, ixE_ap, kIe_ap, kIe2_ap, ixG_lst, ixG_tup, ixG_scr, noQ_ap, someQ_ap, kSq_ap, cutO_ap, kCt_ap, kCt2_ap, kCt3_ap, cutN_ap, kCn_ap, kCn2_ap, kCn3_ap, kCn4_ap, newK_ap, newT_ap, seqI_ap, seqP_lst, seqP_tup, seqP_scr, range1I_ap, kR1_ap, range2I_ap, kR2_ap, kR2b_ap, forS_ap, bodyF_ap, kBody_rt, kBody_nx, kBody_exc, yesT_ap, ix0, ix1, allG_ok, anyG_ok, sumG_ok, bind_ok, bind_bad, bind_exc, noX_ok, isi_int_int, isi_int_bool, isi_tup_tup, isi_lst_lst, isi_lst_tup, isi_tup_lst, subI_ok, addI_ok, ltI_ok, leI_ok, gtI_ok, geI_ok, cmpI_ok, max2_ok, min2_ok, eq_int, mul_modL, List.set_cons_zero, List.set_cons_succ, List.length_cons, List.length_nil, List.nil_append, List.cons_append, Nat.reduceAdd, Nat.reduceLeDiff, Nat.reduceLT, Nat.le_refl, decide_true, decide_false, Bool.not_true, Bool.not_false, Bool.true_and, Bool.false_and, Bool.and_true, Bool.and_false, Bool.true_or, Bool.false_or, Bool.or_true, Bool.or_false, Bool.false_bne, Bool.true_bne, Int.reduceLT, Int.reduceLE, Int.reducePow, Int.reduceNeg, Int.reduceToNat, if_true, if_false, frameE, List.map_cons, List.map_nil, List.replicate_succ, List.replicate_zero, Nat.reduceSub, List.replicate, ix0, ix1, and_self, true_and, and_true, pow_10_18, forL_nil, forL_ap, kFor_ap, kFor2_nx, kFor2_ct, kFor2_bk, kFor2_rt, lenA_lst, lenA_tup, lenA_scr, lenA_dK, lenA_dT, addI_ap, ha, modI_ok hm, modI_ok, fdivI_ok, fdivI_ok hm hm2, mulI_r, mulI_l, h18, pow_ok, Int.natAbs, Int.lt_irrefl]
  rfl
theorem draw {h : PV} (ho : HandOk h) {m : Int} (hm : 0 < m) (hm2 : m < 1073741824) : ∃ r h', F__law_draw [.cell 0, .int m] [h] = .ok (.int r) false [h'] ∧ 0 ≤ r ∧ r < m ∧ HandOk h' := by
  obtain ⟨xs, a, b, c, d, hx, ha, hb, rfl⟩ := ho
  have md : ∀ y : Int, 0 ≤ y % m ∧ y % m < m := fun y => ⟨Int.emod_nonneg y (by omega), Int.emod_lt_of_pos y hm⟩
  by_cases b0 : 0 < b
  · exact ⟨_, _, draw_a _ a b c d m hm hm2 b0, (md b).1, (md b).2, xs, a, b / m, c, d, hx, ha, Int.ediv_nonneg hb (by omega), rfl⟩
  · obtain rfl : b = 0 := by omega
    by_cases hl : a < (xs.map PV.int).length
    · have hl2 : a.toNat < xs.length := by
        rw [List.length_map] at hl
        omega
      have ix : ixG (.lst (xs.map .int)) (.int a) = some (.int (xs.getD a.toNat 0)) := by
        have := ix_lrow hl2
        rwa [Int.toNat_of_nonneg ha] at this
      by_cases h18 : 1000000000000000000 ≤ xs.getD a.toNat 0
      · exact ⟨_, _, draw_c _ a c d m _ hm hm2 hl ha ix h18, (md _).1, (md _).2, xs, a + 1, _, _, d, hx, by omega, Int.ediv_nonneg (by omega) (by omega), rfl⟩
      · obtain ⟨r, e⟩ := draw_d _ a c d m _ hm hm2 hl ha ix h18
        exact ⟨_, _, e, (md _).1, (md _).2, xs, a + 1, 0, _, d + 1, hx, by omega, by omega, rfl⟩
    · obtain ⟨r, e⟩ := draw_b _ a c d m hm hm2 hl
      exact ⟨_, _, e, (md _).1, (md _).2, xs, a, 0, c, d + 1, hx, ha, by omega, rfl⟩
/-! the program's small functions -/
theorem v_is_integer (i : Int) (t : DT) : F_is_integer [.int i] t = .ok (.bl true) false t := by rfl
theorem v_is_within {i a b : Int} (t : DT) (h : a ≤ i) (h2 : i ≤ b) : F_is_within [.int i, .int a, .int b] t = .ok (.bl true) false t := by
  simp only [F_is_within, b_is_within, v_is_integer, seqS_ap, kSeq_nx, kSeq_rt, kSeq_bk, kSeq_ct, retS_ap, kRet_ap, retN_ap, exprS_ap, kNx_ap, ifS_ap, ifE_ap, ifO_ap, kIf_t, kIf_f, badS_ap, nextS_ap, setS_ap, kSet_v, kSet_o, cellS_ap, kCell_ap, parS_ap, kPar_2, kPar_3, kPar_4, putSl_v, putSl_o, asgS_ap, kAsg_ap, kAsg2_ap, asgT_nm, asgT_tp, asgTs_nil, asgTs_nm, augS_ap, kAug_ap, kAug1_ap, kAug2_ap, nameE_ap, kNm_v, kNm_o, nameB_ap, kNb_o, kNb_v, kNc_cell, kNd_ap, kNc_int, kNc_bl, kNc_non, kNc_str, kNc_tup, kNc_lst, kNc_scr, kNc_dK, kNc_dT, kNc_ins, kMod_o, kMod_c, kMc_ap, kMo_ap, kMd_ap, appE_ap, kAp_ap, kAp2_ap, appU_ok, setIxS_ap, kSi_ap, kSi2_ap, kSi3_ap, setU_lst, augIxS_ap, kAx_ap, kAx1_ap, kAx1b_ap, kAx2_ap, kAx3_ap, kAx4_ap, lixG_ok, sharedE_ap, kSh_ap, plainE_ap, kPl_ap, constE_ap, nilA_ap, consA_ap, kCo_ap, kCo2_ap, nilL_ap, consL_ap, tupE_ap, lstE_ap, kTu_ap, kLs_ap, kOp_ap, kOp_no, binO_ap, kBi_ap, kBi2_ap, binE_ap, kBe_ap, kBe2_ap, chainE_ap, kCh_ap, kCh2_ap, kCh3_t, kCh3_f, kCh4_ap, testE_ap, toB_ap, andE_ap, orE_ap, notE_ap, kAnd_t, kAnd_f, kOr_t, kOr_f, kNot_ap, andT_ap, orT_ap, notT_ap, kAndT_t, kAndT_f, kOrT_t, kOrT_f, kNotT_ap, negE_ap, kNeg_ap, callO_ap, kCall_ap, kFr_ap, kFr_exc, un1O_ap, kUn_ap, un1E_ap, kUe_ap, lenG_lst, lenG_tup, lenG_scr, tupG_lst, tupG_tup, listG_lst, listG_tup, intG_int, intG_bl, absG_int, ixN_ap, kIx_ap, kIx2_ap, kIx3_ap, ixE_ap, kIe_ap, kIe2_ap, ixG_lst, ixG_tup, ixG_scr, noQ_ap, someQ_ap, kSq_ap, cutO_ap, kCt_ap, kCt2_ap, kCt3_ap, cutN_ap, kCn_ap, kCn2_ap, kCn3_ap, kCn4_ap, newK_ap, newT_ap, seqI_ap, seqP_lst, seqP_tup, seqP_scr, range1I_ap, kR1_ap, range2I_ap, kR2_ap, kR2b_ap, forS_ap, bodyF_ap, kBody_rt, kBody_nx, kBody_exc, yesT_ap, ix0, ix1, allG_ok, anyG_ok, sumG_ok, bind_ok, bind_bad, bind_exc, noX_ok, isi_int_int, isi_int_bool, isi_tup_tup, isi_lst_lst, isi_lst_tup, isi_tup_lst, subI_ok, addI_ok, ltI_ok, leI_ok, gtI_ok, geI_ok, cmpI_ok, max2_ok, min2_ok, eq_int, mul_modL, List.set_cons_zero, List.set_cons_succ, List.length_cons, List.length_nil, List.nil_append, List.cons_append, Nat.reduceAdd, Nat.reduceLeDiff, Nat.reduceLT, Nat.le_refl, decide_true, decide_false, Bool.not_true, Bool.not_false, Bool.true_and, Bool.false_and, Bool.and_true, Bool.and_false, Bool.true_or, Bool.false_or, Bool.or_true, Bool.or_false, Bool.false_bne, Bool.true_bne, Int.reduceLT, Int.reduceLE, Int.reducePow, Int.reduceNeg, Int.reduceToNat, if_true, if_false, frameE, List.map_cons, List.map_nil, List.replicate_succ, List.replicate_zero, Nat.reduceSub, List.replicate, ix0, ix1, and_self, true_and, and_true, pow_10_18, forL_nil, forL_ap, kFor_ap, kFor2_nx, kFor2_ct, kFor2_bk, kFor2_rt, lenA_lst, lenA_tup, lenA_scr, lenA_dK, lenA_dT, addI_ap, h, h2]
theorem v_is_tuple {c : Bool} {ps : List PV} {a b : Int} (t : DT) (h : a ≤ (ps.length : Int)) (h2 : (ps.length : Int) ≤ b) : F_is_tuple [.tup c ps, .int a, .int b] t = .ok (.bl true) false t := by
  simp only [F_is_tuple, b_is_tuple, seqS_ap, kSeq_nx, kSeq_rt, kSeq_bk, kSeq_ct, retS_ap, kRet_ap, retN_ap, exprS_ap, kNx_ap, ifS_ap, ifE_ap, ifO_ap, kIf_t, kIf_f, badS_ap, nextS_ap, setS_ap, kSet_v, kSet_o, cellS_ap, kCell_ap, parS_ap, kPar_2, kPar_3, kPar_4, putSl_v, putSl_o, asgS_ap, kAsg_ap, kAsg2_ap, asgT_nm, asgT_tp, asgTs_nil, asgTs_nm, augS_ap, kAug_ap, kAug1_ap, kAug2_ap, nameE_ap, kNm_v, kNm_o, nameB_ap, kNb_o, kNb_v, kNc_cell, kNd_ap, kNc_int, kNc_bl, kNc_non, kNc_str, kNc_tup, kNc_lst, kNc_scr, kNc_dK, kNc_dT, kNc_ins, kMod_o, kMod_c, kMc_ap, kMo_ap, kMd_ap, appE_ap, kAp_ap, kAp2_ap, appU_ok, setIxS_ap, kSi_ap, kSi2_ap, kSi3_ap, setU_lst, augIxS_ap, kAx_ap, kAx1_ap, kAx1b_ap, kAx2_ap, kAx3_ap, kAx4_ap, lixG_ok, sharedE_ap, kSh_ap, plainE_ap, kPl_ap, constE_ap, nilA_ap, consA_ap, kCo_ap, kCo2_ap, nilL_ap, consL_ap, tupE_ap, lstE_ap, kTu_ap, kLs_ap, kOp_ap, kOp_no, binO_ap, kBi_ap, kBi2_ap, binE_ap, kBe_ap, kBe2_ap, chainE_ap, kCh_ap, kCh2_ap, kCh3_t, kCh3_f, kCh4_ap, testE_ap, toB_ap, andE_ap, orE_ap, notE_ap, kAnd_t, kAnd_f, kOr_t, kOr_f, kNot_ap, andT_ap, orT_ap, notT_ap, kAndT_t, kAndT_f, kOrT_t, kOrT_f, kNotT_ap, negE_ap, kNeg_ap, callO_ap, kCall_ap, kFr_ap, kFr_exc, un1O_ap, kUn_ap, un1E_ap, kUe_ap, lenG_lst, lenG_tup, lenG_scr, tupG_lst, tupG_tup, listG_lst, listG_tup, intG_int, intG_bl, absG_int, ixN_ap, kIx_ap, kIx2_ap, kIx3_ap, ixE_ap, kIe_ap, kIe2_ap, ixG_lst, ixG_tup, ixG_scr, noQ_ap, someQ_ap, kSq_ap, cutO_ap, kCt_ap, kCt2_ap, kCt3_ap, cutN_ap, kCn_ap, kCn2_ap, kCn3_ap, kCn4_ap, newK_ap, newT_ap, seqI_ap, seqP_lst, seqP_tup, seqP_scr, range1I_ap, kR1_ap, range2I_ap, kR2_ap, kR2b_ap, forS_ap, bodyF_ap, kBody_rt, kBody_nx, kBody_exc, yesT_ap, ix0, ix1, allG_ok, anyG_ok, sumG_ok, bind_ok, bind_bad, bind_exc, noX_ok, isi_int_int, isi_int_bool, isi_tup_tup, isi_lst_lst, isi_lst_tup, isi_tup_lst, subI_ok, addI_ok, ltI_ok, leI_ok, gtI_ok, geI_ok, cmpI_ok, max2_ok, min2_ok, eq_int, mul_modL, List.set_cons_zero, List.set_cons_succ, List.length_cons, List.length_nil, List.nil_append, List.cons_append, Nat.reduceAdd, Nat.reduceLeDiff, Nat.reduceLT, Nat.le_refl, decide_true, decide_false, Bool.not_true, Bool.not_false, Bool.true_and, Bool.false_and, Bool.and_true, Bool.and_false, Bool.true_or, Bool.false_or, Bool.or_true, Bool.or_false, Bool.false_bne, Bool.true_bne, Int.reduceLT, Int.reduceLE, Int.reducePow, Int.reduceNeg, Int.reduceToNat, if_true, if_false, frameE, List.map_cons, List.map_nil, List.replicate_succ, List.replicate_zero, Nat.reduceSub, List.replicate, ix0, ix1, and_self, true_and, and_true, pow_10_18, forL_nil, forL_ap, kFor_ap, kFor2_nx, kFor2_ct, kFor2_bk, kFor2_rt, lenA_lst, lenA_tup, lenA_scr, lenA_dK, lenA_dT, addI_ap, h, h2]
theorem v_check_sides {h w : Int} (t : DT) (h1 : 2 ≤ h) (h2 : h ≤ 8) (w1 : 2 ≤ w) (w2 : w ≤ 8) : F_check_sides [.int h, .int w] t = .ok .non false t := by
  simp only [F_check_sides, b_check_sides, seqS_ap, kSeq_nx, kSeq_rt, kSeq_bk, kSeq_ct, retS_ap, kRet_ap, retN_ap, exprS_ap, kNx_ap, ifS_ap, ifE_ap, ifO_ap, kIf_t, kIf_f, badS_ap, nextS_ap, setS_ap, kSet_v, kSet_o, cellS_ap, kCell_ap, parS_ap, kPar_2, kPar_3, kPar_4, putSl_v, putSl_o, asgS_ap, kAsg_ap, kAsg2_ap, asgT_nm, asgT_tp, asgTs_nil, asgTs_nm, augS_ap, kAug_ap, kAug1_ap, kAug2_ap, nameE_ap, kNm_v, kNm_o, nameB_ap, kNb_o, kNb_v, kNc_cell, kNd_ap, kNc_int, kNc_bl, kNc_non, kNc_str, kNc_tup, kNc_lst, kNc_scr, kNc_dK, kNc_dT, kNc_ins, kMod_o, kMod_c, kMc_ap, kMo_ap, kMd_ap, appE_ap, kAp_ap, kAp2_ap, appU_ok, setIxS_ap, kSi_ap, kSi2_ap, kSi3_ap, setU_lst, augIxS_ap, kAx_ap, kAx1_ap, kAx1b_ap, kAx2_ap, kAx3_ap, kAx4_ap, lixG_ok, sharedE_ap, kSh_ap, plainE_ap, kPl_ap, constE_ap, nilA_ap, consA_ap, kCo_ap, kCo2_ap, nilL_ap, consL_ap, tupE_ap, lstE_ap, kTu_ap, kLs_ap, kOp_ap, kOp_no, binO_ap, kBi_ap, kBi2_ap, binE_ap, kBe_ap, kBe2_ap, chainE_ap, kCh_ap, kCh2_ap, kCh3_t, kCh3_f, kCh4_ap, testE_ap, toB_ap, andE_ap, orE_ap, notE_ap, kAnd_t, kAnd_f, kOr_t, kOr_f, kNot_ap, andT_ap, orT_ap, notT_ap, kAndT_t, kAndT_f, kOrT_t, kOrT_f, kNotT_ap, negE_ap, kNeg_ap, callO_ap, kCall_ap, kFr_ap, kFr_exc, un1O_ap, kUn_ap, un1E_ap, kUe_ap, lenG_lst, lenG_tup, lenG_scr, tupG_lst, tupG_tup, listG_lst, listG_tup, intG_int, intG_bl, absG_int, ixN_ap, kIx_ap, kIx2_ap, kIx3_ap, ixE_ap, kIe_ap, kIe2_ap, ixG_lst, ixG_tup, ixG_scr, noQ_ap, someQ_ap, kSq_ap, cutO_ap, kCt_ap, kCt2_ap, kCt3_ap, cutN_ap, kCn_ap, kCn2_ap, kCn3_ap, kCn4_ap, newK_ap, newT_ap, seqI_ap, seqP_lst, seqP_tup, seqP_scr, range1I_ap, kR1_ap, range2I_ap, kR2_ap, kR2b_ap, forS_ap, bodyF_ap, kBody_rt, kBody_nx, kBody_exc, yesT_ap, ix0, ix1, allG_ok, anyG_ok, sumG_ok, bind_ok, bind_bad, bind_exc, noX_ok, isi_int_int, isi_int_bool, isi_tup_tup, isi_lst_lst, isi_lst_tup, isi_tup_lst, subI_ok, addI_ok, ltI_ok, leI_ok, gtI_ok, geI_ok, cmpI_ok, max2_ok, min2_ok, eq_int, mul_modL, List.set_cons_zero, List.set_cons_succ, List.length_cons, List.length_nil, List.nil_append, List.cons_append, Nat.reduceAdd, Nat.reduceLeDiff, Nat.reduceLT, Nat.le_refl, decide_true, decide_false, Bool.not_true, Bool.not_false, Bool.true_and, Bool.false_and, Bool.and_true, Bool.and_false, Bool.true_or, Bool.false_or, Bool.or_true, Bool.or_false, Bool.false_bne, Bool.true_bne, Int.reduceLT, Int.reduceLE, Int.reducePow, Int.reduceNeg, Int.reduceToNat, if_true, if_false, frameE, List.map_cons, List.map_nil, List.replicate_succ, List.replicate_zero, Nat.reduceSub, List.replicate, ix0, ix1, and_self, true_and, and_true, pow_10_18, forL_nil, forL_ap, kFor_ap, kFor2_nx, kFor2_ct, kFor2_bk, kFor2_rt, lenA_lst, lenA_tup, lenA_scr, lenA_dK, lenA_dT, addI_ap, v_is_within, h1, h2, w1, w2]
/-- a sheet of heights -/
structure Sheet (h w : Nat) (sh : List (List Int)) : Prop where
  h1 : 2 ≤ h
  h2 : h ≤ 8
  w1 : 2 ≤ w
  w2 : w ≤ 8
  len : sh.length = h
  row : ∀ r ∈ sh, r.length = w
  bnd : ∀ r ∈ sh, ∀ x ∈ r, -100 ≤ x ∧ x ≤ 100
  stp : ∀ a b a' b' : Nat, a < h → b < w → a' < h → b' < w → a' ≤ a + 1 → a ≤ a' + 1 → b' ≤ b + 1 → b ≤ b' + 1 → at2 sh a b - at2 sh a' b' ≤ 1
theorem Sheet.rowLen {h w : Nat} {sh : List (List Int)} (s : Sheet h w sh) {a : Nat} (ha : a < h) : (sh.getD a []).length = w := by
  have h1 : a < sh.length := by rw [s.len]; exact ha
  rw [List.getD_eq_getElem?_getD, List.getElem?_eq_getElem h1]
  exact s.row _ (List.getElem_mem h1)
theorem all_true {α : Type} (l : List α) : allG (.lst (l.map fun _ => PV.bl true)) = some (.bl true) := by
  have : l.map (fun _ => PV.bl true) = (l.map fun _ => true).map .bl := by simp
  rw [this, allG_ok]
  simp
theorem small {n : Nat} (h : n ≤ 100) : n ≤ sizeLine := by
  have : 100 ≤ sizeLine := by decide
  omega
theorem cp0_is_heights_ok {h w : Nat} {sh : List (List Int)} (s : Sheet h w sh) (a b x y r o : Sl) (t : DT) : cp0_is_heights ⟨[.val (.int h), .val (.int w), .val (shP sh), a, b, x, y, r, o], t⟩ = .ok (.lst ((sh.map rowP).map fun _ => PV.bl true), true) ⟨[.val (.int h), .val (.int w), .val (shP sh), a, b, x, y, rest1 r, o], t⟩ := by
  refine lcO_map0 (s1 := ⟨[.val (.int h), .val (.int w), .val (shP sh), a, b, x, y, r, o], t⟩) (ps := sh.map rowP) (fun _ => .bl true) ?_ (fun p hp => ?_) (by rw [List.length_map, s.len]; exact small (by have := s.h2; omega))
  · simp only [shP, seqS_ap, kSeq_nx, kSeq_rt, kSeq_bk, kSeq_ct, retS_ap, kRet_ap, retN_ap, exprS_ap, kNx_ap, ifS_ap, ifE_ap, ifO_ap, kIf_t, kIf_f, badS_ap, nextS_ap, setS_ap, kSet_v, kSet_o, cellS_ap, kCell_ap, parS_ap, kPar_2, kPar_3, kPar_4, putSl_v, putSl_o, asgS_ap, kAsg_ap, kAsg2_ap, asgT_nm, asgT_tp, asgTs_nil, asgTs_nm, augS_ap, kAug_ap, kAug1_ap, kAug2_ap, nameE_ap, kNm_v, kNm_o, nameB_ap, kNb_o, kNb_v, kNc_cell, kNd_ap, kNc_int, kNc_bl, kNc_non, kNc_str, kNc_tup, kNc_lst, kNc_scr, kNc_dK, kNc_dT, kNc_ins, kMod_o, kMod_c, kMc_ap, kMo_ap, kMd_ap, appE_ap, kAp_ap, kAp2_ap, appU_ok, setIxS_ap, kSi_ap, kSi2_ap, kSi3_ap, setU_lst, augIxS_ap, kAx_ap, kAx1_ap, kAx1b_ap, kAx2_ap, kAx3_ap, kAx4_ap, lixG_ok, sharedE_ap, kSh_ap, plainE_ap, kPl_ap, constE_ap, nilA_ap, consA_ap, kCo_ap, kCo2_ap, nilL_ap, consL_ap, tupE_ap, lstE_ap, kTu_ap, kLs_ap, kOp_ap, kOp_no, binO_ap, kBi_ap, kBi2_ap, binE_ap, kBe_ap, kBe2_ap, chainE_ap, kCh_ap, kCh2_ap, kCh3_t, kCh3_f, kCh4_ap, testE_ap, toB_ap, andE_ap, orE_ap, notE_ap, kAnd_t, kAnd_f, kOr_t, kOr_f, kNot_ap, andT_ap, orT_ap, notT_ap, kAndT_t, kAndT_f, kOrT_t, kOrT_f, kNotT_ap, negE_ap, kNeg_ap, callO_ap, kCall_ap, kFr_ap, kFr_exc, un1O_ap, kUn_ap, un1E_ap, kUe_ap, lenG_lst, lenG_tup, lenG_scr, tupG_lst, tupG_tup, listG_lst, listG_tup, intG_int, intG_bl, absG_int, ixN_ap, kIx_ap, kIx2_ap, kIx3_ap, ixE_ap, kIe_ap, kIe2_ap, ixG_lst, ixG_tup, ixG_scr, noQ_ap, someQ_ap, kSq_ap, cutO_ap, kCt_ap, kCt2_ap, kCt3_ap, cutN_ap, kCn_ap, kCn2_ap, kCn3_ap, kCn4_ap, newK_ap, newT_ap, seqI_ap, seqP_lst, seqP_tup, seqP_scr, range1I_ap, kR1_ap, range2I_ap, kR2_ap, kR2b_ap, forS_ap, bodyF_ap, kBody_rt, kBody_nx, kBody_exc, yesT_ap, ix0, ix1, allG_ok, anyG_ok, sumG_ok, bind_ok, bind_bad, bind_exc, noX_ok, isi_int_int, isi_int_bool, isi_tup_tup, isi_lst_lst, isi_lst_tup, isi_tup_lst, subI_ok, addI_ok, ltI_ok, leI_ok, gtI_ok, geI_ok, cmpI_ok, max2_ok, min2_ok, eq_int, mul_modL, List.set_cons_zero, List.set_cons_succ, List.length_cons, List.length_nil, List.nil_append, List.cons_append, Nat.reduceAdd, Nat.reduceLeDiff, Nat.reduceLT, Nat.le_refl, decide_true, decide_false, Bool.not_true, Bool.not_false, Bool.true_and, Bool.false_and, Bool.and_true, Bool.and_false, Bool.true_or, Bool.false_or, Bool.or_true, Bool.or_false, Bool.false_bne, Bool.true_bne, Int.reduceLT, Int.reduceLE, Int.reducePow, Int.reduceNeg, Int.reduceToNat, if_true, if_false, frameE, List.map_cons, List.map_nil, List.replicate_succ, List.replicate_zero, Nat.reduceSub, List.replicate, ix0, ix1, and_self, true_and, and_true, pow_10_18, forL_nil, forL_ap, kFor_ap, kFor2_nx, kFor2_ct, kFor2_bk, kFor2_rt, lenA_lst, lenA_tup, lenA_scr, lenA_dK, lenA_dT, addI_ap]
  · obtain ⟨r', hr, rfl⟩ := List.mem_map.mp hp
    refine ⟨_, rfl, ?_⟩
    simp only [wipeE, seqS_ap, kSeq_nx, kSeq_rt, kSeq_bk, kSeq_ct, retS_ap, kRet_ap, retN_ap, exprS_ap, kNx_ap, ifS_ap, ifE_ap, ifO_ap, kIf_t, kIf_f, badS_ap, nextS_ap, setS_ap, kSet_v, kSet_o, cellS_ap, kCell_ap, parS_ap, kPar_2, kPar_3, kPar_4, putSl_v, putSl_o, asgS_ap, kAsg_ap, kAsg2_ap, asgT_nm, asgT_tp, asgTs_nil, asgTs_nm, augS_ap, kAug_ap, kAug1_ap, kAug2_ap, nameE_ap, kNm_v, kNm_o, nameB_ap, kNb_o, kNb_v, kNc_cell, kNd_ap, kNc_int, kNc_bl, kNc_non, kNc_str, kNc_tup, kNc_lst, kNc_scr, kNc_dK, kNc_dT, kNc_ins, kMod_o, kMod_c, kMc_ap, kMo_ap, kMd_ap, appE_ap, kAp_ap, kAp2_ap, appU_ok, setIxS_ap, kSi_ap, kSi2_ap, kSi3_ap, setU_lst, augIxS_ap, kAx_ap, kAx1_ap, kAx1b_ap, kAx2_ap, kAx3_ap, kAx4_ap, lixG_ok, sharedE_ap, kSh_ap, plainE_ap, kPl_ap, constE_ap, nilA_ap, consA_ap, kCo_ap, kCo2_ap, nilL_ap, consL_ap, tupE_ap, lstE_ap, kTu_ap, kLs_ap, kOp_ap, kOp_no, binO_ap, kBi_ap, kBi2_ap, binE_ap, kBe_ap, kBe2_ap, chainE_ap, kCh_ap, kCh2_ap, kCh3_t, kCh3_f, kCh4_ap, testE_ap, toB_ap, andE_ap, orE_ap, notE_ap, kAnd_t, kAnd_f, kOr_t, kOr_f, kNot_ap, andT_ap, orT_ap, notT_ap, kAndT_t, kAndT_f, kOrT_t, kOrT_f, kNotT_ap, negE_ap, kNeg_ap, callO_ap, kCall_ap, kFr_ap, kFr_exc, un1O_ap, kUn_ap, un1E_ap, kUe_ap, lenG_lst, lenG_tup, lenG_scr, tupG_lst, tupG_tup, listG_lst, listG_tup, intG_int, intG_bl, absG_int, ixN_ap, kIx_ap, kIx2_ap, kIx3_ap, ixE_ap, kIe_ap, kIe2_ap, ixG_lst, ixG_tup, ixG_scr, noQ_ap, someQ_ap, kSq_ap, cutO_ap, kCt_ap, kCt2_ap, kCt3_ap, cutN_ap, kCn_ap, kCn2_ap, kCn3_ap, kCn4_ap, newK_ap, newT_ap, seqI_ap, seqP_lst, seqP_tup, seqP_scr, range1I_ap, kR1_ap, range2I_ap, kR2_ap, kR2b_ap, forS_ap, bodyF_ap, kBody_rt, kBody_nx, kBody_exc, yesT_ap, ix0, ix1, allG_ok, anyG_ok, sumG_ok, bind_ok, bind_bad, bind_exc, noX_ok, isi_int_int, isi_int_bool, isi_tup_tup, isi_lst_lst, isi_lst_tup, isi_tup_lst, subI_ok, addI_ok, ltI_ok, leI_ok, gtI_ok, geI_ok, cmpI_ok, max2_ok, min2_ok, eq_int, mul_modL, List.set_cons_zero, List.set_cons_succ, List.length_cons, List.length_nil, List.nil_append, List.cons_append, Nat.reduceAdd, Nat.reduceLeDiff, Nat.reduceLT, Nat.le_refl, decide_true, decide_false, Bool.not_true, Bool.not_false, Bool.true_and, Bool.false_and, Bool.and_true, Bool.and_false, Bool.true_or, Bool.false_or, Bool.or_true, Bool.or_false, Bool.false_bne, Bool.true_bne, Int.reduceLT, Int.reduceLE, Int.reducePow, Int.reduceNeg, Int.reduceToNat, if_true, if_false, frameE, List.map_cons, List.map_nil, List.replicate_succ, List.replicate_zero, Nat.reduceSub, List.replicate, ix0, ix1, and_self, true_and, and_true, pow_10_18, forL_nil, forL_ap, kFor_ap, kFor2_nx, kFor2_ct, kFor2_bk, kFor2_rt, lenA_lst, lenA_tup, lenA_scr, lenA_dK, lenA_dT, addI_ap, v_is_tuple (ps := r'.map .int) (a := w) (b := w) t (by simp [s.row _ hr]) (by simp [s.row _ hr])]
theorem cp1_is_heights_ok {h w : Nat} {sh : List (List Int)} (s : Sheet h w sh) (a b x y r o : Sl) (t : DT) : ∃ l : List PV, cp1_is_heights ⟨[.val (.int h), .val (.int w), .val (shP sh), a, b, x, y, r, o], t⟩ = .ok (.lst (l.map fun _ => PV.bl true), true) ⟨[.val (.int h), .val (.int w), .val (shP sh), a, b, x, y, rest1 r, rest1 o], t⟩ := by
  refine ⟨(sh.map rowP).flatMap fun p => match p with | .tup _ qs => qs | _ => [], ?_⟩
  refine (lc2O_0 (s1 := ⟨[.val (.int h), .val (.int w), .val (shP sh), a, b, x, y, r, o], t⟩) (ps := sh.map rowP) (fun p => match p with | .tup _ qs => qs | _ => []) (fun _ _ => true) (fun _ _ => .bl true) ?_ (fun p hp => ?_) ?_).trans ?_
  · simp only [shP, seqS_ap, kSeq_nx, kSeq_rt, kSeq_bk, kSeq_ct, retS_ap, kRet_ap, retN_ap, exprS_ap, kNx_ap, ifS_ap, ifE_ap, ifO_ap, kIf_t, kIf_f, badS_ap, nextS_ap, setS_ap, kSet_v, kSet_o, cellS_ap, kCell_ap, parS_ap, kPar_2, kPar_3, kPar_4, putSl_v, putSl_o, asgS_ap, kAsg_ap, kAsg2_ap, asgT_nm, asgT_tp, asgTs_nil, asgTs_nm, augS_ap, kAug_ap, kAug1_ap, kAug2_ap, nameE_ap, kNm_v, kNm_o, nameB_ap, kNb_o, kNb_v, kNc_cell, kNd_ap, kNc_int, kNc_bl, kNc_non, kNc_str, kNc_tup, kNc_lst, kNc_scr, kNc_dK, kNc_dT, kNc_ins, kMod_o, kMod_c, kMc_ap, kMo_ap, kMd_ap, appE_ap, kAp_ap, kAp2_ap, appU_ok, setIxS_ap, kSi_ap, kSi2_ap, kSi3_ap, setU_lst, augIxS_ap, kAx_ap, kAx1_ap, kAx1b_ap, kAx2_ap, kAx3_ap, kAx4_ap, lixG_ok, sharedE_ap, kSh_ap, plainE_ap, kPl_ap, constE_ap, nilA_ap, consA_ap, kCo_ap, kCo2_ap, nilL_ap, consL_ap, tupE_ap, lstE_ap, kTu_ap, kLs_ap, kOp_ap, kOp_no, binO_ap, kBi_ap, kBi2_ap, binE_ap, kBe_ap, kBe2_ap, chainE_ap, kCh_ap, kCh2_ap, kCh3_t, kCh3_f, kCh4_ap, testE_ap, toB_ap, andE_ap, orE_ap, notE_ap, kAnd_t, kAnd_f, kOr_t, kOr_f, kNot_ap, andT_ap, orT_ap, notT_ap, kAndT_t, kAndT_f, kOrT_t, kOrT_f, kNotT_ap, negE_ap, kNeg_ap, callO_ap, kCall_ap, kFr_ap, kFr_exc, un1O_ap, kUn_ap, un1E_ap, kUe_ap, lenG_lst, lenG_tup, lenG_scr, tupG_lst, tupG_tup, listG_lst, listG_tup, intG_int, intG_bl, absG_int, ixN_ap, kIx_ap, kIx2_ap, kIx3_ap, ixE_ap, kIe_ap, kIe2_ap, ixG_lst, ixG_tup, ixG_scr, noQ_ap, someQ_ap, kSq_ap, cutO_ap, kCt_ap, kCt2_ap, kCt3_ap, cutN_ap, kCn_ap, kCn2_ap, kCn3_ap, kCn4_ap, newK_ap, newT_ap, seqI_ap, seqP_lst, seqP_tup, seqP_scr, range1I_ap, kR1_ap, range2I_ap, kR2_ap, kR2b_ap, forS_ap, bodyF_ap, kBody_rt, kBody_nx, kBody_exc, yesT_ap, ix0, ix1, allG_ok, anyG_ok, sumG_ok, bind_ok, bind_bad, bind_exc, noX_ok, isi_int_int, isi_int_bool, isi_tup_tup, isi_lst_lst, isi_lst_tup, isi_tup_lst, subI_ok, addI_ok, ltI_ok, leI_ok, gtI_ok, geI_ok, cmpI_ok, max2_ok, min2_ok, eq_int, mul_modL, List.set_cons_zero, List.set_cons_succ, List.length_cons, List.length_nil, List.nil_append, List.cons_append, Nat.reduceAdd, Nat.reduceLeDiff, Nat.reduceLT, Nat.le_refl, decide_true, decide_false, Bool.not_true, Bool.not_false, Bool.true_and, Bool.false_and, Bool.and_true, Bool.and_false, Bool.true_or, Bool.false_or, Bool.or_true, Bool.or_false, Bool.false_bne, Bool.true_bne, Int.reduceLT, Int.reduceLE, Int.reducePow, Int.reduceNeg, Int.reduceToNat, if_true, if_false, frameE, List.map_cons, List.map_nil, List.replicate_succ, List.replicate_zero, Nat.reduceSub, List.replicate, ix0, ix1, and_self, true_and, and_true, pow_10_18, forL_nil, forL_ap, kFor_ap, kFor2_nx, kFor2_ct, kFor2_bk, kFor2_rt, lenA_lst, lenA_tup, lenA_scr, lenA_dK, lenA_dT, addI_ap]
  · obtain ⟨r', hr, rfl⟩ := List.mem_map.mp hp
    refine ⟨_, rfl, ?_, fun q hq => ⟨_, rfl, rfl, fun _ => ?_⟩⟩
    · simp only [wipeE, seqS_ap, kSeq_nx, kSeq_rt, kSeq_bk, kSeq_ct, retS_ap, kRet_ap, retN_ap, exprS_ap, kNx_ap, ifS_ap, ifE_ap, ifO_ap, kIf_t, kIf_f, badS_ap, nextS_ap, setS_ap, kSet_v, kSet_o, cellS_ap, kCell_ap, parS_ap, kPar_2, kPar_3, kPar_4, putSl_v, putSl_o, asgS_ap, kAsg_ap, kAsg2_ap, asgT_nm, asgT_tp, asgTs_nil, asgTs_nm, augS_ap, kAug_ap, kAug1_ap, kAug2_ap, nameE_ap, kNm_v, kNm_o, nameB_ap, kNb_o, kNb_v, kNc_cell, kNd_ap, kNc_int, kNc_bl, kNc_non, kNc_str, kNc_tup, kNc_lst, kNc_scr, kNc_dK, kNc_dT, kNc_ins, kMod_o, kMod_c, kMc_ap, kMo_ap, kMd_ap, appE_ap, kAp_ap, kAp2_ap, appU_ok, setIxS_ap, kSi_ap, kSi2_ap, kSi3_ap, setU_lst, augIxS_ap, kAx_ap, kAx1_ap, kAx1b_ap, kAx2_ap, kAx3_ap, kAx4_ap, lixG_ok, sharedE_ap, kSh_ap, plainE_ap, kPl_ap, constE_ap, nilA_ap, consA_ap, kCo_ap, kCo2_ap, nilL_ap, consL_ap, tupE_ap, lstE_ap, kTu_ap, kLs_ap, kOp_ap, kOp_no, binO_ap, kBi_ap, kBi2_ap, binE_ap, kBe_ap, kBe2_ap, chainE_ap, kCh_ap, kCh2_ap, kCh3_t, kCh3_f, kCh4_ap, testE_ap, toB_ap, andE_ap, orE_ap, notE_ap, kAnd_t, kAnd_f, kOr_t, kOr_f, kNot_ap, andT_ap, orT_ap, notT_ap, kAndT_t, kAndT_f, kOrT_t, kOrT_f, kNotT_ap, negE_ap, kNeg_ap, callO_ap, kCall_ap, kFr_ap, kFr_exc, un1O_ap, kUn_ap, un1E_ap, kUe_ap, lenG_lst, lenG_tup, lenG_scr, tupG_lst, tupG_tup, listG_lst, listG_tup, intG_int, intG_bl, absG_int, ixN_ap, kIx_ap, kIx2_ap, kIx3_ap, ixE_ap, kIe_ap, kIe2_ap, ixG_lst, ixG_tup, ixG_scr, noQ_ap, someQ_ap, kSq_ap, cutO_ap, kCt_ap, kCt2_ap, kCt3_ap, cutN_ap, kCn_ap, kCn2_ap, kCn3_ap, kCn4_ap, newK_ap, newT_ap, seqI_ap, seqP_lst, seqP_tup, seqP_scr, range1I_ap, kR1_ap, range2I_ap, kR2_ap, kR2b_ap, forS_ap, bodyF_ap, kBody_rt, kBody_nx, kBody_exc, yesT_ap, ix0, ix1, allG_ok, anyG_ok, sumG_ok, bind_ok, bind_bad, bind_exc, noX_ok, isi_int_int, isi_int_bool, isi_tup_tup, isi_lst_lst, isi_lst_tup, isi_tup_lst, subI_ok, addI_ok, ltI_ok, leI_ok, gtI_ok, geI_ok, cmpI_ok, max2_ok, min2_ok, eq_int, mul_modL, List.set_cons_zero, List.set_cons_succ, List.length_cons, List.length_nil, List.nil_append, List.cons_append, Nat.reduceAdd, Nat.reduceLeDiff, Nat.reduceLT, Nat.le_refl, decide_true, decide_false, Bool.not_true, Bool.not_false, Bool.true_and, Bool.false_and, Bool.and_true, Bool.and_false, Bool.true_or, Bool.false_or, Bool.or_true, Bool.or_false, Bool.false_bne, Bool.true_bne, Int.reduceLT, Int.reduceLE, Int.reducePow, Int.reduceNeg, Int.reduceToNat, if_true, if_false, frameE, List.map_cons, List.map_nil, List.replicate_succ, List.replicate_zero, Nat.reduceSub, List.replicate, ix0, ix1, and_self, true_and, and_true, pow_10_18, forL_nil, forL_ap, kFor_ap, kFor2_nx, kFor2_ct, kFor2_bk, kFor2_rt, lenA_lst, lenA_tup, lenA_scr, lenA_dK, lenA_dT, addI_ap]
    · obtain ⟨i, hi, rfl⟩ := List.mem_map.mp hq
      simp only [wipeE, seqS_ap, kSeq_nx, kSeq_rt, kSeq_bk, kSeq_ct, retS_ap, kRet_ap, retN_ap, exprS_ap, kNx_ap, ifS_ap, ifE_ap, ifO_ap, kIf_t, kIf_f, badS_ap, nextS_ap, setS_ap, kSet_v, kSet_o, cellS_ap, kCell_ap, parS_ap, kPar_2, kPar_3, kPar_4, putSl_v, putSl_o, asgS_ap, kAsg_ap, kAsg2_ap, asgT_nm, asgT_tp, asgTs_nil, asgTs_nm, augS_ap, kAug_ap, kAug1_ap, kAug2_ap, nameE_ap, kNm_v, kNm_o, nameB_ap, kNb_o, kNb_v, kNc_cell, kNd_ap, kNc_int, kNc_bl, kNc_non, kNc_str, kNc_tup, kNc_lst, kNc_scr, kNc_dK, kNc_dT, kNc_ins, kMod_o, kMod_c, kMc_ap, kMo_ap, kMd_ap, appE_ap, kAp_ap, kAp2_ap, appU_ok, setIxS_ap, kSi_ap, kSi2_ap, kSi3_ap, setU_lst, augIxS_ap, kAx_ap, kAx1_ap, kAx1b_ap, kAx2_ap, kAx3_ap, kAx4_ap, lixG_ok, sharedE_ap, kSh_ap, plainE_ap, kPl_ap, constE_ap, nilA_ap, consA_ap, kCo_ap, kCo2_ap, nilL_ap, consL_ap, tupE_ap, lstE_ap, kTu_ap, kLs_ap, kOp_ap, kOp_no, binO_ap, kBi_ap, kBi2_ap, binE_ap, kBe_ap, kBe2_ap, chainE_ap, kCh_ap, kCh2_ap, kCh3_t, kCh3_f, kCh4_ap, testE_ap, toB_ap, andE_ap, orE_ap, notE_ap, kAnd_t, kAnd_f, kOr_t, kOr_f, kNot_ap, andT_ap, orT_ap, notT_ap, kAndT_t, kAndT_f, kOrT_t, kOrT_f, kNotT_ap, negE_ap, kNeg_ap, callO_ap, kCall_ap, kFr_ap, kFr_exc, un1O_ap, kUn_ap, un1E_ap, kUe_ap, lenG_lst, lenG_tup, lenG_scr, tupG_lst, tupG_tup, listG_lst, listG_tup, intG_int, intG_bl, absG_int, ixN_ap, kIx_ap, kIx2_ap, kIx3_ap, ixE_ap, kIe_ap, kIe2_ap, ixG_lst, ixG_tup, ixG_scr, noQ_ap, someQ_ap, kSq_ap, cutO_ap, kCt_ap, kCt2_ap, kCt3_ap, cutN_ap, kCn_ap, kCn2_ap, kCn3_ap, kCn4_ap, newK_ap, newT_ap, seqI_ap, seqP_lst, seqP_tup, seqP_scr, range1I_ap, kR1_ap, range2I_ap, kR2_ap, kR2b_ap, forS_ap, bodyF_ap, kBody_rt, kBody_nx, kBody_exc, yesT_ap, ix0, ix1, allG_ok, anyG_ok, sumG_ok, bind_ok, bind_bad, bind_exc, noX_ok, isi_int_int, isi_int_bool, isi_tup_tup, isi_lst_lst, isi_lst_tup, isi_tup_lst, subI_ok, addI_ok, ltI_ok, leI_ok, gtI_ok, geI_ok, cmpI_ok, max2_ok, min2_ok, eq_int, mul_modL, List.set_cons_zero, List.set_cons_succ, List.length_cons, List.length_nil, List.nil_append, List.cons_append, Nat.reduceAdd, Nat.reduceLeDiff, Nat.reduceLT, Nat.le_refl, decide_true, decide_false, Bool.not_true, Bool.not_false, Bool.true_and, Bool.false_and, Bool.and_true, Bool.and_false, Bool.true_or, Bool.false_or, Bool.or_true, Bool.or_false, Bool.false_bne, Bool.true_bne, Int.reduceLT, Int.reduceLE, Int.reducePow, Int.reduceNeg, Int.reduceToNat, if_true, if_false, frameE, List.map_cons, List.map_nil, List.replicate_succ, List.replicate_zero, Nat.reduceSub, List.replicate, ix0, ix1, and_self, true_and, and_true, pow_10_18, forL_nil, forL_ap, kFor_ap, kFor2_nx, kFor2_ct, kFor2_bk, kFor2_rt, lenA_lst, lenA_tup, lenA_scr, lenA_dK, lenA_dT, addI_ap, v_is_within t (s.bnd _ hr i hi).1 (s.bnd _ hr i hi).2]
  · refine small ?_
    have h2 := s.h2
    have w2 := s.w2
    have := s.len
    have e : ∀ l : List (List Int), (∀ r ∈ l, r.length = w) → ((l.map rowP).flatMap fun p => match p with | .tup _ qs => qs | _ => []).length = l.length * w := fun l hl => by
      induction l with
      | nil => simp
      | cons r l ih => simp [hl r List.mem_cons_self, ih (fun r hr => hl r (List.mem_cons_of_mem _ hr)), Nat.add_mul, Nat.add_comm]
    rw [e _ s.row, this]
    calc h * w ≤ 8 * 8 := Nat.mul_le_mul h2 w2
      _ ≤ 100 := by decide
  · have e : ∀ l : List PV, (l.flatMap fun p => ((match p with | .tup _ qs => qs | _ => []).filter fun _ => true).map fun _ => PV.bl true) = (l.flatMap fun p => match p with | .tup _ qs => qs | _ => []).map fun _ => PV.bl true := fun l => by
      induction l with
      | nil => rfl
      | cons p l ih =>
        simp only [List.flatMap_cons, List.map_append, ih]
        congr 2
        exact List.filter_eq_self.mpr fun _ _ => rfl
    rw [e]
    rfl
end K63
namespace K63
open PySem DR
theorem bd0_is_heights_ok {h w : Nat} {sh : List (List Int)} (s : Sheet h w sh) {a b : Nat} (ha : a < h) (hb : b < w) (x y : Int) (hx0 : 0 ≤ x) (hx1 : x ≤ 1) (hy0 : -1 ≤ y) (hy1 : y ≤ 1) (r o : Sl) (t : DT) :
    bd0_is_heights ⟨[.val (.int h), .val (.int w), .val (shP sh), .val (.int a), .val (.int b), .val (.int x), .val (.int y), r, o], t⟩ = .ok .nx ⟨[.val (.int h), .val (.int w), .val (shP sh), .val (.int a), .val (.int b), .val (.int x), .val (.int y), r, o], t⟩ := by
  have r1 := s.rowLen ha
  by_cases h1 : (a : Int) + x < h
  · by_cases h2 : 0 ≤ (b : Int) + y
    · by_cases h3 : (b : Int) + y < w
      · have l2 : ((a : Int) + x).toNat < h := by omega
        have r2 := s.rowLen l2
        have s1 := s.stp a b ((a : Int) + x).toNat ((b : Int) + y).toNat ha hb l2 (by omega) (by omega) (by omega) (by omega) (by omega)
        have s2 := s.stp ((a : Int) + x).toNat ((b : Int) + y).toNat a b l2 (by omega) ha hb (by omega) (by omega) (by omega) (by omega)
        have i1 := ix_sh (c := false) (sh := sh) (a := a) (by rw [s.len]; exact ha)
        have i2 := ix_shI (c := false) (sh := sh) (i := (a : Int) + x) (by omega) (by rw [s.len]; exact l2)
        have i3 := ix_row (c := false) (r := sh.getD a []) (b := b) (by rw [r1]; exact hb)
        have i4 := ix_rowI (c := false) (r := sh.getD ((a : Int) + x).toNat []) (i := (b : Int) + y) h2 (by rw [r2]; omega)
        unfold at2 at s1 s2
        have d : ¬ (1 : Int) < (if (sh.getD a []).getD b 0 - (sh.getD ((a : Int) + x).toNat []).getD ((b : Int) + y).toNat 0 < 0 then -((sh.getD a []).getD b 0 - (sh.getD ((a : Int) + x).toNat []).getD ((b : Int) + y).toNat 0) else (sh.getD a []).getD b 0 - (sh.getD ((a : Int) + x).toNat []).getD ((b : Int) + y).toNat 0) := by
          split <;> omega
        simp only [bd0_is_heights, shP, rowP, i1, i2, i3, i4, seqS_ap, kSeq_nx, kSeq_rt, kSeq_bk, kSeq_ct, retS_ap, kRet_ap, retN_ap, exprS_ap, kNx_ap, ifS_ap, ifE_ap, ifO_ap, kIf_t, kIf_f, badS_ap, nextS_ap, setS_ap, kSet_v, kSet_o, cellS_ap, kCell_ap, parS_ap, kPar_2, kPar_3, kPar_4, putSl_v, putSl_o, asgS_ap, kAsg_ap, kAsg2_ap, asgT_nm, asgT_tp, asgTs_nil, asgTs_nm, augS_ap, kAug_ap, kAug1_ap, kAug2_ap, nameE_ap, kNm_v, kNm_o, nameB_ap, kNb_o, kNb_v, kNc_cell, kNd_ap, kNc_int, kNc_bl, kNc_non, kNc_str, kNc_tup, kNc_lst, kNc_scr, kNc_dK, kNc_dT, kNc_ins, kMod_o, kMod_c, kMc_ap, kMo_ap, kMd_ap, appE_ap, kAp_ap, kAp2_ap, appU_ok, setIxS_ap, kSi_ap, kSi2_ap, kSi3_ap, setU_lst, augIxS_ap, kAx_ap, kAx1_ap, kAx1b_ap, kAx2_ap, kAx3_ap, kAx4_ap, lixG_ok, sharedE_ap, kSh_ap, plainE_ap, kPl_ap, constE_ap, nilA_ap, consA_ap, kCo_ap, kCo2_ap, nilL_ap, consL_ap, tupE_ap, lstE_ap, kTu_ap, kLs_ap, kOp_ap, kOp_no, binO_ap, kBi_ap, kBi2_ap, binE_ap, kBe_ap, kBe2_ap, chainE_ap, kCh_ap, kCh2_ap, kCh3_t, kCh3_f, kCh4_ap, testE_ap, toB_ap, andE_ap, orE_ap, notE_ap, kAnd_t, kAnd_f, kOr_t, kOr_f, kNot_ap, andT_ap, orT_ap, notT_ap, kAndT_t, kAndT_f, kOrT_t, kOrT_f, kNotT_ap, negE_ap, kNeg_ap, callO_ap, kCall_ap, kFr_ap, kFr_exc, un1O_ap, kUn_ap, un1E_ap, kUe_ap, lenG_lst, lenG_tup, lenG_scr, tupG_lst, tupG_tup, listG_lst, listG_tup, intG_int, intG_bl, absG_int, ixN_ap, kIx_ap, kIx2_ap, kIx3_ap, ixE_ap, kIe_ap, kIe2_ap, ixG_lst, ixG_tup, ixG_scr, noQ_ap, someQ_ap, kSq_ap, cutO_ap, kCt_ap, kCt2_ap, kCt3_ap, cutN_ap, kCn_ap, kCn2_ap, kCn3_ap, kCn4_ap, newK_ap, newT_ap, seqI_ap, seqP_lst, seqP_tup, seqP_scr, range1I_ap, kR1_ap, range2I_ap, kR2_ap, kR2b_ap, forS_ap, bodyF_ap, kBody_rt, kBody_nx, kBody_exc, yesT_ap, ix0, ix1, allG_ok, anyG_ok, sumG_ok, bind_ok, bind_bad, bind_exc, noX_ok, isi_int_int, isi_int_bool, isi_tup_tup, isi_lst_lst, isi_lst_tup, isi_tup_lst, subI_ok, addI_ok, ltI_ok, leI_ok, gtI_ok, geI_ok, cmpI_ok, max2_ok, min2_ok, eq_int, mul_modL, List.set_cons_zero, List.set_cons_succ, List.length_cons, List.length_nil, List.nil_append, List.cons_append, Nat.reduceAdd, Nat.reduceLeDiff, Nat.reduceLT, Nat.le_refl, decide_true, decide_false, Bool.not_true, Bool.not_false, Bool.true_and, Bool.false_and, Bool.and_true, Bool.and_false, Bool.true_or, Bool.false_or, Bool.or_true, Bool.or_false, Bool.false_bne, Bool.true_bne, Int.reduceLT, Int.reduceLE, Int.reducePow, Int.reduceNeg, Int.reduceToNat, if_true, if_false, frameE, List.map_cons, List.map_nil, List.replicate_succ, List.replicate_zero, Nat.reduceSub, List.replicate, ix0, ix1, and_self, true_and, and_true, pow_10_18, forL_nil, forL_ap, kFor_ap, kFor2_nx, kFor2_ct, kFor2_bk, kFor2_rt, lenA_lst, lenA_tup, lenA_scr, lenA_dK, lenA_dT, addI_ap, h1, h2, h3, d]
      · simp only [bd0_is_heights, shP, seqS_ap, kSeq_nx, kSeq_rt, kSeq_bk, kSeq_ct, retS_ap, kRet_ap, retN_ap, exprS_ap, kNx_ap, ifS_ap, ifE_ap, ifO_ap, kIf_t, kIf_f, badS_ap, nextS_ap, setS_ap, kSet_v, kSet_o, cellS_ap, kCell_ap, parS_ap, kPar_2, kPar_3, kPar_4, putSl_v, putSl_o, asgS_ap, kAsg_ap, kAsg2_ap, asgT_nm, asgT_tp, asgTs_nil, asgTs_nm, augS_ap, kAug_ap, kAug1_ap, kAug2_ap, nameE_ap, kNm_v, kNm_o, nameB_ap, kNb_o, kNb_v, kNc_cell, kNd_ap, kNc_int, kNc_bl, kNc_non, kNc_str, kNc_tup, kNc_lst, kNc_scr, kNc_dK, kNc_dT, kNc_ins, kMod_o, kMod_c, kMc_ap, kMo_ap, kMd_ap, appE_ap, kAp_ap, kAp2_ap, appU_ok, setIxS_ap, kSi_ap, kSi2_ap, kSi3_ap, setU_lst, augIxS_ap, kAx_ap, kAx1_ap, kAx1b_ap, kAx2_ap, kAx3_ap, kAx4_ap, lixG_ok, sharedE_ap, kSh_ap, plainE_ap, kPl_ap, constE_ap, nilA_ap, consA_ap, kCo_ap, kCo2_ap, nilL_ap, consL_ap, tupE_ap, lstE_ap, kTu_ap, kLs_ap, kOp_ap, kOp_no, binO_ap, kBi_ap, kBi2_ap, binE_ap, kBe_ap, kBe2_ap, chainE_ap, kCh_ap, kCh2_ap, kCh3_t, kCh3_f, kCh4_ap, testE_ap, toB_ap, andE_ap, orE_ap, notE_ap, kAnd_t, kAnd_f, kOr_t, kOr_f, kNot_ap, andT_ap, orT_ap, notT_ap, kAndT_t, kAndT_f, kOrT_t, kOrT_f, kNotT_ap, negE_ap, kNeg_ap, callO_ap, kCall_ap, kFr_ap, kFr_exc, un1O_ap, kUn_ap, un1E_ap, kUe_ap, lenG_lst, lenG_tup, lenG_scr, tupG_lst, tupG_tup, listG_lst, listG_tup, intG_int, intG_bl, absG_int, ixN_ap, kIx_ap, kIx2_ap, kIx3_ap, ixE_ap, kIe_ap, kIe2_ap, ixG_lst, ixG_tup, ixG_scr, noQ_ap, someQ_ap, kSq_ap, cutO_ap, kCt_ap, kCt2_ap, kCt3_ap, cutN_ap, kCn_ap, kCn2_ap, kCn3_ap, kCn4_ap, newK_ap, newT_ap, seqI_ap, seqP_lst, seqP_tup, seqP_scr, range1I_ap, kR1_ap, range2I_ap, kR2_ap, kR2b_ap, forS_ap, bodyF_ap, kBody_rt, kBody_nx, kBody_exc, yesT_ap, ix0, ix1, allG_ok, anyG_ok, sumG_ok, bind_ok, bind_bad, bind_exc, noX_ok, isi_int_int, isi_int_bool, isi_tup_tup, isi_lst_lst, isi_lst_tup, isi_tup_lst, subI_ok, addI_ok, ltI_ok, leI_ok, gtI_ok, geI_ok, cmpI_ok, max2_ok, min2_ok, eq_int, mul_modL, List.set_cons_zero, List.set_cons_succ, List.length_cons, List.length_nil, List.nil_append, List.cons_append, Nat.reduceAdd, Nat.reduceLeDiff, Nat.reduceLT, Nat.le_refl, decide_true, decide_false, Bool.not_true, Bool.not_false, Bool.true_and, Bool.false_and, Bool.and_true, Bool.and_false, Bool.true_or, Bool.false_or, Bool.or_true, Bool.or_false, Bool.false_bne, Bool.true_bne, Int.reduceLT, Int.reduceLE, Int.reducePow, Int.reduceNeg, Int.reduceToNat, if_true, if_false, frameE, List.map_cons, List.map_nil, List.replicate_succ, List.replicate_zero, Nat.reduceSub, List.replicate, ix0, ix1, and_self, true_and, and_true, pow_10_18, forL_nil, forL_ap, kFor_ap, kFor2_nx, kFor2_ct, kFor2_bk, kFor2_rt, lenA_lst, lenA_tup, lenA_scr, lenA_dK, lenA_dT, addI_ap, h1, h2, h3]
    · simp only [bd0_is_heights, shP, seqS_ap, kSeq_nx, kSeq_rt, kSeq_bk, kSeq_ct, retS_ap, kRet_ap, retN_ap, exprS_ap, kNx_ap, ifS_ap, ifE_ap, ifO_ap, kIf_t, kIf_f, badS_ap, nextS_ap, setS_ap, kSet_v, kSet_o, cellS_ap, kCell_ap, parS_ap, kPar_2, kPar_3, kPar_4, putSl_v, putSl_o, asgS_ap, kAsg_ap, kAsg2_ap, asgT_nm, asgT_tp, asgTs_nil, asgTs_nm, augS_ap, kAug_ap, kAug1_ap, kAug2_ap, nameE_ap, kNm_v, kNm_o, nameB_ap, kNb_o, kNb_v, kNc_cell, kNd_ap, kNc_int, kNc_bl, kNc_non, kNc_str, kNc_tup, kNc_lst, kNc_scr, kNc_dK, kNc_dT, kNc_ins, kMod_o, kMod_c, kMc_ap, kMo_ap, kMd_ap, appE_ap, kAp_ap, kAp2_ap, appU_ok, setIxS_ap, kSi_ap, kSi2_ap, kSi3_ap, setU_lst, augIxS_ap, kAx_ap, kAx1_ap, kAx1b_ap, kAx2_ap, kAx3_ap, kAx4_ap, lixG_ok, sharedE_ap, kSh_ap, plainE_ap, kPl_ap, constE_ap, nilA_ap, consA_ap, kCo_ap, kCo2_ap, nilL_ap, consL_ap, tupE_ap, lstE_ap, kTu_ap, kLs_ap, kOp_ap, kOp_no, binO_ap, kBi_ap, kBi2_ap, binE_ap, kBe_ap, kBe2_ap, chainE_ap, kCh_ap, kCh2_ap, kCh3_t, kCh3_f, kCh4_ap, testE_ap, toB_ap, andE_ap, orE_ap, notE_ap, kAnd_t, kAnd_f, kOr_t, kOr_f, kNot_ap, andT_ap, orT_ap, notT_ap, kAndT_t, kAndT_f, kOrT_t, kOrT_f, kNotT_ap, negE_ap, kNeg_ap, callO_ap, kCall_ap, kFr_ap, kFr_exc, un1O_ap, kUn_ap, un1E_ap, kUe_ap, lenG_lst, lenG_tup, lenG_scr, tupG_lst, tupG_tup, listG_lst, listG_tup, intG_int, intG_bl, absG_int, ixN_ap, kIx_ap, kIx2_ap, kIx3_ap, ixE_ap, kIe_ap, kIe2_ap, ixG_lst, ixG_tup, ixG_scr, noQ_ap, someQ_ap, kSq_ap, cutO_ap, kCt_ap, kCt2_ap, kCt3_ap, cutN_ap, kCn_ap, kCn2_ap, kCn3_ap, kCn4_ap, newK_ap, newT_ap, seqI_ap, seqP_lst, seqP_tup, seqP_scr, range1I_ap, kR1_ap, range2I_ap, kR2_ap, kR2b_ap, forS_ap, bodyF_ap, kBody_rt, kBody_nx, kBody_exc, yesT_ap, ix0, ix1, allG_ok, anyG_ok, sumG_ok, bind_ok, bind_bad, bind_exc, noX_ok, isi_int_int, isi_int_bool, isi_tup_tup, isi_lst_lst, isi_lst_tup, isi_tup_lst, subI_ok, addI_ok, ltI_ok, leI_ok, gtI_ok, geI_ok, cmpI_ok, max2_ok, min2_ok, eq_int, mul_modL, List.set_cons_zero, List.set_cons_succ, List.length_cons, List.length_nil, List.nil_append, List.cons_append, Nat.reduceAdd, Nat.reduceLeDiff, Nat.reduceLT, Nat.le_refl, decide_true, decide_false, Bool.not_true, Bool.not_false, Bool.true_and, Bool.false_and, Bool.and_true, Bool.and_false, Bool.true_or, Bool.false_or, Bool.or_true, Bool.or_false, Bool.false_bne, Bool.true_bne, Int.reduceLT, Int.reduceLE, Int.reducePow, Int.reduceNeg, Int.reduceToNat, if_true, if_false, frameE, List.map_cons, List.map_nil, List.replicate_succ, List.replicate_zero, Nat.reduceSub, List.replicate, ix0, ix1, and_self, true_and, and_true, pow_10_18, forL_nil, forL_ap, kFor_ap, kFor2_nx, kFor2_ct, kFor2_bk, kFor2_rt, lenA_lst, lenA_tup, lenA_scr, lenA_dK, lenA_dT, addI_ap, h1, h2]
  · simp only [bd0_is_heights, shP, seqS_ap, kSeq_nx, kSeq_rt, kSeq_bk, kSeq_ct, retS_ap, kRet_ap, retN_ap, exprS_ap, kNx_ap, ifS_ap, ifE_ap, ifO_ap, kIf_t, kIf_f, badS_ap, nextS_ap, setS_ap, kSet_v, kSet_o, cellS_ap, kCell_ap, parS_ap, kPar_2, kPar_3, kPar_4, putSl_v, putSl_o, asgS_ap, kAsg_ap, kAsg2_ap, asgT_nm, asgT_tp, asgTs_nil, asgTs_nm, augS_ap, kAug_ap, kAug1_ap, kAug2_ap, nameE_ap, kNm_v, kNm_o, nameB_ap, kNb_o, kNb_v, kNc_cell, kNd_ap, kNc_int, kNc_bl, kNc_non, kNc_str, kNc_tup, kNc_lst, kNc_scr, kNc_dK, kNc_dT, kNc_ins, kMod_o, kMod_c, kMc_ap, kMo_ap, kMd_ap, appE_ap, kAp_ap, kAp2_ap, appU_ok, setIxS_ap, kSi_ap, kSi2_ap, kSi3_ap, setU_lst, augIxS_ap, kAx_ap, kAx1_ap, kAx1b_ap, kAx2_ap, kAx3_ap, kAx4_ap, lixG_ok, sharedE_ap, kSh_ap, plainE_ap, kPl_ap, constE_ap, nilA_ap, consA_ap, kCo_ap, kCo2_ap, nilL_ap, consL_ap, tupE_ap, lstE_ap, kTu_ap, kLs_ap, kOp_ap, kOp_no, binO_ap, kBi_ap, kBi2_ap, binE_ap, kBe_ap, kBe2_ap, chainE_ap, kCh_ap, kCh2_ap, kCh3_t, kCh3_f, kCh4_ap, testE_ap, toB_ap, andE_ap, orE_ap, notE_ap, kAnd_t, kAnd_f, kOr_t, kOr_f, kNot_ap, andT_ap, orT_ap, notT_ap, kAndT_t, kAndT_f, kOrT_t, kOrT_f, kNotT_ap, negE_ap, kNeg_ap, callO_ap, kCall_ap, kFr_ap, kFr_exc, un1O_ap, kUn_ap, un1E_ap, kUe_ap, lenG_lst, lenG_tup, lenG_scr, tupG_lst, tupG_tup, listG_lst, listG_tup, intG_int, intG_bl, absG_int, ixN_ap, kIx_ap, kIx2_ap, kIx3_ap, ixE_ap, kIe_ap, kIe2_ap, ixG_lst, ixG_tup, ixG_scr, noQ_ap, someQ_ap, kSq_ap, cutO_ap, kCt_ap, kCt2_ap, kCt3_ap, cutN_ap, kCn_ap, kCn2_ap, kCn3_ap, kCn4_ap, newK_ap, newT_ap, seqI_ap, seqP_lst, seqP_tup, seqP_scr, range1I_ap, kR1_ap, range2I_ap, kR2_ap, kR2b_ap, forS_ap, bodyF_ap, kBody_rt, kBody_nx, kBody_exc, yesT_ap, ix0, ix1, allG_ok, anyG_ok, sumG_ok, bind_ok, bind_bad, bind_exc, noX_ok, isi_int_int, isi_int_bool, isi_tup_tup, isi_lst_lst, isi_lst_tup, isi_tup_lst, subI_ok, addI_ok, ltI_ok, leI_ok, gtI_ok, geI_ok, cmpI_ok, max2_ok, min2_ok, eq_int, mul_modL, List.set_cons_zero, List.set_cons_succ, List.length_cons, List.length_nil, List.nil_append, List.cons_append, Nat.reduceAdd, Nat.reduceLeDiff, Nat.reduceLT, Nat.le_refl, decide_true, decide_false, Bool.not_true, Bool.not_false, Bool.true_and, Bool.false_and, Bool.and_true, Bool.and_false, Bool.true_or, Bool.false_or, Bool.or_true, Bool.or_false, Bool.false_bne, Bool.true_bne, Int.reduceLT, Int.reduceLE, Int.reducePow, Int.reduceNeg, Int.reduceToNat, if_true, if_false, frameE, List.map_cons, List.map_nil, List.replicate_succ, List.replicate_zero, Nat.reduceSub, List.replicate, ix0, ix1, and_self, true_and, and_true, pow_10_18, forL_nil, forL_ap, kFor_ap, kFor2_nx, kFor2_ct, kFor2_bk, kFor2_rt, lenA_lst, lenA_tup, lenA_scr, lenA_dK, lenA_dT, addI_ap, h1]
theorem lp0_is_heights_ok {h w : Nat} {sh : List (List Int)} (s : Sheet h w sh) {a b : Nat} (ha : a < h) (hb : b < w) (x y r o : Sl) (t : DT) :
    ∃ x' y', lp0_is_heights ⟨[.val (.int h), .val (.int w), .val (shP sh), .val (.int a), .val (.int b), x, y, r, o], t⟩ = .ok .nx ⟨[.val (.int h), .val (.int w), .val (shP sh), .val (.int a), .val (.int b), x', y', r, o], t⟩ := by
  apply Exists.intro
  apply Exists.intro
  simp only [lp0_is_heights, it0_is_heights, seqS_ap, kSeq_nx, kSeq_rt, kSeq_bk, kSeq_ct, retS_ap, kRet_ap, retN_ap, exprS_ap, kNx_ap, ifS_ap, ifE_ap, ifO_ap, kIf_t, kIf_f, badS_ap, nextS_ap, setS_ap, kSet_v, kSet_o, cellS_ap, kCell_ap, parS_ap, kPar_2, kPar_3, kPar_4, putSl_v, putSl_o, asgS_ap, kAsg_ap, kAsg2_ap, asgT_nm, asgT_tp, asgTs_nil, asgTs_nm, augS_ap, kAug_ap, kAug1_ap, kAug2_ap, nameE_ap, kNm_v, kNm_o, nameB_ap, kNb_o, kNb_v, kNc_cell, kNd_ap, kNc_int, kNc_bl, kNc_non, kNc_str, kNc_tup, kNc_lst, kNc_scr, kNc_dK, kNc_dT, kNc_ins, kMod_o, kMod_c, kMc_ap, kMo_ap, kMd_ap, appE_ap, kAp_ap, kAp2_ap, appU_ok, setIxS_ap, kSi_ap, kSi2_ap, kSi3_ap, setU_lst, augIxS_ap, kAx_ap, kAx1_ap, kAx1b_ap, kAx2_ap, kAx3_ap, kAx4_ap, lixG_ok, sharedE_ap, kSh_ap, plainE_ap, kPl_ap, constE_ap, nilA_ap, consA_ap, kCo_ap, kCo2_ap, nilL_ap, consL_ap, tupE_ap, lstE_ap, kTu_ap, kLs_ap, kOp_ap, kOp_no, binO_ap, kBi_ap, kBi2_ap, binE_ap, kBe_ap, kBe2_ap, chainE_ap, kCh_ap, kCh2_ap, kCh3_t, kCh3_f, kCh4_ap, testE_ap, toB_ap, andE_ap, orE_ap, notE_ap, kAnd_t, kAnd_f, kOr_t, kOr_f, kNot_ap, andT_ap, orT_ap, notT_ap, kAndT_t, kAndT_f, kOrT_t, kOrT_f, kNotT_ap, negE_ap, kNeg_ap, callO_ap, kCall_ap, kFr_ap, kFr_exc, un1O_ap, kUn_ap, un1E_ap, kUe_ap, lenG_lst, lenG_tup, lenG_scr, tupG_lst, tupG_tup, listG_lst, listG_tup, intG_int, intG_bl, absG_int, ixN_ap, kIx_ap, kIx2_ap, kIx3_ap, ixE_ap, kIe_ap, kIe2_ap, ixG_lst, ixG_tup, ixG_scr, noQ_ap, someQ_ap, kSq_ap, cutO_ap, kCt_ap, kCt2_ap, kCt3_ap, cutN_ap, kCn_ap, kCn2_ap, kCn3_ap, kCn4_ap, newK_ap, newT_ap, seqI_ap, seqP_lst, seqP_tup, seqP_scr, range1I_ap, kR1_ap, range2I_ap, kR2_ap, kR2b_ap, forS_ap, bodyF_ap, kBody_rt, kBody_nx, kBody_exc, yesT_ap, ix0, ix1, allG_ok, anyG_ok, sumG_ok, bind_ok, bind_bad, bind_exc, noX_ok, isi_int_int, isi_int_bool, isi_tup_tup, isi_lst_lst, isi_lst_tup, isi_tup_lst, subI_ok, addI_ok, ltI_ok, leI_ok, gtI_ok, geI_ok, cmpI_ok, max2_ok, min2_ok, eq_int, mul_modL, List.set_cons_zero, List.set_cons_succ, List.length_cons, List.length_nil, List.nil_append, List.cons_append, Nat.reduceAdd, Nat.reduceLeDiff, Nat.reduceLT, Nat.le_refl, decide_true, decide_false, Bool.not_true, Bool.not_false, Bool.true_and, Bool.false_and, Bool.and_true, Bool.and_false, Bool.true_or, Bool.false_or, Bool.or_true, Bool.or_false, Bool.false_bne, Bool.true_bne, Int.reduceLT, Int.reduceLE, Int.reducePow, Int.reduceNeg, Int.reduceToNat, if_true, if_false, frameE, List.map_cons, List.map_nil, List.replicate_succ, List.replicate_zero, Nat.reduceSub, List.replicate, ix0, ix1, and_self, true_and, and_true, pow_10_18, forL_nil, forL_ap, kFor_ap, kFor2_nx, kFor2_ct, kFor2_bk, kFor2_rt, lenA_lst, lenA_tup, lenA_scr, lenA_dK, lenA_dT, addI_ap, bd0_is_heights_ok s ha hb 0 1 (by decide) (by decide) (by decide) (by decide), bd0_is_heights_ok s ha hb 1 (-1) (by decide) (by decide) (by decide) (by decide), bd0_is_heights_ok s ha hb 1 0 (by decide) (by decide) (by decide) (by decide), bd0_is_heights_ok s ha hb 1 1 (by decide) (by decide) (by decide) (by decide)]
  rfl
theorem lp1_is_heights_ok {h w : Nat} {sh : List (List Int)} (s : Sheet h w sh) {a : Nat} (ha : a < h) (b x y r o : Sl) (t : DT) :
    ∃ b' x' y', lp1_is_heights ⟨[.val (.int h), .val (.int w), .val (shP sh), .val (.int a), b, x, y, r, o], t⟩ = .ok .nx ⟨[.val (.int h), .val (.int w), .val (shP sh), .val (.int a), b', x', y', r, o], t⟩ := by
  have hw := s.w2
  obtain ⟨s', h1, b', x', y', h2, h3⟩ := forL_inv (tg := .nm 4) (b := bd1_is_heights) (Inv := fun _ e t' => ∃ b' x' y', e = [.val (.int h), .val (.int w), .val (shP sh), .val (.int a), b', x', y', r, o] ∧ t' = t) (rangeP 0 w) 0 ⟨[.val (.int h), .val (.int w), .val (shP sh), .val (.int a), b, x, y, r, o], t⟩
    (fun i p hp e t' ⟨b1, x1, y1, he, ht⟩ => by
      subst he ht
      obtain ⟨hi, rfl⟩ := rangeP0_get hp
      obtain ⟨x2, y2, h2⟩ := lp0_is_heights_ok s ha hi x1 y1 r o t'
      exact ⟨_, _, rfl, .inl h2, _, x2, y2, rfl, rfl⟩) (Nat.zero_le _) ⟨b, x, y, rfl, rfl⟩
  obtain ⟨e', t'⟩ := s'
  simp only at h2 h3
  subst h2 h3
  refine ⟨b', x', y', ?_⟩
  rw [List.drop_zero] at h1
  simp only [lp1_is_heights, it1_is_heights, seqS_ap, kSeq_nx, kSeq_rt, kSeq_bk, kSeq_ct, retS_ap, kRet_ap, retN_ap, exprS_ap, kNx_ap, ifS_ap, ifE_ap, ifO_ap, kIf_t, kIf_f, badS_ap, nextS_ap, setS_ap, kSet_v, kSet_o, cellS_ap, kCell_ap, parS_ap, kPar_2, kPar_3, kPar_4, putSl_v, putSl_o, asgS_ap, kAsg_ap, kAsg2_ap, asgT_nm, asgT_tp, asgTs_nil, asgTs_nm, augS_ap, kAug_ap, kAug1_ap, kAug2_ap, nameE_ap, kNm_v, kNm_o, nameB_ap, kNb_o, kNb_v, kNc_cell, kNd_ap, kNc_int, kNc_bl, kNc_non, kNc_str, kNc_tup, kNc_lst, kNc_scr, kNc_dK, kNc_dT, kNc_ins, kMod_o, kMod_c, kMc_ap, kMo_ap, kMd_ap, appE_ap, kAp_ap, kAp2_ap, appU_ok, setIxS_ap, kSi_ap, kSi2_ap, kSi3_ap, setU_lst, augIxS_ap, kAx_ap, kAx1_ap, kAx1b_ap, kAx2_ap, kAx3_ap, kAx4_ap, lixG_ok, sharedE_ap, kSh_ap, plainE_ap, kPl_ap, constE_ap, nilA_ap, consA_ap, kCo_ap, kCo2_ap, nilL_ap, consL_ap, tupE_ap, lstE_ap, kTu_ap, kLs_ap, kOp_ap, kOp_no, binO_ap, kBi_ap, kBi2_ap, binE_ap, kBe_ap, kBe2_ap, chainE_ap, kCh_ap, kCh2_ap, kCh3_t, kCh3_f, kCh4_ap, testE_ap, toB_ap, andE_ap, orE_ap, notE_ap, kAnd_t, kAnd_f, kOr_t, kOr_f, kNot_ap, andT_ap, orT_ap, notT_ap, kAndT_t, kAndT_f, kOrT_t, kOrT_f, kNotT_ap, negE_ap, kNeg_ap, callO_ap, kCall_ap, kFr_ap, kFr_exc, un1O_ap, kUn_ap, un1E_ap, kUe_ap, lenG_lst, lenG_tup, lenG_scr, tupG_lst, tupG_tup, listG_lst, listG_tup, intG_int, intG_bl, absG_int, ixN_ap, kIx_ap, kIx2_ap, kIx3_ap, ixE_ap, kIe_ap, kIe2_ap, ixG_lst, ixG_tup, ixG_scr, noQ_ap, someQ_ap, kSq_ap, cutO_ap, kCt_ap, kCt2_ap, kCt3_ap, cutN_ap, kCn_ap, kCn2_ap, kCn3_ap, kCn4_ap, newK_ap, newT_ap, seqI_ap, seqP_lst, seqP_tup, seqP_scr, range1I_ap, kR1_ap, range2I_ap, kR2_ap, kR2b_ap, forS_ap, bodyF_ap, kBody_rt, kBody_nx, kBody_exc, yesT_ap, ix0, ix1, allG_ok, anyG_ok, sumG_ok, bind_ok, bind_bad, bind_exc, noX_ok, isi_int_int, isi_int_bool, isi_tup_tup, isi_lst_lst, isi_lst_tup, isi_tup_lst, subI_ok, addI_ok, ltI_ok, leI_ok, gtI_ok, geI_ok, cmpI_ok, max2_ok, min2_ok, eq_int, mul_modL, List.set_cons_zero, List.set_cons_succ, List.length_cons, List.length_nil, List.nil_append, List.cons_append, Nat.reduceAdd, Nat.reduceLeDiff, Nat.reduceLT, Nat.le_refl, decide_true, decide_false, Bool.not_true, Bool.not_false, Bool.true_and, Bool.false_and, Bool.and_true, Bool.and_false, Bool.true_or, Bool.false_or, Bool.or_true, Bool.or_false, Bool.false_bne, Bool.true_bne, Int.reduceLT, Int.reduceLE, Int.reducePow, Int.reduceNeg, Int.reduceToNat, if_true, if_false, frameE, List.map_cons, List.map_nil, List.replicate_succ, List.replicate_zero, Nat.reduceSub, List.replicate, ix0, ix1, and_self, true_and, and_true, pow_10_18, forL_nil, forL_ap, kFor_ap, kFor2_nx, kFor2_ct, kFor2_bk, kFor2_rt, lenA_lst, lenA_tup, lenA_scr, lenA_dK, lenA_dT, addI_ap, kR1_ap (x := (w : Int)) (by omega) (by omega), Int.toNat_natCast]
  exact h1
theorem lp2_is_heights_ok {h w : Nat} {sh : List (List Int)} (s : Sheet h w sh) (a b x y r o : Sl) (t : DT) :
    ∃ a' b' x' y', lp2_is_heights ⟨[.val (.int h), .val (.int w), .val (shP sh), a, b, x, y, r, o], t⟩ = .ok .nx ⟨[.val (.int h), .val (.int w), .val (shP sh), a', b', x', y', r, o], t⟩ := by
  have hh := s.h2
  obtain ⟨s', h1, a', b', x', y', h2, h3⟩ := forL_inv (tg := .nm 3) (b := bd2_is_heights) (Inv := fun _ e t' => ∃ a' b' x' y', e = [.val (.int h), .val (.int w), .val (shP sh), a', b', x', y', r, o] ∧ t' = t) (rangeP 0 h) 0 ⟨[.val (.int h), .val (.int w), .val (shP sh), a, b, x, y, r, o], t⟩
    (fun i p hp e t' ⟨a1, b1, x1, y1, he, ht⟩ => by
      subst he ht
      obtain ⟨hi, rfl⟩ := rangeP0_get hp
      obtain ⟨b2, x2, y2, h2⟩ := lp1_is_heights_ok s hi b1 x1 y1 r o t'
      exact ⟨_, _, rfl, .inl h2, _, b2, x2, y2, rfl, rfl⟩) (Nat.zero_le _) ⟨a, b, x, y, rfl, rfl⟩
  obtain ⟨e', t'⟩ := s'
  simp only at h2 h3
  subst h2 h3
  refine ⟨a', b', x', y', ?_⟩
  rw [List.drop_zero] at h1
  simp only [lp2_is_heights, it2_is_heights, seqS_ap, kSeq_nx, kSeq_rt, kSeq_bk, kSeq_ct, retS_ap, kRet_ap, retN_ap, exprS_ap, kNx_ap, ifS_ap, ifE_ap, ifO_ap, kIf_t, kIf_f, badS_ap, nextS_ap, setS_ap, kSet_v, kSet_o, cellS_ap, kCell_ap, parS_ap, kPar_2, kPar_3, kPar_4, putSl_v, putSl_o, asgS_ap, kAsg_ap, kAsg2_ap, asgT_nm, asgT_tp, asgTs_nil, asgTs_nm, augS_ap, kAug_ap, kAug1_ap, kAug2_ap, nameE_ap, kNm_v, kNm_o, nameB_ap, kNb_o, kNb_v, kNc_cell, kNd_ap, kNc_int, kNc_bl, kNc_non, kNc_str, kNc_tup, kNc_lst, kNc_scr, kNc_dK, kNc_dT, kNc_ins, kMod_o, kMod_c, kMc_ap, kMo_ap, kMd_ap, appE_ap, kAp_ap, kAp2_ap, appU_ok, setIxS_ap, kSi_ap, kSi2_ap, kSi3_ap, setU_lst, augIxS_ap, kAx_ap, kAx1_ap, kAx1b_ap, kAx2_ap, kAx3_ap, kAx4_ap, lixG_ok, sharedE_ap, kSh_ap, plainE_ap, kPl_ap, constE_ap, nilA_ap, consA_ap, kCo_ap, kCo2_ap, nilL_ap, consL_ap, tupE_ap, lstE_ap, kTu_ap, kLs_ap, kOp_ap, kOp_no, binO_ap, kBi_ap, kBi2_ap, binE_ap, kBe_ap, kBe2_ap, chainE_ap, kCh_ap, kCh2_ap, kCh3_t, kCh3_f, kCh4_ap, testE_ap, toB_ap, andE_ap, orE_ap, notE_ap, kAnd_t, kAnd_f, kOr_t, kOr_f, kNot_ap, andT_ap, orT_ap, notT_ap, kAndT_t, kAndT_f, kOrT_t, kOrT_f, kNotT_ap, negE_ap, kNeg_ap, callO_ap, kCall_ap, kFr_ap, kFr_exc, un1O_ap, kUn_ap, un1E_ap, kUe_ap, lenG_lst, lenG_tup, lenG_scr, tupG_lst, tupG_tup, listG_lst, listG_tup, intG_int, intG_bl, absG_int, ixN_ap, kIx_ap, kIx2_ap, kIx3_ap, ixE_ap, kIe_ap, kIe2_ap, ixG_lst, ixG_tup, ixG_scr, noQ_ap, someQ_ap, kSq_ap, cutO_ap, kCt_ap, kCt2_ap, kCt3_ap, cutN_ap, kCn_ap, kCn2_ap, kCn3_ap, kCn4_ap, newK_ap, newT_ap, seqI_ap, seqP_lst, seqP_tup, seqP_scr, range1I_ap, kR1_ap, range2I_ap, kR2_ap, kR2b_ap, forS_ap, bodyF_ap, kBody_rt, kBody_nx, kBody_exc, yesT_ap, ix0, ix1, allG_ok, anyG_ok, sumG_ok, bind_ok, bind_bad, bind_exc, noX_ok, isi_int_int, isi_int_bool, isi_tup_tup, isi_lst_lst, isi_lst_tup, isi_tup_lst, subI_ok, addI_ok, ltI_ok, leI_ok, gtI_ok, geI_ok, cmpI_ok, max2_ok, min2_ok, eq_int, mul_modL, List.set_cons_zero, List.set_cons_succ, List.length_cons, List.length_nil, List.nil_append, List.cons_append, Nat.reduceAdd, Nat.reduceLeDiff, Nat.reduceLT, Nat.le_refl, decide_true, decide_false, Bool.not_true, Bool.not_false, Bool.true_and, Bool.false_and, Bool.and_true, Bool.and_false, Bool.true_or, Bool.false_or, Bool.or_true, Bool.or_false, Bool.false_bne, Bool.true_bne, Int.reduceLT, Int.reduceLE, Int.reducePow, Int.reduceNeg, Int.reduceToNat, if_true, if_false, frameE, List.map_cons, List.map_nil, List.replicate_succ, List.replicate_zero, Nat.reduceSub, List.replicate, ix0, ix1, and_self, true_and, and_true, pow_10_18, forL_nil, forL_ap, kFor_ap, kFor2_nx, kFor2_ct, kFor2_bk, kFor2_rt, lenA_lst, lenA_tup, lenA_scr, lenA_dK, lenA_dT, addI_ap, kR1_ap (x := (h : Int)) (by omega) (by omega), Int.toNat_natCast]
  exact h1
theorem v_is_heights {h w : Nat} {sh : List (List Int)} (s : Sheet h w sh) (t : DT) : F_is_heights [.int h, .int w, shP sh] t = .ok (.bl true) false t := by
  have h1 := s.h1
  have h2 := s.h2
  have w1 := s.w1
  have w2 := s.w2
  have c := v_check_sides (h := h) (w := w) t (by omega) (by omega) (by omega) (by omega)
  have tp := v_is_tuple (c := false) (ps := sh.map rowP) (a := h) (b := h) t (by simp [s.len]) (by simp [s.len])
  have c0 := cp0_is_heights_ok s .no .no .no .no .no .no t
  obtain ⟨l, c1⟩ := cp1_is_heights_ok s .no .no .no .no (rest1 .no) .no t
  obtain ⟨a', b', x', y', lp⟩ := lp2_is_heights_ok s .no .no .no .no (rest1 (rest1 .no)) (rest1 .no) t
  simp only [shP] at c0 c1 lp
  simp only [F_is_heights, b_is_heights, shP, seqS_ap, kSeq_nx, kSeq_rt, kSeq_bk, kSeq_ct, retS_ap, kRet_ap, retN_ap, exprS_ap, kNx_ap, ifS_ap, ifE_ap, ifO_ap, kIf_t, kIf_f, badS_ap, nextS_ap, setS_ap, kSet_v, kSet_o, cellS_ap, kCell_ap, parS_ap, kPar_2, kPar_3, kPar_4, putSl_v, putSl_o, asgS_ap, kAsg_ap, kAsg2_ap, asgT_nm, asgT_tp, asgTs_nil, asgTs_nm, augS_ap, kAug_ap, kAug1_ap, kAug2_ap, nameE_ap, kNm_v, kNm_o, nameB_ap, kNb_o, kNb_v, kNc_cell, kNd_ap, kNc_int, kNc_bl, kNc_non, kNc_str, kNc_tup, kNc_lst, kNc_scr, kNc_dK, kNc_dT, kNc_ins, kMod_o, kMod_c, kMc_ap, kMo_ap, kMd_ap, appE_ap, kAp_ap, kAp2_ap, appU_ok, setIxS_ap, kSi_ap, kSi2_ap, kSi3_ap, setU_lst, augIxS_ap, kAx_ap, kAx1_ap, kAx1b_ap, kAx2_ap, kAx3_ap, kAx4_ap, lixG_ok, sharedE_ap, kSh_ap, plainE_ap, kPl_ap, constE_ap, nilA_ap, consA_ap, kCo_ap, kCo2_ap, nilL_ap, consL_ap, tupE_ap, lstE_ap, kTu_ap, kLs_ap, kOp_ap, kOp_no, binO_ap, kBi_ap, kBi2_ap, binE_ap, kBe_ap, kBe2_ap, chainE_ap, kCh_ap, kCh2_ap, kCh3_t, kCh3_f, kCh4_ap, testE_ap, toB_ap, andE_ap, orE_ap, notE_ap, kAnd_t, kAnd_f, kOr_t, kOr_f, kNot_ap, andT_ap, orT_ap, notT_ap, kAndT_t, kAndT_f, kOrT_t, kOrT_f, kNotT_ap, negE_ap, kNeg_ap, callO_ap, kCall_ap, kFr_ap, kFr_exc, un1O_ap, kUn_ap, un1E_ap, kUe_ap, lenG_lst, lenG_tup, lenG_scr, tupG_lst, tupG_tup, listG_lst, listG_tup, intG_int, intG_bl, absG_int, ixN_ap, kIx_ap, kIx2_ap, kIx3_ap, ixE_ap, kIe_ap, kIe2_ap, ixG_lst, ixG_tup, ixG_scr, noQ_ap, someQ_ap, kSq_ap, cutO_ap, kCt_ap, kCt2_ap, kCt3_ap, cutN_ap, kCn_ap, kCn2_ap, kCn3_ap, kCn4_ap, newK_ap, newT_ap, seqI_ap, seqP_lst, seqP_tup, seqP_scr, range1I_ap, kR1_ap, range2I_ap, kR2_ap, kR2b_ap, forS_ap, bodyF_ap, kBody_rt, kBody_nx, kBody_exc, yesT_ap, ix0, ix1, allG_ok, anyG_ok, sumG_ok, bind_ok, bind_bad, bind_exc, noX_ok, isi_int_int, isi_int_bool, isi_tup_tup, isi_lst_lst, isi_lst_tup, isi_tup_lst, subI_ok, addI_ok, ltI_ok, leI_ok, gtI_ok, geI_ok, cmpI_ok, max2_ok, min2_ok, eq_int, mul_modL, List.set_cons_zero, List.set_cons_succ, List.length_cons, List.length_nil, List.nil_append, List.cons_append, Nat.reduceAdd, Nat.reduceLeDiff, Nat.reduceLT, Nat.le_refl, decide_true, decide_false, Bool.not_true, Bool.not_false, Bool.true_and, Bool.false_and, Bool.and_true, Bool.and_false, Bool.true_or, Bool.false_or, Bool.or_true, Bool.or_false, Bool.false_bne, Bool.true_bne, Int.reduceLT, Int.reduceLE, Int.reducePow, Int.reduceNeg, Int.reduceToNat, if_true, if_false, frameE, List.map_cons, List.map_nil, List.replicate_succ, List.replicate_zero, Nat.reduceSub, List.replicate, ix0, ix1, and_self, true_and, and_true, pow_10_18, forL_nil, forL_ap, kFor_ap, kFor2_nx, kFor2_ct, kFor2_bk, kFor2_rt, lenA_lst, lenA_tup, lenA_scr, lenA_dK, lenA_dT, addI_ap, c, tp, c0, all_true, c1, lp]
theorem v_check_heights {h w : Nat} {sh : List (List Int)} (s : Sheet h w sh) (t : DT) : F_check_heights [.int h, .int w, shP sh] t = .ok .non false t := by
  simp only [F_check_heights, b_check_heights, seqS_ap, kSeq_nx, kSeq_rt, kSeq_bk, kSeq_ct, retS_ap, kRet_ap, retN_ap, exprS_ap, kNx_ap, ifS_ap, ifE_ap, ifO_ap, kIf_t, kIf_f, badS_ap, nextS_ap, setS_ap, kSet_v, kSet_o, cellS_ap, kCell_ap, parS_ap, kPar_2, kPar_3, kPar_4, putSl_v, putSl_o, asgS_ap, kAsg_ap, kAsg2_ap, asgT_nm, asgT_tp, asgTs_nil, asgTs_nm, augS_ap, kAug_ap, kAug1_ap, kAug2_ap, nameE_ap, kNm_v, kNm_o, nameB_ap, kNb_o, kNb_v, kNc_cell, kNd_ap, kNc_int, kNc_bl, kNc_non, kNc_str, kNc_tup, kNc_lst, kNc_scr, kNc_dK, kNc_dT, kNc_ins, kMod_o, kMod_c, kMc_ap, kMo_ap, kMd_ap, appE_ap, kAp_ap, kAp2_ap, appU_ok, setIxS_ap, kSi_ap, kSi2_ap, kSi3_ap, setU_lst, augIxS_ap, kAx_ap, kAx1_ap, kAx1b_ap, kAx2_ap, kAx3_ap, kAx4_ap, lixG_ok, sharedE_ap, kSh_ap, plainE_ap, kPl_ap, constE_ap, nilA_ap, consA_ap, kCo_ap, kCo2_ap, nilL_ap, consL_ap, tupE_ap, lstE_ap, kTu_ap, kLs_ap, kOp_ap, kOp_no, binO_ap, kBi_ap, kBi2_ap, binE_ap, kBe_ap, kBe2_ap, chainE_ap, kCh_ap, kCh2_ap, kCh3_t, kCh3_f, kCh4_ap, testE_ap, toB_ap, andE_ap, orE_ap, notE_ap, kAnd_t, kAnd_f, kOr_t, kOr_f, kNot_ap, andT_ap, orT_ap, notT_ap, kAndT_t, kAndT_f, kOrT_t, kOrT_f, kNotT_ap, negE_ap, kNeg_ap, callO_ap, kCall_ap, kFr_ap, kFr_exc, un1O_ap, kUn_ap, un1E_ap, kUe_ap, lenG_lst, lenG_tup, lenG_scr, tupG_lst, tupG_tup, listG_lst, listG_tup, intG_int, intG_bl, absG_int, ixN_ap, kIx_ap, kIx2_ap, kIx3_ap, ixE_ap, kIe_ap, kIe2_ap, ixG_lst, ixG_tup, ixG_scr, noQ_ap, someQ_ap, kSq_ap, cutO_ap, kCt_ap, kCt2_ap, kCt3_ap, cutN_ap, kCn_ap, kCn2_ap, kCn3_ap, kCn4_ap, newK_ap, newT_ap, seqI_ap, seqP_lst, seqP_tup, seqP_scr, range1I_ap, kR1_ap, range2I_ap, kR2_ap, kR2b_ap, forS_ap, bodyF_ap, kBody_rt, kBody_nx, kBody_exc, yesT_ap, ix0, ix1, allG_ok, anyG_ok, sumG_ok, bind_ok, bind_bad, bind_exc, noX_ok, isi_int_int, isi_int_bool, isi_tup_tup, isi_lst_lst, isi_lst_tup, isi_tup_lst, subI_ok, addI_ok, ltI_ok, leI_ok, gtI_ok, geI_ok, cmpI_ok, max2_ok, min2_ok, eq_int, mul_modL, List.set_cons_zero, List.set_cons_succ, List.length_cons, List.length_nil, List.nil_append, List.cons_append, Nat.reduceAdd, Nat.reduceLeDiff, Nat.reduceLT, Nat.le_refl, decide_true, decide_false, Bool.not_true, Bool.not_false, Bool.true_and, Bool.false_and, Bool.and_true, Bool.and_false, Bool.true_or, Bool.false_or, Bool.or_true, Bool.or_false, Bool.false_bne, Bool.true_bne, Int.reduceLT, Int.reduceLE, Int.reducePow, Int.reduceNeg, Int.reduceToNat, if_true, if_false, frameE, List.map_cons, List.map_nil, List.replicate_succ, List.replicate_zero, Nat.reduceSub, List.replicate, ix0, ix1, and_self, true_and, and_true, pow_10_18, forL_nil, forL_ap, kFor_ap, kFor2_nx, kFor2_ct, kFor2_bk, kFor2_rt, lenA_lst, lenA_tup, lenA_scr, lenA_dK, lenA_dT, addI_ap, v_is_heights s]
end K63
namespace K63
open PySem DR
theorem getD_mem {α : Type} {l : List α} {i : Nat} {d : α} (h : i < l.length) : l.getD i d ∈ l := by
  rw [List.getD_eq_getElem?_getD, List.getElem?_eq_getElem h]
  exact List.getElem_mem h
theorem Sheet.ne {h w : Nat} {sh : List (List Int)} (s : Sheet h w sh) {r : List Int} (hr : r ∈ sh) : r ≠ [] := by
  intro e
  have := s.row r hr
  have := s.w1
  subst e
  simp at *
  omega
theorem v_is_up_down {h w : Nat} {sh : List (List Int)} (s : Sheet h w sh) (lo : ∀ x ∈ sh.getD 0 [], x ≤ 0) (hi : ∀ x ∈ sh.getD (h - 1) [], 0 ≤ x) (t : DT) : F_is_up_down [shP sh] t = .ok (.bl true) false t := by
  have h1 := s.h1
  have hl := s.len
  obtain ⟨m, e1, m1, m2⟩ := maxL_some (s.ne (getD_mem (d := []) (show 0 < sh.length by omega)))
  obtain ⟨n, e2, n1, n2⟩ := minL_some (s.ne (getD_mem (d := []) (show h - 1 < sh.length by omega)))
  have i1 := ix_sh (c := false) (sh := sh) (a := 0) (by omega)
  have i2 := ix_last (c := false) (ps := sh.map rowP) (by simp; omega)
  rw [List.length_map, hl, List.getElem?_map, List.getElem?_eq_getElem (by omega)] at i2
  have e3 : sh.getD (h - 1) [] = sh[h - 1]'(by omega) := by rw [List.getD_eq_getElem?_getD, List.getElem?_eq_getElem (by omega)]; rfl
  rw [e3] at e2 n1
  have z1 := lo m m1
  have z2 : 0 ≤ n := hi n (by rw [e3]; exact n1)
  simp only [Int.natCast_zero] at i1
  simp only [Option.map_some] at i2
  simp only [F_is_up_down, b_is_up_down, shP, i1, i2, rowP, maxA_tup e1, minA_tup e2, seqS_ap, kSeq_nx, kSeq_rt, kSeq_bk, kSeq_ct, retS_ap, kRet_ap, retN_ap, exprS_ap, kNx_ap, ifS_ap, ifE_ap, ifO_ap, kIf_t, kIf_f, badS_ap, nextS_ap, setS_ap, kSet_v, kSet_o, cellS_ap, kCell_ap, parS_ap, kPar_2, kPar_3, kPar_4, putSl_v, putSl_o, asgS_ap, kAsg_ap, kAsg2_ap, asgT_nm, asgT_tp, asgTs_nil, asgTs_nm, augS_ap, kAug_ap, kAug1_ap, kAug2_ap, nameE_ap, kNm_v, kNm_o, nameB_ap, kNb_o, kNb_v, kNc_cell, kNd_ap, kNc_int, kNc_bl, kNc_non, kNc_str, kNc_tup, kNc_lst, kNc_scr, kNc_dK, kNc_dT, kNc_ins, kMod_o, kMod_c, kMc_ap, kMo_ap, kMd_ap, appE_ap, kAp_ap, kAp2_ap, appU_ok, setIxS_ap, kSi_ap, kSi2_ap, kSi3_ap, setU_lst, augIxS_ap, kAx_ap, kAx1_ap, kAx1b_ap, kAx2_ap, kAx3_ap, kAx4_ap, lixG_ok, sharedE_ap, kSh_ap, plainE_ap, kPl_ap, constE_ap, nilA_ap, consA_ap, kCo_ap, kCo2_ap, nilL_ap, consL_ap, tupE_ap, lstE_ap, kTu_ap, kLs_ap, kOp_ap, kOp_no, binO_ap, kBi_ap, kBi2_ap, binE_ap, kBe_ap, kBe2_ap, chainE_ap, kCh_ap, kCh2_ap, kCh3_t, kCh3_f, kCh4_ap, testE_ap, toB_ap, andE_ap, orE_ap, notE_ap, kAnd_t, kAnd_f, kOr_t, kOr_f, kNot_ap, andT_ap, orT_ap, notT_ap, kAndT_t, kAndT_f, kOrT_t, kOrT_f, kNotT_ap, negE_ap, kNeg_ap, callO_ap, kCall_ap, kFr_ap, kFr_exc, un1O_ap, kUn_ap, un1E_ap, kUe_ap, lenG_lst, lenG_tup, lenG_scr, tupG_lst, tupG_tup, listG_lst, listG_tup, intG_int, intG_bl, absG_int, ixN_ap, kIx_ap, kIx2_ap, kIx3_ap, ixE_ap, kIe_ap, kIe2_ap, ixG_lst, ixG_tup, ixG_scr, noQ_ap, someQ_ap, kSq_ap, cutO_ap, kCt_ap, kCt2_ap, kCt3_ap, cutN_ap, kCn_ap, kCn2_ap, kCn3_ap, kCn4_ap, newK_ap, newT_ap, seqI_ap, seqP_lst, seqP_tup, seqP_scr, range1I_ap, kR1_ap, range2I_ap, kR2_ap, kR2b_ap, forS_ap, bodyF_ap, kBody_rt, kBody_nx, kBody_exc, yesT_ap, ix0, ix1, allG_ok, anyG_ok, sumG_ok, bind_ok, bind_bad, bind_exc, noX_ok, isi_int_int, isi_int_bool, isi_tup_tup, isi_lst_lst, isi_lst_tup, isi_tup_lst, subI_ok, addI_ok, ltI_ok, leI_ok, gtI_ok, geI_ok, cmpI_ok, max2_ok, min2_ok, eq_int, mul_modL, List.set_cons_zero, List.set_cons_succ, List.length_cons, List.length_nil, List.nil_append, List.cons_append, Nat.reduceAdd, Nat.reduceLeDiff, Nat.reduceLT, Nat.le_refl, decide_true, decide_false, Bool.not_true, Bool.not_false, Bool.true_and, Bool.false_and, Bool.and_true, Bool.and_false, Bool.true_or, Bool.false_or, Bool.or_true, Bool.or_false, Bool.false_bne, Bool.true_bne, Int.reduceLT, Int.reduceLE, Int.reducePow, Int.reduceNeg, Int.reduceToNat, if_true, if_false, frameE, List.map_cons, List.map_nil, List.replicate_succ, List.replicate_zero, Nat.reduceSub, List.replicate, ix0, ix1, and_self, true_and, and_true, pow_10_18, forL_nil, forL_ap, kFor_ap, kFor2_nx, kFor2_ct, kFor2_bk, kFor2_rt, lenA_lst, lenA_tup, lenA_scr, lenA_dK, lenA_dT, addI_ap, z1, z2]
theorem Sheet.row_ne {h w : Nat} {sh : List (List Int)} (s : Sheet h w sh) {r : List Int} (hr : r ∈ sh) : 0 < r.length := by
  have := s.row r hr
  have := s.w1
  omega
theorem getD_eq {α : Type} {l : List α} {i : Nat} {d : α} (h : i < l.length) : l[i]? = some (l.getD i d) := by
  rw [List.getElem?_eq_getElem h, List.getD_eq_getElem?_getD, List.getElem?_eq_getElem h]
  rfl
theorem v_is_left_right {h w : Nat} {sh : List (List Int)} (s : Sheet h w sh) (lo : ∀ r ∈ sh, r.getD 0 0 ≤ 0) (hi : ∀ r ∈ sh, 0 ≤ r.getD (w - 1) 0) (t : DT) : F_is_left_right [shP sh] t = .ok (.bl true) false t := by
  have h1 := s.h1
  have h2 := s.h2
  have w1 := s.w1
  have hl := s.len
  have ne : sh ≠ [] := by
    intro e
    rw [e] at hl
    simp at hl
    omega
  have c0 : ∀ r : Sl, cp0_is_left_right ⟨[.val (shP sh), r], t⟩ = .ok (.lst ((sh.map rowP).map fun p => match p with | .tup _ ps => ps.getD 0 .non | _ => .non), true) ⟨[.val (shP sh), rest1 r], t⟩ := fun r => by
    refine lcO_map0 (s1 := ⟨[.val (shP sh), r], t⟩) (ps := sh.map rowP) _ ?_ (fun p hp => ?_) (by rw [List.length_map, hl]; exact small (by omega))
    · simp only [shP, seqS_ap, kSeq_nx, kSeq_rt, kSeq_bk, kSeq_ct, retS_ap, kRet_ap, retN_ap, exprS_ap, kNx_ap, ifS_ap, ifE_ap, ifO_ap, kIf_t, kIf_f, badS_ap, nextS_ap, setS_ap, kSet_v, kSet_o, cellS_ap, kCell_ap, parS_ap, kPar_2, kPar_3, kPar_4, putSl_v, putSl_o, asgS_ap, kAsg_ap, kAsg2_ap, asgT_nm, asgT_tp, asgTs_nil, asgTs_nm, augS_ap, kAug_ap, kAug1_ap, kAug2_ap, nameE_ap, kNm_v, kNm_o, nameB_ap, kNb_o, kNb_v, kNc_cell, kNd_ap, kNc_int, kNc_bl, kNc_non, kNc_str, kNc_tup, kNc_lst, kNc_scr, kNc_dK, kNc_dT, kNc_ins, kMod_o, kMod_c, kMc_ap, kMo_ap, kMd_ap, appE_ap, kAp_ap, kAp2_ap, appU_ok, setIxS_ap, kSi_ap, kSi2_ap, kSi3_ap, setU_lst, augIxS_ap, kAx_ap, kAx1_ap, kAx1b_ap, kAx2_ap, kAx3_ap, kAx4_ap, lixG_ok, sharedE_ap, kSh_ap, plainE_ap, kPl_ap, constE_ap, nilA_ap, consA_ap, kCo_ap, kCo2_ap, nilL_ap, consL_ap, tupE_ap, lstE_ap, kTu_ap, kLs_ap, kOp_ap, kOp_no, binO_ap, kBi_ap, kBi2_ap, binE_ap, kBe_ap, kBe2_ap, chainE_ap, kCh_ap, kCh2_ap, kCh3_t, kCh3_f, kCh4_ap, testE_ap, toB_ap, andE_ap, orE_ap, notE_ap, kAnd_t, kAnd_f, kOr_t, kOr_f, kNot_ap, andT_ap, orT_ap, notT_ap, kAndT_t, kAndT_f, kOrT_t, kOrT_f, kNotT_ap, negE_ap, kNeg_ap, callO_ap, kCall_ap, kFr_ap, kFr_exc, un1O_ap, kUn_ap, un1E_ap, kUe_ap, lenG_lst, lenG_tup, lenG_scr, tupG_lst, tupG_tup, listG_lst, listG_tup, intG_int, intG_bl, absG_int, ixN_ap, kIx_ap, kIx2_ap, kIx3_ap, ixE_ap, kIe_ap, kIe2_ap, ixG_lst, ixG_tup, ixG_scr, noQ_ap, someQ_ap, kSq_ap, cutO_ap, kCt_ap, kCt2_ap, kCt3_ap, cutN_ap, kCn_ap, kCn2_ap, kCn3_ap, kCn4_ap, newK_ap, newT_ap, seqI_ap, seqP_lst, seqP_tup, seqP_scr, range1I_ap, kR1_ap, range2I_ap, kR2_ap, kR2b_ap, forS_ap, bodyF_ap, kBody_rt, kBody_nx, kBody_exc, yesT_ap, ix0, ix1, allG_ok, anyG_ok, sumG_ok, bind_ok, bind_bad, bind_exc, noX_ok, isi_int_int, isi_int_bool, isi_tup_tup, isi_lst_lst, isi_lst_tup, isi_tup_lst, subI_ok, addI_ok, ltI_ok, leI_ok, gtI_ok, geI_ok, cmpI_ok, max2_ok, min2_ok, eq_int, mul_modL, List.set_cons_zero, List.set_cons_succ, List.length_cons, List.length_nil, List.nil_append, List.cons_append, Nat.reduceAdd, Nat.reduceLeDiff, Nat.reduceLT, Nat.le_refl, decide_true, decide_false, Bool.not_true, Bool.not_false, Bool.true_and, Bool.false_and, Bool.and_true, Bool.and_false, Bool.true_or, Bool.false_or, Bool.or_true, Bool.or_false, Bool.false_bne, Bool.true_bne, Int.reduceLT, Int.reduceLE, Int.reducePow, Int.reduceNeg, Int.reduceToNat, if_true, if_false, frameE, List.map_cons, List.map_nil, List.replicate_succ, List.replicate_zero, Nat.reduceSub, List.replicate, ix0, ix1, and_self, true_and, and_true, pow_10_18, forL_nil, forL_ap, kFor_ap, kFor2_nx, kFor2_ct, kFor2_bk, kFor2_rt, lenA_lst, lenA_tup, lenA_scr, lenA_dK, lenA_dT, addI_ap]
    · obtain ⟨r', hr, rfl⟩ := List.mem_map.mp hp
      refine ⟨_, rfl, ?_⟩
      have g := getD_eq (d := .non) (l := r'.map PV.int) (i := 0) (by simp; exact s.row_ne hr)
      simp only [wipeE, seqS_ap, kSeq_nx, kSeq_rt, kSeq_bk, kSeq_ct, retS_ap, kRet_ap, retN_ap, exprS_ap, kNx_ap, ifS_ap, ifE_ap, ifO_ap, kIf_t, kIf_f, badS_ap, nextS_ap, setS_ap, kSet_v, kSet_o, cellS_ap, kCell_ap, parS_ap, kPar_2, kPar_3, kPar_4, putSl_v, putSl_o, asgS_ap, kAsg_ap, kAsg2_ap, asgT_nm, asgT_tp, asgTs_nil, asgTs_nm, augS_ap, kAug_ap, kAug1_ap, kAug2_ap, nameE_ap, kNm_v, kNm_o, nameB_ap, kNb_o, kNb_v, kNc_cell, kNd_ap, kNc_int, kNc_bl, kNc_non, kNc_str, kNc_tup, kNc_lst, kNc_scr, kNc_dK, kNc_dT, kNc_ins, kMod_o, kMod_c, kMc_ap, kMo_ap, kMd_ap, appE_ap, kAp_ap, kAp2_ap, appU_ok, setIxS_ap, kSi_ap, kSi2_ap, kSi3_ap, setU_lst, augIxS_ap, kAx_ap, kAx1_ap, kAx1b_ap, kAx2_ap, kAx3_ap, kAx4_ap, lixG_ok, sharedE_ap, kSh_ap, plainE_ap, kPl_ap, constE_ap, nilA_ap, consA_ap, kCo_ap, kCo2_ap, nilL_ap, consL_ap, tupE_ap, lstE_ap, kTu_ap, kLs_ap, kOp_ap, kOp_no, binO_ap, kBi_ap, kBi2_ap, binE_ap, kBe_ap, kBe2_ap, chainE_ap, kCh_ap, kCh2_ap, kCh3_t, kCh3_f, kCh4_ap, testE_ap, toB_ap, andE_ap, orE_ap, notE_ap, kAnd_t, kAnd_f, kOr_t, kOr_f, kNot_ap, andT_ap, orT_ap, notT_ap, kAndT_t, kAndT_f, kOrT_t, kOrT_f, kNotT_ap, negE_ap, kNeg_ap, callO_ap, kCall_ap, kFr_ap, kFr_exc, un1O_ap, kUn_ap, un1E_ap, kUe_ap, lenG_lst, lenG_tup, lenG_scr, tupG_lst, tupG_tup, listG_lst, listG_tup, intG_int, intG_bl, absG_int, ixN_ap, kIx_ap, kIx2_ap, kIx3_ap, ixE_ap, kIe_ap, kIe2_ap, ixG_lst, ixG_tup, ixG_scr, noQ_ap, someQ_ap, kSq_ap, cutO_ap, kCt_ap, kCt2_ap, kCt3_ap, cutN_ap, kCn_ap, kCn2_ap, kCn3_ap, kCn4_ap, newK_ap, newT_ap, seqI_ap, seqP_lst, seqP_tup, seqP_scr, range1I_ap, kR1_ap, range2I_ap, kR2_ap, kR2b_ap, forS_ap, bodyF_ap, kBody_rt, kBody_nx, kBody_exc, yesT_ap, ix0, ix1, allG_ok, anyG_ok, sumG_ok, bind_ok, bind_bad, bind_exc, noX_ok, isi_int_int, isi_int_bool, isi_tup_tup, isi_lst_lst, isi_lst_tup, isi_tup_lst, subI_ok, addI_ok, ltI_ok, leI_ok, gtI_ok, geI_ok, cmpI_ok, max2_ok, min2_ok, eq_int, mul_modL, List.set_cons_zero, List.set_cons_succ, List.length_cons, List.length_nil, List.nil_append, List.cons_append, Nat.reduceAdd, Nat.reduceLeDiff, Nat.reduceLT, Nat.le_refl, decide_true, decide_false, Bool.not_true, Bool.not_false, Bool.true_and, Bool.false_and, Bool.and_true, Bool.and_false, Bool.true_or, Bool.false_or, Bool.or_true, Bool.or_false, Bool.false_bne, Bool.true_bne, Int.reduceLT, Int.reduceLE, Int.reducePow, Int.reduceNeg, Int.reduceToNat, if_true, if_false, frameE, List.map_cons, List.map_nil, List.replicate_succ, List.replicate_zero, Nat.reduceSub, List.replicate, ix0, ix1, and_self, true_and, and_true, pow_10_18, forL_nil, forL_ap, kFor_ap, kFor2_nx, kFor2_ct, kFor2_bk, kFor2_rt, lenA_lst, lenA_tup, lenA_scr, lenA_dK, lenA_dT, addI_ap, List.length_map, s.row_ne hr, g]
  have c1 : ∀ r : Sl, cp1_is_left_right ⟨[.val (shP sh), r], t⟩ = .ok (.lst ((sh.map rowP).map fun p => match p with | .tup _ ps => ps.getD (ps.length - 1) .non | _ => .non), true) ⟨[.val (shP sh), rest1 r], t⟩ := fun r => by
    refine lcO_map0 (s1 := ⟨[.val (shP sh), r], t⟩) (ps := sh.map rowP) _ ?_ (fun p hp => ?_) (by rw [List.length_map, hl]; exact small (by omega))
    · simp only [shP, seqS_ap, kSeq_nx, kSeq_rt, kSeq_bk, kSeq_ct, retS_ap, kRet_ap, retN_ap, exprS_ap, kNx_ap, ifS_ap, ifE_ap, ifO_ap, kIf_t, kIf_f, badS_ap, nextS_ap, setS_ap, kSet_v, kSet_o, cellS_ap, kCell_ap, parS_ap, kPar_2, kPar_3, kPar_4, putSl_v, putSl_o, asgS_ap, kAsg_ap, kAsg2_ap, asgT_nm, asgT_tp, asgTs_nil, asgTs_nm, augS_ap, kAug_ap, kAug1_ap, kAug2_ap, nameE_ap, kNm_v, kNm_o, nameB_ap, kNb_o, kNb_v, kNc_cell, kNd_ap, kNc_int, kNc_bl, kNc_non, kNc_str, kNc_tup, kNc_lst, kNc_scr, kNc_dK, kNc_dT, kNc_ins, kMod_o, kMod_c, kMc_ap, kMo_ap, kMd_ap, appE_ap, kAp_ap, kAp2_ap, appU_ok, setIxS_ap, kSi_ap, kSi2_ap, kSi3_ap, setU_lst, augIxS_ap, kAx_ap, kAx1_ap, kAx1b_ap, kAx2_ap, kAx3_ap, kAx4_ap, lixG_ok, sharedE_ap, kSh_ap, plainE_ap, kPl_ap, constE_ap, nilA_ap, consA_ap, kCo_ap, kCo2_ap, nilL_ap, consL_ap, tupE_ap, lstE_ap, kTu_ap, kLs_ap, kOp_ap, kOp_no, binO_ap, kBi_ap, kBi2_ap, binE_ap, kBe_ap, kBe2_ap, chainE_ap, kCh_ap, kCh2_ap, kCh3_t, kCh3_f, kCh4_ap, testE_ap, toB_ap, andE_ap, orE_ap, notE_ap, kAnd_t, kAnd_f, kOr_t, kOr_f, kNot_ap, andT_ap, orT_ap, notT_ap, kAndT_t, kAndT_f, kOrT_t, kOrT_f, kNotT_ap, negE_ap, kNeg_ap, callO_ap, kCall_ap, kFr_ap, kFr_exc, un1O_ap, kUn_ap, un1E_ap, kUe_ap, lenG_lst, lenG_tup, lenG_scr, tupG_lst, tupG_tup, listG_lst, listG_tup, intG_int, intG_bl, absG_int, ixN_ap, kIx_ap, kIx2_ap, kIx3_ap, ixE_ap, kIe_ap, kIe2_ap, ixG_lst, ixG_tup, ixG_scr, noQ_ap, someQ_ap, kSq_ap, cutO_ap, kCt_ap, kCt2_ap, kCt3_ap, cutN_ap, kCn_ap, kCn2_ap, kCn3_ap, kCn4_ap, newK_ap, newT_ap, seqI_ap, seqP_lst, seqP_tup, seqP_scr, range1I_ap, kR1_ap, range2I_ap, kR2_ap, kR2b_ap, forS_ap, bodyF_ap, kBody_rt, kBody_nx, kBody_exc, yesT_ap, ix0, ix1, allG_ok, anyG_ok, sumG_ok, bind_ok, bind_bad, bind_exc, noX_ok, isi_int_int, isi_int_bool, isi_tup_tup, isi_lst_lst, isi_lst_tup, isi_tup_lst, subI_ok, addI_ok, ltI_ok, leI_ok, gtI_ok, geI_ok, cmpI_ok, max2_ok, min2_ok, eq_int, mul_modL, List.set_cons_zero, List.set_cons_succ, List.length_cons, List.length_nil, List.nil_append, List.cons_append, Nat.reduceAdd, Nat.reduceLeDiff, Nat.reduceLT, Nat.le_refl, decide_true, decide_false, Bool.not_true, Bool.not_false, Bool.true_and, Bool.false_and, Bool.and_true, Bool.and_false, Bool.true_or, Bool.false_or, Bool.or_true, Bool.or_false, Bool.false_bne, Bool.true_bne, Int.reduceLT, Int.reduceLE, Int.reducePow, Int.reduceNeg, Int.reduceToNat, if_true, if_false, frameE, List.map_cons, List.map_nil, List.replicate_succ, List.replicate_zero, Nat.reduceSub, List.replicate, ix0, ix1, and_self, true_and, and_true, pow_10_18, forL_nil, forL_ap, kFor_ap, kFor2_nx, kFor2_ct, kFor2_bk, kFor2_rt, lenA_lst, lenA_tup, lenA_scr, lenA_dK, lenA_dT, addI_ap]
    · obtain ⟨r', hr, rfl⟩ := List.mem_map.mp hp
      refine ⟨_, rfl, ?_⟩
      have hp := s.row_ne hr
      have g := getD_eq (d := .non) (l := r'.map PV.int) (i := (r'.map PV.int).length - 1) (by simp; omega)
      have l := ix_last (c := false) (ps := r'.map PV.int) (by simp; omega)
      rw [g] at l
      simp only [wipeE, rowP, seqS_ap, kSeq_nx, kSeq_rt, kSeq_bk, kSeq_ct, retS_ap, kRet_ap, retN_ap, exprS_ap, kNx_ap, ifS_ap, ifE_ap, ifO_ap, kIf_t, kIf_f, badS_ap, nextS_ap, setS_ap, kSet_v, kSet_o, cellS_ap, kCell_ap, parS_ap, kPar_2, kPar_3, kPar_4, putSl_v, putSl_o, asgS_ap, kAsg_ap, kAsg2_ap, asgT_nm, asgT_tp, asgTs_nil, asgTs_nm, augS_ap, kAug_ap, kAug1_ap, kAug2_ap, nameE_ap, kNm_v, kNm_o, nameB_ap, kNb_o, kNb_v, kNc_cell, kNd_ap, kNc_int, kNc_bl, kNc_non, kNc_str, kNc_tup, kNc_lst, kNc_scr, kNc_dK, kNc_dT, kNc_ins, kMod_o, kMod_c, kMc_ap, kMo_ap, kMd_ap, appE_ap, kAp_ap, kAp2_ap, appU_ok, setIxS_ap, kSi_ap, kSi2_ap, kSi3_ap, setU_lst, augIxS_ap, kAx_ap, kAx1_ap, kAx1b_ap, kAx2_ap, kAx3_ap, kAx4_ap, lixG_ok, sharedE_ap, kSh_ap, plainE_ap, kPl_ap, constE_ap, nilA_ap, consA_ap, kCo_ap, kCo2_ap, nilL_ap, consL_ap, tupE_ap, lstE_ap, kTu_ap, kLs_ap, kOp_ap, kOp_no, binO_ap, kBi_ap, kBi2_ap, binE_ap, kBe_ap, kBe2_ap, chainE_ap, kCh_ap, kCh2_ap, kCh3_t, kCh3_f, kCh4_ap, testE_ap, toB_ap, andE_ap, orE_ap, notE_ap, kAnd_t, kAnd_f, kOr_t, kOr_f, kNot_ap, andT_ap, orT_ap, notT_ap, kAndT_t, kAndT_f, kOrT_t, kOrT_f, kNotT_ap, negE_ap, kNeg_ap, callO_ap, kCall_ap, kFr_ap, kFr_exc, un1O_ap, kUn_ap, un1E_ap, kUe_ap, lenG_lst, lenG_tup, lenG_scr, tupG_lst, tupG_tup, listG_lst, listG_tup, intG_int, intG_bl, absG_int, ixN_ap, kIx_ap, kIx2_ap, kIx3_ap, ixE_ap, kIe_ap, kIe2_ap, ixG_lst, ixG_tup, ixG_scr, noQ_ap, someQ_ap, kSq_ap, cutO_ap, kCt_ap, kCt2_ap, kCt3_ap, cutN_ap, kCn_ap, kCn2_ap, kCn3_ap, kCn4_ap, newK_ap, newT_ap, seqI_ap, seqP_lst, seqP_tup, seqP_scr, range1I_ap, kR1_ap, range2I_ap, kR2_ap, kR2b_ap, forS_ap, bodyF_ap, kBody_rt, kBody_nx, kBody_exc, yesT_ap, ix0, ix1, allG_ok, anyG_ok, sumG_ok, bind_ok, bind_bad, bind_exc, noX_ok, isi_int_int, isi_int_bool, isi_tup_tup, isi_lst_lst, isi_lst_tup, isi_tup_lst, subI_ok, addI_ok, ltI_ok, leI_ok, gtI_ok, geI_ok, cmpI_ok, max2_ok, min2_ok, eq_int, mul_modL, List.set_cons_zero, List.set_cons_succ, List.length_cons, List.length_nil, List.nil_append, List.cons_append, Nat.reduceAdd, Nat.reduceLeDiff, Nat.reduceLT, Nat.le_refl, decide_true, decide_false, Bool.not_true, Bool.not_false, Bool.true_and, Bool.false_and, Bool.and_true, Bool.and_false, Bool.true_or, Bool.false_or, Bool.or_true, Bool.or_false, Bool.false_bne, Bool.true_bne, Int.reduceLT, Int.reduceLE, Int.reducePow, Int.reduceNeg, Int.reduceToNat, if_true, if_false, frameE, List.map_cons, List.map_nil, List.replicate_succ, List.replicate_zero, Nat.reduceSub, List.replicate, ix0, ix1, and_self, true_and, and_true, pow_10_18, forL_nil, forL_ap, kFor_ap, kFor2_nx, kFor2_ct, kFor2_bk, kFor2_rt, lenA_lst, lenA_tup, lenA_scr, lenA_dK, lenA_dT, addI_ap, l]
  have e0 : ((sh.map rowP).map fun p => match p with | .tup _ ps => ps.getD 0 .non | _ => .non) = (sh.map fun r => r.getD 0 0).map .int := by
    rw [List.map_map, List.map_map]
    refine List.map_congr_left fun r hr => ?_
    have := s.row_ne hr
    simp only [Function.comp_def, rowP, List.getD_eq_getElem?_getD, List.getElem?_map, List.getElem?_eq_getElem this, Option.map_some, Option.getD_some]
  have e1 : ((sh.map rowP).map fun p => match p with | .tup _ ps => ps.getD (ps.length - 1) .non | _ => .non) = (sh.map fun r => r.getD (w - 1) 0).map .int := by
    rw [List.map_map, List.map_map]
    refine List.map_congr_left fun r hr => ?_
    have := s.row_ne hr
    have rl := s.row r hr
    simp only [Function.comp_def, rowP, List.length_map, rl, List.getD_eq_getElem?_getD, List.getElem?_map, List.getElem?_eq_getElem (show w - 1 < r.length by omega), Option.map_some, Option.getD_some]
  obtain ⟨m, k1, m1, m2⟩ := maxL_some (xs := sh.map fun r => r.getD 0 0) (by simpa using ne)
  obtain ⟨n, k2, n1, n2⟩ := minL_some (xs := sh.map fun r => r.getD (w - 1) 0) (by simpa using ne)
  have z1 : m ≤ 0 := by
    obtain ⟨r, hr, rfl⟩ := List.mem_map.mp m1
    exact lo r hr
  have z2 : 0 ≤ n := by
    obtain ⟨r, hr, rfl⟩ := List.mem_map.mp n1
    exact hi r hr
  simp only [e0] at c0
  simp only [e1] at c1
  simp only [shP] at c0 c1
  simp only [F_is_left_right, b_is_left_right, shP, seqS_ap, kSeq_nx, kSeq_rt, kSeq_bk, kSeq_ct, retS_ap, kRet_ap, retN_ap, exprS_ap, kNx_ap, ifS_ap, ifE_ap, ifO_ap, kIf_t, kIf_f, badS_ap, nextS_ap, setS_ap, kSet_v, kSet_o, cellS_ap, kCell_ap, parS_ap, kPar_2, kPar_3, kPar_4, putSl_v, putSl_o, asgS_ap, kAsg_ap, kAsg2_ap, asgT_nm, asgT_tp, asgTs_nil, asgTs_nm, augS_ap, kAug_ap, kAug1_ap, kAug2_ap, nameE_ap, kNm_v, kNm_o, nameB_ap, kNb_o, kNb_v, kNc_cell, kNd_ap, kNc_int, kNc_bl, kNc_non, kNc_str, kNc_tup, kNc_lst, kNc_scr, kNc_dK, kNc_dT, kNc_ins, kMod_o, kMod_c, kMc_ap, kMo_ap, kMd_ap, appE_ap, kAp_ap, kAp2_ap, appU_ok, setIxS_ap, kSi_ap, kSi2_ap, kSi3_ap, setU_lst, augIxS_ap, kAx_ap, kAx1_ap, kAx1b_ap, kAx2_ap, kAx3_ap, kAx4_ap, lixG_ok, sharedE_ap, kSh_ap, plainE_ap, kPl_ap, constE_ap, nilA_ap, consA_ap, kCo_ap, kCo2_ap, nilL_ap, consL_ap, tupE_ap, lstE_ap, kTu_ap, kLs_ap, kOp_ap, kOp_no, binO_ap, kBi_ap, kBi2_ap, binE_ap, kBe_ap, kBe2_ap, chainE_ap, kCh_ap, kCh2_ap, kCh3_t, kCh3_f, kCh4_ap, testE_ap, toB_ap, andE_ap, orE_ap, notE_ap, kAnd_t, kAnd_f, kOr_t, kOr_f, kNot_ap, andT_ap, orT_ap, notT_ap, kAndT_t, kAndT_f, kOrT_t, kOrT_f, kNotT_ap, negE_ap, kNeg_ap, callO_ap, kCall_ap, kFr_ap, kFr_exc, un1O_ap, kUn_ap, un1E_ap, kUe_ap, lenG_lst, lenG_tup, lenG_scr, tupG_lst, tupG_tup, listG_lst, listG_tup, intG_int, intG_bl, absG_int, ixN_ap, kIx_ap, kIx2_ap, kIx3_ap, ixE_ap, kIe_ap, kIe2_ap, ixG_lst, ixG_tup, ixG_scr, noQ_ap, someQ_ap, kSq_ap, cutO_ap, kCt_ap, kCt2_ap, kCt3_ap, cutN_ap, kCn_ap, kCn2_ap, kCn3_ap, kCn4_ap, newK_ap, newT_ap, seqI_ap, seqP_lst, seqP_tup, seqP_scr, range1I_ap, kR1_ap, range2I_ap, kR2_ap, kR2b_ap, forS_ap, bodyF_ap, kBody_rt, kBody_nx, kBody_exc, yesT_ap, ix0, ix1, allG_ok, anyG_ok, sumG_ok, bind_ok, bind_bad, bind_exc, noX_ok, isi_int_int, isi_int_bool, isi_tup_tup, isi_lst_lst, isi_lst_tup, isi_tup_lst, subI_ok, addI_ok, ltI_ok, leI_ok, gtI_ok, geI_ok, cmpI_ok, max2_ok, min2_ok, eq_int, mul_modL, List.set_cons_zero, List.set_cons_succ, List.length_cons, List.length_nil, List.nil_append, List.cons_append, Nat.reduceAdd, Nat.reduceLeDiff, Nat.reduceLT, Nat.le_refl, decide_true, decide_false, Bool.not_true, Bool.not_false, Bool.true_and, Bool.false_and, Bool.and_true, Bool.and_false, Bool.true_or, Bool.false_or, Bool.or_true, Bool.or_false, Bool.false_bne, Bool.true_bne, Int.reduceLT, Int.reduceLE, Int.reducePow, Int.reduceNeg, Int.reduceToNat, if_true, if_false, frameE, List.map_cons, List.map_nil, List.replicate_succ, List.replicate_zero, Nat.reduceSub, List.replicate, ix0, ix1, and_self, true_and, and_true, pow_10_18, forL_nil, forL_ap, kFor_ap, kFor2_nx, kFor2_ct, kFor2_bk, kFor2_rt, lenA_lst, lenA_tup, lenA_scr, lenA_dK, lenA_dT, addI_ap, c0, c1, maxA_lst k1, minA_lst k2, z1, z2]
/-! ### the noughts -/
def zero (sh : List (List Int)) (a b : Nat) : Bool := decide (at2 sh a b = 0)
theorem grid_small {h w : Nat} (h2 : h ≤ 8) (w2 : w ≤ 8) (P : Nat → Nat → Bool) : (grid h w P).length ≤ 100 := by
  have := grid_len h w P
  have : h * w ≤ 8 * 8 := Nat.mul_le_mul h2 w2
  omega
theorem range_small {h w : Nat} (h2 : h ≤ 8) (w2 : w ≤ 8) : ((rangeP 0 h).flatMap fun _ => rangeP 0 w).length ≤ sizeLine := by
  refine small ?_
  have e : ∀ l : List PV, (l.flatMap fun _ => rangeP 0 w).length = l.length * w := fun l => by
    induction l with
    | nil => simp
    | cons a l ih => rw [List.flatMap_cons, List.length_append, ih, rangeP_len, List.length_cons, Nat.add_mul, Nat.one_mul, Nat.add_comm]
  rw [e, rangeP_len]
  have : h * w ≤ 8 * 8 := Nat.mul_le_mul h2 w2
  omega
theorem cp0_noughts_ok {h w : Nat} {sh : List (List Int)} (s : Sheet h w sh) (t : DT) : cp0_noughts ⟨[.val (.int h), .val (.int w), .val (shP sh), .no, .no], t⟩ = .ok (.lst ((grid h w (zero sh)).map pairP), true) ⟨[.val (.int h), .val (.int w), .val (shP sh), .no, .no], t⟩ := by
  have h2 := s.h2
  have w2 := s.w2
  rw [← grid_eq]
  refine lc2O_0 (s1 := ⟨[.val (.int h), .val (.int w), .val (shP sh), .no, .no], t⟩) (ps := rangeP 0 h) (fun _ => rangeP 0 w) (fun p q => zero sh (toI p).toNat (toI q).toNat) (fun p q => .tup false [p, q]) ?_ (fun p hp => ?_) (range_small h2 w2)
  · simp only [seqS_ap, kSeq_nx, kSeq_rt, kSeq_bk, kSeq_ct, retS_ap, kRet_ap, retN_ap, exprS_ap, kNx_ap, ifS_ap, ifE_ap, ifO_ap, kIf_t, kIf_f, badS_ap, nextS_ap, setS_ap, kSet_v, kSet_o, cellS_ap, kCell_ap, parS_ap, kPar_2, kPar_3, kPar_4, putSl_v, putSl_o, asgS_ap, kAsg_ap, kAsg2_ap, asgT_nm, asgT_tp, asgTs_nil, asgTs_nm, augS_ap, kAug_ap, kAug1_ap, kAug2_ap, nameE_ap, kNm_v, kNm_o, nameB_ap, kNb_o, kNb_v, kNc_cell, kNd_ap, kNc_int, kNc_bl, kNc_non, kNc_str, kNc_tup, kNc_lst, kNc_scr, kNc_dK, kNc_dT, kNc_ins, kMod_o, kMod_c, kMc_ap, kMo_ap, kMd_ap, appE_ap, kAp_ap, kAp2_ap, appU_ok, setIxS_ap, kSi_ap, kSi2_ap, kSi3_ap, setU_lst, augIxS_ap, kAx_ap, kAx1_ap, kAx1b_ap, kAx2_ap, kAx3_ap, kAx4_ap, lixG_ok, sharedE_ap, kSh_ap, plainE_ap, kPl_ap, constE_ap, nilA_ap, consA_ap, kCo_ap, kCo2_ap, nilL_ap, consL_ap, tupE_ap, lstE_ap, kTu_ap, kLs_ap, kOp_ap, kOp_no, binO_ap, kBi_ap, kBi2_ap, binE_ap, kBe_ap, kBe2_ap, chainE_ap, kCh_ap, kCh2_ap, kCh3_t, kCh3_f, kCh4_ap, testE_ap, toB_ap, andE_ap, orE_ap, notE_ap, kAnd_t, kAnd_f, kOr_t, kOr_f, kNot_ap, andT_ap, orT_ap, notT_ap, kAndT_t, kAndT_f, kOrT_t, kOrT_f, kNotT_ap, negE_ap, kNeg_ap, callO_ap, kCall_ap, kFr_ap, kFr_exc, un1O_ap, kUn_ap, un1E_ap, kUe_ap, lenG_lst, lenG_tup, lenG_scr, tupG_lst, tupG_tup, listG_lst, listG_tup, intG_int, intG_bl, absG_int, ixN_ap, kIx_ap, kIx2_ap, kIx3_ap, ixE_ap, kIe_ap, kIe2_ap, ixG_lst, ixG_tup, ixG_scr, noQ_ap, someQ_ap, kSq_ap, cutO_ap, kCt_ap, kCt2_ap, kCt3_ap, cutN_ap, kCn_ap, kCn2_ap, kCn3_ap, kCn4_ap, newK_ap, newT_ap, seqI_ap, seqP_lst, seqP_tup, seqP_scr, range1I_ap, kR1_ap, range2I_ap, kR2_ap, kR2b_ap, forS_ap, bodyF_ap, kBody_rt, kBody_nx, kBody_exc, yesT_ap, ix0, ix1, allG_ok, anyG_ok, sumG_ok, bind_ok, bind_bad, bind_exc, noX_ok, isi_int_int, isi_int_bool, isi_tup_tup, isi_lst_lst, isi_lst_tup, isi_tup_lst, subI_ok, addI_ok, ltI_ok, leI_ok, gtI_ok, geI_ok, cmpI_ok, max2_ok, min2_ok, eq_int, mul_modL, List.set_cons_zero, List.set_cons_succ, List.length_cons, List.length_nil, List.nil_append, List.cons_append, Nat.reduceAdd, Nat.reduceLeDiff, Nat.reduceLT, Nat.le_refl, decide_true, decide_false, Bool.not_true, Bool.not_false, Bool.true_and, Bool.false_and, Bool.and_true, Bool.and_false, Bool.true_or, Bool.false_or, Bool.or_true, Bool.or_false, Bool.false_bne, Bool.true_bne, Int.reduceLT, Int.reduceLE, Int.reducePow, Int.reduceNeg, Int.reduceToNat, if_true, if_false, frameE, List.map_cons, List.map_nil, List.replicate_succ, List.replicate_zero, Nat.reduceSub, List.replicate, ix0, ix1, and_self, true_and, and_true, pow_10_18, forL_nil, forL_ap, kFor_ap, kFor2_nx, kFor2_ct, kFor2_bk, kFor2_rt, lenA_lst, lenA_tup, lenA_scr, lenA_dK, lenA_dT, addI_ap, kR1_ap (x := (h : Int)) (by omega) (by omega), Int.toNat_natCast]
  · obtain ⟨a, ha, rfl⟩ := mem_rangeP0 hp
    refine ⟨_, rfl, ?_, fun q hq => ?_⟩
    · simp only [wipeE, seqS_ap, kSeq_nx, kSeq_rt, kSeq_bk, kSeq_ct, retS_ap, kRet_ap, retN_ap, exprS_ap, kNx_ap, ifS_ap, ifE_ap, ifO_ap, kIf_t, kIf_f, badS_ap, nextS_ap, setS_ap, kSet_v, kSet_o, cellS_ap, kCell_ap, parS_ap, kPar_2, kPar_3, kPar_4, putSl_v, putSl_o, asgS_ap, kAsg_ap, kAsg2_ap, asgT_nm, asgT_tp, asgTs_nil, asgTs_nm, augS_ap, kAug_ap, kAug1_ap, kAug2_ap, nameE_ap, kNm_v, kNm_o, nameB_ap, kNb_o, kNb_v, kNc_cell, kNd_ap, kNc_int, kNc_bl, kNc_non, kNc_str, kNc_tup, kNc_lst, kNc_scr, kNc_dK, kNc_dT, kNc_ins, kMod_o, kMod_c, kMc_ap, kMo_ap, kMd_ap, appE_ap, kAp_ap, kAp2_ap, appU_ok, setIxS_ap, kSi_ap, kSi2_ap, kSi3_ap, setU_lst, augIxS_ap, kAx_ap, kAx1_ap, kAx1b_ap, kAx2_ap, kAx3_ap, kAx4_ap, lixG_ok, sharedE_ap, kSh_ap, plainE_ap, kPl_ap, constE_ap, nilA_ap, consA_ap, kCo_ap, kCo2_ap, nilL_ap, consL_ap, tupE_ap, lstE_ap, kTu_ap, kLs_ap, kOp_ap, kOp_no, binO_ap, kBi_ap, kBi2_ap, binE_ap, kBe_ap, kBe2_ap, chainE_ap, kCh_ap, kCh2_ap, kCh3_t, kCh3_f, kCh4_ap, testE_ap, toB_ap, andE_ap, orE_ap, notE_ap, kAnd_t, kAnd_f, kOr_t, kOr_f, kNot_ap, andT_ap, orT_ap, notT_ap, kAndT_t, kAndT_f, kOrT_t, kOrT_f, kNotT_ap, negE_ap, kNeg_ap, callO_ap, kCall_ap, kFr_ap, kFr_exc, un1O_ap, kUn_ap, un1E_ap, kUe_ap, lenG_lst, lenG_tup, lenG_scr, tupG_lst, tupG_tup, listG_lst, listG_tup, intG_int, intG_bl, absG_int, ixN_ap, kIx_ap, kIx2_ap, kIx3_ap, ixE_ap, kIe_ap, kIe2_ap, ixG_lst, ixG_tup, ixG_scr, noQ_ap, someQ_ap, kSq_ap, cutO_ap, kCt_ap, kCt2_ap, kCt3_ap, cutN_ap, kCn_ap, kCn2_ap, kCn3_ap, kCn4_ap, newK_ap, newT_ap, seqI_ap, seqP_lst, seqP_tup, seqP_scr, range1I_ap, kR1_ap, range2I_ap, kR2_ap, kR2b_ap, forS_ap, bodyF_ap, kBody_rt, kBody_nx, kBody_exc, yesT_ap, ix0, ix1, allG_ok, anyG_ok, sumG_ok, bind_ok, bind_bad, bind_exc, noX_ok, isi_int_int, isi_int_bool, isi_tup_tup, isi_lst_lst, isi_lst_tup, isi_tup_lst, subI_ok, addI_ok, ltI_ok, leI_ok, gtI_ok, geI_ok, cmpI_ok, max2_ok, min2_ok, eq_int, mul_modL, List.set_cons_zero, List.set_cons_succ, List.length_cons, List.length_nil, List.nil_append, List.cons_append, Nat.reduceAdd, Nat.reduceLeDiff, Nat.reduceLT, Nat.le_refl, decide_true, decide_false, Bool.not_true, Bool.not_false, Bool.true_and, Bool.false_and, Bool.and_true, Bool.and_false, Bool.true_or, Bool.false_or, Bool.or_true, Bool.or_false, Bool.false_bne, Bool.true_bne, Int.reduceLT, Int.reduceLE, Int.reducePow, Int.reduceNeg, Int.reduceToNat, if_true, if_false, frameE, List.map_cons, List.map_nil, List.replicate_succ, List.replicate_zero, Nat.reduceSub, List.replicate, ix0, ix1, and_self, true_and, and_true, pow_10_18, forL_nil, forL_ap, kFor_ap, kFor2_nx, kFor2_ct, kFor2_bk, kFor2_rt, lenA_lst, lenA_tup, lenA_scr, lenA_dK, lenA_dT, addI_ap, kR1_ap (x := (w : Int)) (by omega) (by omega), Int.toNat_natCast]
    · obtain ⟨b, hb, rfl⟩ := mem_rangeP0 hq
      have i1 := ix_sh (c := false) (sh := sh) (a := a) (by rw [s.len]; exact ha)
      have i2 := ix_row (c := false) (r := sh.getD a []) (b := b) (by rw [s.rowLen ha]; exact hb)
      refine ⟨_, rfl, ?_, fun _ => ?_⟩
      · simp only [wipeE, shP, i1, rowP, i2, seqS_ap, kSeq_nx, kSeq_rt, kSeq_bk, kSeq_ct, retS_ap, kRet_ap, retN_ap, exprS_ap, kNx_ap, ifS_ap, ifE_ap, ifO_ap, kIf_t, kIf_f, badS_ap, nextS_ap, setS_ap, kSet_v, kSet_o, cellS_ap, kCell_ap, parS_ap, kPar_2, kPar_3, kPar_4, putSl_v, putSl_o, asgS_ap, kAsg_ap, kAsg2_ap, asgT_nm, asgT_tp, asgTs_nil, asgTs_nm, augS_ap, kAug_ap, kAug1_ap, kAug2_ap, nameE_ap, kNm_v, kNm_o, nameB_ap, kNb_o, kNb_v, kNc_cell, kNd_ap, kNc_int, kNc_bl, kNc_non, kNc_str, kNc_tup, kNc_lst, kNc_scr, kNc_dK, kNc_dT, kNc_ins, kMod_o, kMod_c, kMc_ap, kMo_ap, kMd_ap, appE_ap, kAp_ap, kAp2_ap, appU_ok, setIxS_ap, kSi_ap, kSi2_ap, kSi3_ap, setU_lst, augIxS_ap, kAx_ap, kAx1_ap, kAx1b_ap, kAx2_ap, kAx3_ap, kAx4_ap, lixG_ok, sharedE_ap, kSh_ap, plainE_ap, kPl_ap, constE_ap, nilA_ap, consA_ap, kCo_ap, kCo2_ap, nilL_ap, consL_ap, tupE_ap, lstE_ap, kTu_ap, kLs_ap, kOp_ap, kOp_no, binO_ap, kBi_ap, kBi2_ap, binE_ap, kBe_ap, kBe2_ap, chainE_ap, kCh_ap, kCh2_ap, kCh3_t, kCh3_f, kCh4_ap, testE_ap, toB_ap, andE_ap, orE_ap, notE_ap, kAnd_t, kAnd_f, kOr_t, kOr_f, kNot_ap, andT_ap, orT_ap, notT_ap, kAndT_t, kAndT_f, kOrT_t, kOrT_f, kNotT_ap, negE_ap, kNeg_ap, callO_ap, kCall_ap, kFr_ap, kFr_exc, un1O_ap, kUn_ap, un1E_ap, kUe_ap, lenG_lst, lenG_tup, lenG_scr, tupG_lst, tupG_tup, listG_lst, listG_tup, intG_int, intG_bl, absG_int, ixN_ap, kIx_ap, kIx2_ap, kIx3_ap, ixE_ap, kIe_ap, kIe2_ap, ixG_lst, ixG_tup, ixG_scr, noQ_ap, someQ_ap, kSq_ap, cutO_ap, kCt_ap, kCt2_ap, kCt3_ap, cutN_ap, kCn_ap, kCn2_ap, kCn3_ap, kCn4_ap, newK_ap, newT_ap, seqI_ap, seqP_lst, seqP_tup, seqP_scr, range1I_ap, kR1_ap, range2I_ap, kR2_ap, kR2b_ap, forS_ap, bodyF_ap, kBody_rt, kBody_nx, kBody_exc, yesT_ap, ix0, ix1, allG_ok, anyG_ok, sumG_ok, bind_ok, bind_bad, bind_exc, noX_ok, isi_int_int, isi_int_bool, isi_tup_tup, isi_lst_lst, isi_lst_tup, isi_tup_lst, subI_ok, addI_ok, ltI_ok, leI_ok, gtI_ok, geI_ok, cmpI_ok, max2_ok, min2_ok, eq_int, mul_modL, List.set_cons_zero, List.set_cons_succ, List.length_cons, List.length_nil, List.nil_append, List.cons_append, Nat.reduceAdd, Nat.reduceLeDiff, Nat.reduceLT, Nat.le_refl, decide_true, decide_false, Bool.not_true, Bool.not_false, Bool.true_and, Bool.false_and, Bool.and_true, Bool.and_false, Bool.true_or, Bool.false_or, Bool.or_true, Bool.or_false, Bool.false_bne, Bool.true_bne, Int.reduceLT, Int.reduceLE, Int.reducePow, Int.reduceNeg, Int.reduceToNat, if_true, if_false, frameE, List.map_cons, List.map_nil, List.replicate_succ, List.replicate_zero, Nat.reduceSub, List.replicate, ix0, ix1, and_self, true_and, and_true, pow_10_18, forL_nil, forL_ap, kFor_ap, kFor2_nx, kFor2_ct, kFor2_bk, kFor2_rt, lenA_lst, lenA_tup, lenA_scr, lenA_dK, lenA_dT, addI_ap]
        rfl
      · simp only [wipeE, shP, seqS_ap, kSeq_nx, kSeq_rt, kSeq_bk, kSeq_ct, retS_ap, kRet_ap, retN_ap, exprS_ap, kNx_ap, ifS_ap, ifE_ap, ifO_ap, kIf_t, kIf_f, badS_ap, nextS_ap, setS_ap, kSet_v, kSet_o, cellS_ap, kCell_ap, parS_ap, kPar_2, kPar_3, kPar_4, putSl_v, putSl_o, asgS_ap, kAsg_ap, kAsg2_ap, asgT_nm, asgT_tp, asgTs_nil, asgTs_nm, augS_ap, kAug_ap, kAug1_ap, kAug2_ap, nameE_ap, kNm_v, kNm_o, nameB_ap, kNb_o, kNb_v, kNc_cell, kNd_ap, kNc_int, kNc_bl, kNc_non, kNc_str, kNc_tup, kNc_lst, kNc_scr, kNc_dK, kNc_dT, kNc_ins, kMod_o, kMod_c, kMc_ap, kMo_ap, kMd_ap, appE_ap, kAp_ap, kAp2_ap, appU_ok, setIxS_ap, kSi_ap, kSi2_ap, kSi3_ap, setU_lst, augIxS_ap, kAx_ap, kAx1_ap, kAx1b_ap, kAx2_ap, kAx3_ap, kAx4_ap, lixG_ok, sharedE_ap, kSh_ap, plainE_ap, kPl_ap, constE_ap, nilA_ap, consA_ap, kCo_ap, kCo2_ap, nilL_ap, consL_ap, tupE_ap, lstE_ap, kTu_ap, kLs_ap, kOp_ap, kOp_no, binO_ap, kBi_ap, kBi2_ap, binE_ap, kBe_ap, kBe2_ap, chainE_ap, kCh_ap, kCh2_ap, kCh3_t, kCh3_f, kCh4_ap, testE_ap, toB_ap, andE_ap, orE_ap, notE_ap, kAnd_t, kAnd_f, kOr_t, kOr_f, kNot_ap, andT_ap, orT_ap, notT_ap, kAndT_t, kAndT_f, kOrT_t, kOrT_f, kNotT_ap, negE_ap, kNeg_ap, callO_ap, kCall_ap, kFr_ap, kFr_exc, un1O_ap, kUn_ap, un1E_ap, kUe_ap, lenG_lst, lenG_tup, lenG_scr, tupG_lst, tupG_tup, listG_lst, listG_tup, intG_int, intG_bl, absG_int, ixN_ap, kIx_ap, kIx2_ap, kIx3_ap, ixE_ap, kIe_ap, kIe2_ap, ixG_lst, ixG_tup, ixG_scr, noQ_ap, someQ_ap, kSq_ap, cutO_ap, kCt_ap, kCt2_ap, kCt3_ap, cutN_ap, kCn_ap, kCn2_ap, kCn3_ap, kCn4_ap, newK_ap, newT_ap, seqI_ap, seqP_lst, seqP_tup, seqP_scr, range1I_ap, kR1_ap, range2I_ap, kR2_ap, kR2b_ap, forS_ap, bodyF_ap, kBody_rt, kBody_nx, kBody_exc, yesT_ap, ix0, ix1, allG_ok, anyG_ok, sumG_ok, bind_ok, bind_bad, bind_exc, noX_ok, isi_int_int, isi_int_bool, isi_tup_tup, isi_lst_lst, isi_lst_tup, isi_tup_lst, subI_ok, addI_ok, ltI_ok, leI_ok, gtI_ok, geI_ok, cmpI_ok, max2_ok, min2_ok, eq_int, mul_modL, List.set_cons_zero, List.set_cons_succ, List.length_cons, List.length_nil, List.nil_append, List.cons_append, Nat.reduceAdd, Nat.reduceLeDiff, Nat.reduceLT, Nat.le_refl, decide_true, decide_false, Bool.not_true, Bool.not_false, Bool.true_and, Bool.false_and, Bool.and_true, Bool.and_false, Bool.true_or, Bool.false_or, Bool.or_true, Bool.or_false, Bool.false_bne, Bool.true_bne, Int.reduceLT, Int.reduceLE, Int.reducePow, Int.reduceNeg, Int.reduceToNat, if_true, if_false, frameE, List.map_cons, List.map_nil, List.replicate_succ, List.replicate_zero, Nat.reduceSub, List.replicate, ix0, ix1, and_self, true_and, and_true, pow_10_18, forL_nil, forL_ap, kFor_ap, kFor2_nx, kFor2_ct, kFor2_bk, kFor2_rt, lenA_lst, lenA_tup, lenA_scr, lenA_dK, lenA_dT, addI_ap]
theorem v_noughts {h w : Nat} {sh : List (List Int)} (s : Sheet h w sh) (t : DT) : F_noughts [.int h, .int w, shP sh] t = .ok (.lst ((grid h w (zero sh)).map pairP)) true t := by
  have c := cp0_noughts_ok s t
  have k := v_check_heights s t
  simp only [shP] at c k
  simp only [F_noughts, b_noughts, shP, seqS_ap, kSeq_nx, kSeq_rt, kSeq_bk, kSeq_ct, retS_ap, kRet_ap, retN_ap, exprS_ap, kNx_ap, ifS_ap, ifE_ap, ifO_ap, kIf_t, kIf_f, badS_ap, nextS_ap, setS_ap, kSet_v, kSet_o, cellS_ap, kCell_ap, parS_ap, kPar_2, kPar_3, kPar_4, putSl_v, putSl_o, asgS_ap, kAsg_ap, kAsg2_ap, asgT_nm, asgT_tp, asgTs_nil, asgTs_nm, augS_ap, kAug_ap, kAug1_ap, kAug2_ap, nameE_ap, kNm_v, kNm_o, nameB_ap, kNb_o, kNb_v, kNc_cell, kNd_ap, kNc_int, kNc_bl, kNc_non, kNc_str, kNc_tup, kNc_lst, kNc_scr, kNc_dK, kNc_dT, kNc_ins, kMod_o, kMod_c, kMc_ap, kMo_ap, kMd_ap, appE_ap, kAp_ap, kAp2_ap, appU_ok, setIxS_ap, kSi_ap, kSi2_ap, kSi3_ap, setU_lst, augIxS_ap, kAx_ap, kAx1_ap, kAx1b_ap, kAx2_ap, kAx3_ap, kAx4_ap, lixG_ok, sharedE_ap, kSh_ap, plainE_ap, kPl_ap, constE_ap, nilA_ap, consA_ap, kCo_ap, kCo2_ap, nilL_ap, consL_ap, tupE_ap, lstE_ap, kTu_ap, kLs_ap, kOp_ap, kOp_no, binO_ap, kBi_ap, kBi2_ap, binE_ap, kBe_ap, kBe2_ap, chainE_ap, kCh_ap, kCh2_ap, kCh3_t, kCh3_f, kCh4_ap, testE_ap, toB_ap, andE_ap, orE_ap, notE_ap, kAnd_t, kAnd_f, kOr_t, kOr_f, kNot_ap, andT_ap, orT_ap, notT_ap, kAndT_t, kAndT_f, kOrT_t, kOrT_f, kNotT_ap, negE_ap, kNeg_ap, callO_ap, kCall_ap, kFr_ap, kFr_exc, un1O_ap, kUn_ap, un1E_ap, kUe_ap, lenG_lst, lenG_tup, lenG_scr, tupG_lst, tupG_tup, listG_lst, listG_tup, intG_int, intG_bl, absG_int, ixN_ap, kIx_ap, kIx2_ap, kIx3_ap, ixE_ap, kIe_ap, kIe2_ap, ixG_lst, ixG_tup, ixG_scr, noQ_ap, someQ_ap, kSq_ap, cutO_ap, kCt_ap, kCt2_ap, kCt3_ap, cutN_ap, kCn_ap, kCn2_ap, kCn3_ap, kCn4_ap, newK_ap, newT_ap, seqI_ap, seqP_lst, seqP_tup, seqP_scr, range1I_ap, kR1_ap, range2I_ap, kR2_ap, kR2b_ap, forS_ap, bodyF_ap, kBody_rt, kBody_nx, kBody_exc, yesT_ap, ix0, ix1, allG_ok, anyG_ok, sumG_ok, bind_ok, bind_bad, bind_exc, noX_ok, isi_int_int, isi_int_bool, isi_tup_tup, isi_lst_lst, isi_lst_tup, isi_tup_lst, subI_ok, addI_ok, ltI_ok, leI_ok, gtI_ok, geI_ok, cmpI_ok, max2_ok, min2_ok, eq_int, mul_modL, List.set_cons_zero, List.set_cons_succ, List.length_cons, List.length_nil, List.nil_append, List.cons_append, Nat.reduceAdd, Nat.reduceLeDiff, Nat.reduceLT, Nat.le_refl, decide_true, decide_false, Bool.not_true, Bool.not_false, Bool.true_and, Bool.false_and, Bool.and_true, Bool.and_false, Bool.true_or, Bool.false_or, Bool.or_true, Bool.or_false, Bool.false_bne, Bool.true_bne, Int.reduceLT, Int.reduceLE, Int.reducePow, Int.reduceNeg, Int.reduceToNat, if_true, if_false, frameE, List.map_cons, List.map_nil, List.replicate_succ, List.replicate_zero, Nat.reduceSub, List.replicate, ix0, ix1, and_self, true_and, and_true, pow_10_18, forL_nil, forL_ap, kFor_ap, kFor2_nx, kFor2_ct, kFor2_bk, kFor2_rt, lenA_lst, lenA_tup, lenA_scr, lenA_dK, lenA_dT, addI_ap, k, c]
theorem cp0_both_ok {h w : Nat} {sh st : List (List Int)} (s : Sheet h w sh) (s' : Sheet h w st) (t : DT) : cp0_both_noughts ⟨[.val (.int h), .val (.int w), .val (shP sh), .val (shP st), .no, .no], t⟩ = .ok (.lst ((grid h w fun a b => zero sh a b && zero st a b).map pairP), true) ⟨[.val (.int h), .val (.int w), .val (shP sh), .val (shP st), .no, .no], t⟩ := by
  have h2 := s.h2
  have w2 := s.w2
  rw [← grid_eq]
  refine lc2O_0 (s1 := ⟨[.val (.int h), .val (.int w), .val (shP sh), .val (shP st), .no, .no], t⟩) (ps := rangeP 0 h) (fun _ => rangeP 0 w) (fun p q => zero sh (toI p).toNat (toI q).toNat && zero st (toI p).toNat (toI q).toNat) (fun p q => .tup false [p, q]) ?_ (fun p hp => ?_) (range_small h2 w2)
  · simp only [seqS_ap, kSeq_nx, kSeq_rt, kSeq_bk, kSeq_ct, retS_ap, kRet_ap, retN_ap, exprS_ap, kNx_ap, ifS_ap, ifE_ap, ifO_ap, kIf_t, kIf_f, badS_ap, nextS_ap, setS_ap, kSet_v, kSet_o, cellS_ap, kCell_ap, parS_ap, kPar_2, kPar_3, kPar_4, putSl_v, putSl_o, asgS_ap, kAsg_ap, kAsg2_ap, asgT_nm, asgT_tp, asgTs_nil, asgTs_nm, augS_ap, kAug_ap, kAug1_ap, kAug2_ap, nameE_ap, kNm_v, kNm_o, nameB_ap, kNb_o, kNb_v, kNc_cell, kNd_ap, kNc_int, kNc_bl, kNc_non, kNc_str, kNc_tup, kNc_lst, kNc_scr, kNc_dK, kNc_dT, kNc_ins, kMod_o, kMod_c, kMc_ap, kMo_ap, kMd_ap, appE_ap, kAp_ap, kAp2_ap, appU_ok, setIxS_ap, kSi_ap, kSi2_ap, kSi3_ap, setU_lst, augIxS_ap, kAx_ap, kAx1_ap, kAx1b_ap, kAx2_ap, kAx3_ap, kAx4_ap, lixG_ok, sharedE_ap, kSh_ap, plainE_ap, kPl_ap, constE_ap, nilA_ap, consA_ap, kCo_ap, kCo2_ap, nilL_ap, consL_ap, tupE_ap, lstE_ap, kTu_ap, kLs_ap, kOp_ap, kOp_no, binO_ap, kBi_ap, kBi2_ap, binE_ap, kBe_ap, kBe2_ap, chainE_ap, kCh_ap, kCh2_ap, kCh3_t, kCh3_f, kCh4_ap, testE_ap, toB_ap, andE_ap, orE_ap, notE_ap, kAnd_t, kAnd_f, kOr_t, kOr_f, kNot_ap, andT_ap, orT_ap, notT_ap, kAndT_t, kAndT_f, kOrT_t, kOrT_f, kNotT_ap, negE_ap, kNeg_ap, callO_ap, kCall_ap, kFr_ap, kFr_exc, un1O_ap, kUn_ap, un1E_ap, kUe_ap, lenG_lst, lenG_tup, lenG_scr, tupG_lst, tupG_tup, listG_lst, listG_tup, intG_int, intG_bl, absG_int, ixN_ap, kIx_ap, kIx2_ap, kIx3_ap, ixE_ap, kIe_ap, kIe2_ap, ixG_lst, ixG_tup, ixG_scr, noQ_ap, someQ_ap, kSq_ap, cutO_ap, kCt_ap, kCt2_ap, kCt3_ap, cutN_ap, kCn_ap, kCn2_ap, kCn3_ap, kCn4_ap, newK_ap, newT_ap, seqI_ap, seqP_lst, seqP_tup, seqP_scr, range1I_ap, kR1_ap, range2I_ap, kR2_ap, kR2b_ap, forS_ap, bodyF_ap, kBody_rt, kBody_nx, kBody_exc, yesT_ap, ix0, ix1, allG_ok, anyG_ok, sumG_ok, bind_ok, bind_bad, bind_exc, noX_ok, isi_int_int, isi_int_bool, isi_tup_tup, isi_lst_lst, isi_lst_tup, isi_tup_lst, subI_ok, addI_ok, ltI_ok, leI_ok, gtI_ok, geI_ok, cmpI_ok, max2_ok, min2_ok, eq_int, mul_modL, List.set_cons_zero, List.set_cons_succ, List.length_cons, List.length_nil, List.nil_append, List.cons_append, Nat.reduceAdd, Nat.reduceLeDiff, Nat.reduceLT, Nat.le_refl, decide_true, decide_false, Bool.not_true, Bool.not_false, Bool.true_and, Bool.false_and, Bool.and_true, Bool.and_false, Bool.true_or, Bool.false_or, Bool.or_true, Bool.or_false, Bool.false_bne, Bool.true_bne, Int.reduceLT, Int.reduceLE, Int.reducePow, Int.reduceNeg, Int.reduceToNat, if_true, if_false, frameE, List.map_cons, List.map_nil, List.replicate_succ, List.replicate_zero, Nat.reduceSub, List.replicate, ix0, ix1, and_self, true_and, and_true, pow_10_18, forL_nil, forL_ap, kFor_ap, kFor2_nx, kFor2_ct, kFor2_bk, kFor2_rt, lenA_lst, lenA_tup, lenA_scr, lenA_dK, lenA_dT, addI_ap, kR1_ap (x := (h : Int)) (by omega) (by omega), Int.toNat_natCast]
  · obtain ⟨a, ha, rfl⟩ := mem_rangeP0 hp
    refine ⟨_, rfl, ?_, fun q hq => ?_⟩
    · simp only [wipeE, seqS_ap, kSeq_nx, kSeq_rt, kSeq_bk, kSeq_ct, retS_ap, kRet_ap, retN_ap, exprS_ap, kNx_ap, ifS_ap, ifE_ap, ifO_ap, kIf_t, kIf_f, badS_ap, nextS_ap, setS_ap, kSet_v, kSet_o, cellS_ap, kCell_ap, parS_ap, kPar_2, kPar_3, kPar_4, putSl_v, putSl_o, asgS_ap, kAsg_ap, kAsg2_ap, asgT_nm, asgT_tp, asgTs_nil, asgTs_nm, augS_ap, kAug_ap, kAug1_ap, kAug2_ap, nameE_ap, kNm_v, kNm_o, nameB_ap, kNb_o, kNb_v, kNc_cell, kNd_ap, kNc_int, kNc_bl, kNc_non, kNc_str, kNc_tup, kNc_lst, kNc_scr, kNc_dK, kNc_dT, kNc_ins, kMod_o, kMod_c, kMc_ap, kMo_ap, kMd_ap, appE_ap, kAp_ap, kAp2_ap, appU_ok, setIxS_ap, kSi_ap, kSi2_ap, kSi3_ap, setU_lst, augIxS_ap, kAx_ap, kAx1_ap, kAx1b_ap, kAx2_ap, kAx3_ap, kAx4_ap, lixG_ok, sharedE_ap, kSh_ap, plainE_ap, kPl_ap, constE_ap, nilA_ap, consA_ap, kCo_ap, kCo2_ap, nilL_ap, consL_ap, tupE_ap, lstE_ap, kTu_ap, kLs_ap, kOp_ap, kOp_no, binO_ap, kBi_ap, kBi2_ap, binE_ap, kBe_ap, kBe2_ap, chainE_ap, kCh_ap, kCh2_ap, kCh3_t, kCh3_f, kCh4_ap, testE_ap, toB_ap, andE_ap, orE_ap, notE_ap, kAnd_t, kAnd_f, kOr_t, kOr_f, kNot_ap, andT_ap, orT_ap, notT_ap, kAndT_t, kAndT_f, kOrT_t, kOrT_f, kNotT_ap, negE_ap, kNeg_ap, callO_ap, kCall_ap, kFr_ap, kFr_exc, un1O_ap, kUn_ap, un1E_ap, kUe_ap, lenG_lst, lenG_tup, lenG_scr, tupG_lst, tupG_tup, listG_lst, listG_tup, intG_int, intG_bl, absG_int, ixN_ap, kIx_ap, kIx2_ap, kIx3_ap, ixE_ap, kIe_ap, kIe2_ap, ixG_lst, ixG_tup, ixG_scr, noQ_ap, someQ_ap, kSq_ap, cutO_ap, kCt_ap, kCt2_ap, kCt3_ap, cutN_ap, kCn_ap, kCn2_ap, kCn3_ap, kCn4_ap, newK_ap, newT_ap, seqI_ap, seqP_lst, seqP_tup, seqP_scr, range1I_ap, kR1_ap, range2I_ap, kR2_ap, kR2b_ap, forS_ap, bodyF_ap, kBody_rt, kBody_nx, kBody_exc, yesT_ap, ix0, ix1, allG_ok, anyG_ok, sumG_ok, bind_ok, bind_bad, bind_exc, noX_ok, isi_int_int, isi_int_bool, isi_tup_tup, isi_lst_lst, isi_lst_tup, isi_tup_lst, subI_ok, addI_ok, ltI_ok, leI_ok, gtI_ok, geI_ok, cmpI_ok, max2_ok, min2_ok, eq_int, mul_modL, List.set_cons_zero, List.set_cons_succ, List.length_cons, List.length_nil, List.nil_append, List.cons_append, Nat.reduceAdd, Nat.reduceLeDiff, Nat.reduceLT, Nat.le_refl, decide_true, decide_false, Bool.not_true, Bool.not_false, Bool.true_and, Bool.false_and, Bool.and_true, Bool.and_false, Bool.true_or, Bool.false_or, Bool.or_true, Bool.or_false, Bool.false_bne, Bool.true_bne, Int.reduceLT, Int.reduceLE, Int.reducePow, Int.reduceNeg, Int.reduceToNat, if_true, if_false, frameE, List.map_cons, List.map_nil, List.replicate_succ, List.replicate_zero, Nat.reduceSub, List.replicate, ix0, ix1, and_self, true_and, and_true, pow_10_18, forL_nil, forL_ap, kFor_ap, kFor2_nx, kFor2_ct, kFor2_bk, kFor2_rt, lenA_lst, lenA_tup, lenA_scr, lenA_dK, lenA_dT, addI_ap, kR1_ap (x := (w : Int)) (by omega) (by omega), Int.toNat_natCast]
    · obtain ⟨b, hb, rfl⟩ := mem_rangeP0 hq
      have i1 := ix_sh (c := false) (sh := sh) (a := a) (by rw [s.len]; exact ha)
      have i2 := ix_row (c := false) (r := sh.getD a []) (b := b) (by rw [s.rowLen ha]; exact hb)
      have i3 := ix_sh (c := false) (sh := st) (a := a) (by rw [s'.len]; exact ha)
      have i4 := ix_row (c := false) (r := st.getD a []) (b := b) (by rw [s'.rowLen ha]; exact hb)
      refine ⟨_, rfl, ?_, fun _ => ?_⟩
      · by_cases z : at2 sh a b = 0
        · have z' : (sh.getD a []).getD b 0 = 0 := z
          simp only [wipeE, shP, i1, i3, rowP, i2, i4, z', seqS_ap, kSeq_nx, kSeq_rt, kSeq_bk, kSeq_ct, retS_ap, kRet_ap, retN_ap, exprS_ap, kNx_ap, ifS_ap, ifE_ap, ifO_ap, kIf_t, kIf_f, badS_ap, nextS_ap, setS_ap, kSet_v, kSet_o, cellS_ap, kCell_ap, parS_ap, kPar_2, kPar_3, kPar_4, putSl_v, putSl_o, asgS_ap, kAsg_ap, kAsg2_ap, asgT_nm, asgT_tp, asgTs_nil, asgTs_nm, augS_ap, kAug_ap, kAug1_ap, kAug2_ap, nameE_ap, kNm_v, kNm_o, nameB_ap, kNb_o, kNb_v, kNc_cell, kNd_ap, kNc_int, kNc_bl, kNc_non, kNc_str, kNc_tup, kNc_lst, kNc_scr, kNc_dK, kNc_dT, kNc_ins, kMod_o, kMod_c, kMc_ap, kMo_ap, kMd_ap, appE_ap, kAp_ap, kAp2_ap, appU_ok, setIxS_ap, kSi_ap, kSi2_ap, kSi3_ap, setU_lst, augIxS_ap, kAx_ap, kAx1_ap, kAx1b_ap, kAx2_ap, kAx3_ap, kAx4_ap, lixG_ok, sharedE_ap, kSh_ap, plainE_ap, kPl_ap, constE_ap, nilA_ap, consA_ap, kCo_ap, kCo2_ap, nilL_ap, consL_ap, tupE_ap, lstE_ap, kTu_ap, kLs_ap, kOp_ap, kOp_no, binO_ap, kBi_ap, kBi2_ap, binE_ap, kBe_ap, kBe2_ap, chainE_ap, kCh_ap, kCh2_ap, kCh3_t, kCh3_f, kCh4_ap, testE_ap, toB_ap, andE_ap, orE_ap, notE_ap, kAnd_t, kAnd_f, kOr_t, kOr_f, kNot_ap, andT_ap, orT_ap, notT_ap, kAndT_t, kAndT_f, kOrT_t, kOrT_f, kNotT_ap, negE_ap, kNeg_ap, callO_ap, kCall_ap, kFr_ap, kFr_exc, un1O_ap, kUn_ap, un1E_ap, kUe_ap, lenG_lst, lenG_tup, lenG_scr, tupG_lst, tupG_tup, listG_lst, listG_tup, intG_int, intG_bl, absG_int, ixN_ap, kIx_ap, kIx2_ap, kIx3_ap, ixE_ap, kIe_ap, kIe2_ap, ixG_lst, ixG_tup, ixG_scr, noQ_ap, someQ_ap, kSq_ap, cutO_ap, kCt_ap, kCt2_ap, kCt3_ap, cutN_ap, kCn_ap, kCn2_ap, kCn3_ap, kCn4_ap, newK_ap, newT_ap, seqI_ap, seqP_lst, seqP_tup, seqP_scr, range1I_ap, kR1_ap, range2I_ap, kR2_ap, kR2b_ap, forS_ap, bodyF_ap, kBody_rt, kBody_nx, kBody_exc, yesT_ap, ix0, ix1, allG_ok, anyG_ok, sumG_ok, bind_ok, bind_bad, bind_exc, noX_ok, isi_int_int, isi_int_bool, isi_tup_tup, isi_lst_lst, isi_lst_tup, isi_tup_lst, subI_ok, addI_ok, ltI_ok, leI_ok, gtI_ok, geI_ok, cmpI_ok, max2_ok, min2_ok, eq_int, mul_modL, List.set_cons_zero, List.set_cons_succ, List.length_cons, List.length_nil, List.nil_append, List.cons_append, Nat.reduceAdd, Nat.reduceLeDiff, Nat.reduceLT, Nat.le_refl, decide_true, decide_false, Bool.not_true, Bool.not_false, Bool.true_and, Bool.false_and, Bool.and_true, Bool.and_false, Bool.true_or, Bool.false_or, Bool.or_true, Bool.or_false, Bool.false_bne, Bool.true_bne, Int.reduceLT, Int.reduceLE, Int.reducePow, Int.reduceNeg, Int.reduceToNat, if_true, if_false, frameE, List.map_cons, List.map_nil, List.replicate_succ, List.replicate_zero, Nat.reduceSub, List.replicate, ix0, ix1, and_self, true_and, and_true, pow_10_18, forL_nil, forL_ap, kFor_ap, kFor2_nx, kFor2_ct, kFor2_bk, kFor2_rt, lenA_lst, lenA_tup, lenA_scr, lenA_dK, lenA_dT, addI_ap, toI, zero, z, Int.toNat_natCast]
          rfl
        · have z' : ¬ (sh.getD a []).getD b 0 = 0 := z
          simp only [wipeE, shP, i1, i3, rowP, i2, i4, z', seqS_ap, kSeq_nx, kSeq_rt, kSeq_bk, kSeq_ct, retS_ap, kRet_ap, retN_ap, exprS_ap, kNx_ap, ifS_ap, ifE_ap, ifO_ap, kIf_t, kIf_f, badS_ap, nextS_ap, setS_ap, kSet_v, kSet_o, cellS_ap, kCell_ap, parS_ap, kPar_2, kPar_3, kPar_4, putSl_v, putSl_o, asgS_ap, kAsg_ap, kAsg2_ap, asgT_nm, asgT_tp, asgTs_nil, asgTs_nm, augS_ap, kAug_ap, kAug1_ap, kAug2_ap, nameE_ap, kNm_v, kNm_o, nameB_ap, kNb_o, kNb_v, kNc_cell, kNd_ap, kNc_int, kNc_bl, kNc_non, kNc_str, kNc_tup, kNc_lst, kNc_scr, kNc_dK, kNc_dT, kNc_ins, kMod_o, kMod_c, kMc_ap, kMo_ap, kMd_ap, appE_ap, kAp_ap, kAp2_ap, appU_ok, setIxS_ap, kSi_ap, kSi2_ap, kSi3_ap, setU_lst, augIxS_ap, kAx_ap, kAx1_ap, kAx1b_ap, kAx2_ap, kAx3_ap, kAx4_ap, lixG_ok, sharedE_ap, kSh_ap, plainE_ap, kPl_ap, constE_ap, nilA_ap, consA_ap, kCo_ap, kCo2_ap, nilL_ap, consL_ap, tupE_ap, lstE_ap, kTu_ap, kLs_ap, kOp_ap, kOp_no, binO_ap, kBi_ap, kBi2_ap, binE_ap, kBe_ap, kBe2_ap, chainE_ap, kCh_ap, kCh2_ap, kCh3_t, kCh3_f, kCh4_ap, testE_ap, toB_ap, andE_ap, orE_ap, notE_ap, kAnd_t, kAnd_f, kOr_t, kOr_f, kNot_ap, andT_ap, orT_ap, notT_ap, kAndT_t, kAndT_f, kOrT_t, kOrT_f, kNotT_ap, negE_ap, kNeg_ap, callO_ap, kCall_ap, kFr_ap, kFr_exc, un1O_ap, kUn_ap, un1E_ap, kUe_ap, lenG_lst, lenG_tup, lenG_scr, tupG_lst, tupG_tup, listG_lst, listG_tup, intG_int, intG_bl, absG_int, ixN_ap, kIx_ap, kIx2_ap, kIx3_ap, ixE_ap, kIe_ap, kIe2_ap, ixG_lst, ixG_tup, ixG_scr, noQ_ap, someQ_ap, kSq_ap, cutO_ap, kCt_ap, kCt2_ap, kCt3_ap, cutN_ap, kCn_ap, kCn2_ap, kCn3_ap, kCn4_ap, newK_ap, newT_ap, seqI_ap, seqP_lst, seqP_tup, seqP_scr, range1I_ap, kR1_ap, range2I_ap, kR2_ap, kR2b_ap, forS_ap, bodyF_ap, kBody_rt, kBody_nx, kBody_exc, yesT_ap, ix0, ix1, allG_ok, anyG_ok, sumG_ok, bind_ok, bind_bad, bind_exc, noX_ok, isi_int_int, isi_int_bool, isi_tup_tup, isi_lst_lst, isi_lst_tup, isi_tup_lst, subI_ok, addI_ok, ltI_ok, leI_ok, gtI_ok, geI_ok, cmpI_ok, max2_ok, min2_ok, eq_int, mul_modL, List.set_cons_zero, List.set_cons_succ, List.length_cons, List.length_nil, List.nil_append, List.cons_append, Nat.reduceAdd, Nat.reduceLeDiff, Nat.reduceLT, Nat.le_refl, decide_true, decide_false, Bool.not_true, Bool.not_false, Bool.true_and, Bool.false_and, Bool.and_true, Bool.and_false, Bool.true_or, Bool.false_or, Bool.or_true, Bool.or_false, Bool.false_bne, Bool.true_bne, Int.reduceLT, Int.reduceLE, Int.reducePow, Int.reduceNeg, Int.reduceToNat, if_true, if_false, frameE, List.map_cons, List.map_nil, List.replicate_succ, List.replicate_zero, Nat.reduceSub, List.replicate, ix0, ix1, and_self, true_and, and_true, pow_10_18, forL_nil, forL_ap, kFor_ap, kFor2_nx, kFor2_ct, kFor2_bk, kFor2_rt, lenA_lst, lenA_tup, lenA_scr, lenA_dK, lenA_dT, addI_ap, toI, zero, z, Int.toNat_natCast]
      · simp only [wipeE, shP, seqS_ap, kSeq_nx, kSeq_rt, kSeq_bk, kSeq_ct, retS_ap, kRet_ap, retN_ap, exprS_ap, kNx_ap, ifS_ap, ifE_ap, ifO_ap, kIf_t, kIf_f, badS_ap, nextS_ap, setS_ap, kSet_v, kSet_o, cellS_ap, kCell_ap, parS_ap, kPar_2, kPar_3, kPar_4, putSl_v, putSl_o, asgS_ap, kAsg_ap, kAsg2_ap, asgT_nm, asgT_tp, asgTs_nil, asgTs_nm, augS_ap, kAug_ap, kAug1_ap, kAug2_ap, nameE_ap, kNm_v, kNm_o, nameB_ap, kNb_o, kNb_v, kNc_cell, kNd_ap, kNc_int, kNc_bl, kNc_non, kNc_str, kNc_tup, kNc_lst, kNc_scr, kNc_dK, kNc_dT, kNc_ins, kMod_o, kMod_c, kMc_ap, kMo_ap, kMd_ap, appE_ap, kAp_ap, kAp2_ap, appU_ok, setIxS_ap, kSi_ap, kSi2_ap, kSi3_ap, setU_lst, augIxS_ap, kAx_ap, kAx1_ap, kAx1b_ap, kAx2_ap, kAx3_ap, kAx4_ap, lixG_ok, sharedE_ap, kSh_ap, plainE_ap, kPl_ap, constE_ap, nilA_ap, consA_ap, kCo_ap, kCo2_ap, nilL_ap, consL_ap, tupE_ap, lstE_ap, kTu_ap, kLs_ap, kOp_ap, kOp_no, binO_ap, kBi_ap, kBi2_ap, binE_ap, kBe_ap, kBe2_ap, chainE_ap, kCh_ap, kCh2_ap, kCh3_t, kCh3_f, kCh4_ap, testE_ap, toB_ap, andE_ap, orE_ap, notE_ap, kAnd_t, kAnd_f, kOr_t, kOr_f, kNot_ap, andT_ap, orT_ap, notT_ap, kAndT_t, kAndT_f, kOrT_t, kOrT_f, kNotT_ap, negE_ap, kNeg_ap, callO_ap, kCall_ap, kFr_ap, kFr_exc, un1O_ap, kUn_ap, un1E_ap, kUe_ap, lenG_lst, lenG_tup, lenG_scr, tupG_lst, tupG_tup, listG_lst, listG_tup, intG_int, intG_bl, absG_int, ixN_ap, kIx_ap, kIx2_ap, kIx3_ap, ixE_ap, kIe_ap, kIe2_ap, ixG_lst, ixG_tup, ixG_scr, noQ_ap, someQ_ap, kSq_ap, cutO_ap, kCt_ap, kCt2_ap, kCt3_ap, cutN_ap, kCn_ap, kCn2_ap, kCn3_ap, kCn4_ap, newK_ap, newT_ap, seqI_ap, seqP_lst, seqP_tup, seqP_scr, range1I_ap, kR1_ap, range2I_ap, kR2_ap, kR2b_ap, forS_ap, bodyF_ap, kBody_rt, kBody_nx, kBody_exc, yesT_ap, ix0, ix1, allG_ok, anyG_ok, sumG_ok, bind_ok, bind_bad, bind_exc, noX_ok, isi_int_int, isi_int_bool, isi_tup_tup, isi_lst_lst, isi_lst_tup, isi_tup_lst, subI_ok, addI_ok, ltI_ok, leI_ok, gtI_ok, geI_ok, cmpI_ok, max2_ok, min2_ok, eq_int, mul_modL, List.set_cons_zero, List.set_cons_succ, List.length_cons, List.length_nil, List.nil_append, List.cons_append, Nat.reduceAdd, Nat.reduceLeDiff, Nat.reduceLT, Nat.le_refl, decide_true, decide_false, Bool.not_true, Bool.not_false, Bool.true_and, Bool.false_and, Bool.and_true, Bool.and_false, Bool.true_or, Bool.false_or, Bool.or_true, Bool.or_false, Bool.false_bne, Bool.true_bne, Int.reduceLT, Int.reduceLE, Int.reducePow, Int.reduceNeg, Int.reduceToNat, if_true, if_false, frameE, List.map_cons, List.map_nil, List.replicate_succ, List.replicate_zero, Nat.reduceSub, List.replicate, ix0, ix1, and_self, true_and, and_true, pow_10_18, forL_nil, forL_ap, kFor_ap, kFor2_nx, kFor2_ct, kFor2_bk, kFor2_rt, lenA_lst, lenA_tup, lenA_scr, lenA_dK, lenA_dT, addI_ap]
theorem v_both {h w : Nat} {sh st : List (List Int)} (s : Sheet h w sh) (s' : Sheet h w st) (t : DT) : F_both_noughts [.int h, .int w, shP sh, shP st] t = .ok (.lst ((grid h w fun a b => zero sh a b && zero st a b).map pairP)) true t := by
  have c := cp0_both_ok s s' t
  have k := v_check_heights s t
  have k' := v_check_heights s' t
  simp only [shP] at c k k'
  simp only [F_both_noughts, b_both_noughts, shP, seqS_ap, kSeq_nx, kSeq_rt, kSeq_bk, kSeq_ct, retS_ap, kRet_ap, retN_ap, exprS_ap, kNx_ap, ifS_ap, ifE_ap, ifO_ap, kIf_t, kIf_f, badS_ap, nextS_ap, setS_ap, kSet_v, kSet_o, cellS_ap, kCell_ap, parS_ap, kPar_2, kPar_3, kPar_4, putSl_v, putSl_o, asgS_ap, kAsg_ap, kAsg2_ap, asgT_nm, asgT_tp, asgTs_nil, asgTs_nm, augS_ap, kAug_ap, kAug1_ap, kAug2_ap, nameE_ap, kNm_v, kNm_o, nameB_ap, kNb_o, kNb_v, kNc_cell, kNd_ap, kNc_int, kNc_bl, kNc_non, kNc_str, kNc_tup, kNc_lst, kNc_scr, kNc_dK, kNc_dT, kNc_ins, kMod_o, kMod_c, kMc_ap, kMo_ap, kMd_ap, appE_ap, kAp_ap, kAp2_ap, appU_ok, setIxS_ap, kSi_ap, kSi2_ap, kSi3_ap, setU_lst, augIxS_ap, kAx_ap, kAx1_ap, kAx1b_ap, kAx2_ap, kAx3_ap, kAx4_ap, lixG_ok, sharedE_ap, kSh_ap, plainE_ap, kPl_ap, constE_ap, nilA_ap, consA_ap, kCo_ap, kCo2_ap, nilL_ap, consL_ap, tupE_ap, lstE_ap, kTu_ap, kLs_ap, kOp_ap, kOp_no, binO_ap, kBi_ap, kBi2_ap, binE_ap, kBe_ap, kBe2_ap, chainE_ap, kCh_ap, kCh2_ap, kCh3_t, kCh3_f, kCh4_ap, testE_ap, toB_ap, andE_ap, orE_ap, notE_ap, kAnd_t, kAnd_f, kOr_t, kOr_f, kNot_ap, andT_ap, orT_ap, notT_ap, kAndT_t, kAndT_f, kOrT_t, kOrT_f, kNotT_ap, negE_ap, kNeg_ap, callO_ap, kCall_ap, kFr_ap, kFr_exc, un1O_ap, kUn_ap, un1E_ap, kUe_ap, lenG_lst, lenG_tup, lenG_scr, tupG_lst, tupG_tup, listG_lst, listG_tup, intG_int, intG_bl, absG_int, ixN_ap, kIx_ap, kIx2_ap, kIx3_ap, ixE_ap, kIe_ap, kIe2_ap, ixG_lst, ixG_tup, ixG_scr, noQ_ap, someQ_ap, kSq_ap, cutO_ap, kCt_ap, kCt2_ap, kCt3_ap, cutN_ap, kCn_ap, kCn2_ap, kCn3_ap, kCn4_ap, newK_ap, newT_ap, seqI_ap, seqP_lst, seqP_tup, seqP_scr, range1I_ap, kR1_ap, range2I_ap, kR2_ap, kR2b_ap, forS_ap, bodyF_ap, kBody_rt, kBody_nx, kBody_exc, yesT_ap, ix0, ix1, allG_ok, anyG_ok, sumG_ok, bind_ok, bind_bad, bind_exc, noX_ok, isi_int_int, isi_int_bool, isi_tup_tup, isi_lst_lst, isi_lst_tup, isi_tup_lst, subI_ok, addI_ok, ltI_ok, leI_ok, gtI_ok, geI_ok, cmpI_ok, max2_ok, min2_ok, eq_int, mul_modL, List.set_cons_zero, List.set_cons_succ, List.length_cons, List.length_nil, List.nil_append, List.cons_append, Nat.reduceAdd, Nat.reduceLeDiff, Nat.reduceLT, Nat.le_refl, decide_true, decide_false, Bool.not_true, Bool.not_false, Bool.true_and, Bool.false_and, Bool.and_true, Bool.and_false, Bool.true_or, Bool.false_or, Bool.or_true, Bool.or_false, Bool.false_bne, Bool.true_bne, Int.reduceLT, Int.reduceLE, Int.reducePow, Int.reduceNeg, Int.reduceToNat, if_true, if_false, frameE, List.map_cons, List.map_nil, List.replicate_succ, List.replicate_zero, Nat.reduceSub, List.replicate, ix0, ix1, and_self, true_and, and_true, pow_10_18, forL_nil, forL_ap, kFor_ap, kFor2_nx, kFor2_ct, kFor2_bk, kFor2_rt, lenA_lst, lenA_tup, lenA_scr, lenA_dK, lenA_dT, addI_ap, k, k', c]
end K63
namespace K63
open PySem DR
/-! ### turned -/
def flip (sh : List (List Int)) (w : Nat) : List (List Int) := (List.range w).map fun b => sh.map fun r => r.getD b 0
theorem cp0_turned_ok {h w : Nat} {sh : List (List Int)} (s : Sheet h w sh) {b : Nat} (hb : b < w) (t : DT) : cp0_turned ⟨[.val (.int h), .val (.int w), .val (shP sh), .val (.int b), .no], t⟩ = .ok (.lst ((sh.map fun r => r.getD b 0).map .int), true) ⟨[.val (.int h), .val (.int w), .val (shP sh), .val (.int b), .no], t⟩ := by
  have h2 := s.h2
  refine (lcO_map0 (s1 := ⟨[.val (.int h), .val (.int w), .val (shP sh), .val (.int b), .no], t⟩) (ps := sh.map rowP) (fun p => match p with | .tup _ ps => ps.getD b .non | _ => .non) ?_ (fun p hp => ?_) (by rw [List.length_map, s.len]; exact small (by omega))).trans ?_
  · simp only [shP, seqS_ap, kSeq_nx, kSeq_rt, kSeq_bk, kSeq_ct, retS_ap, kRet_ap, retN_ap, exprS_ap, kNx_ap, ifS_ap, ifE_ap, ifO_ap, kIf_t, kIf_f, badS_ap, nextS_ap, setS_ap, kSet_v, kSet_o, cellS_ap, kCell_ap, parS_ap, kPar_2, kPar_3, kPar_4, putSl_v, putSl_o, asgS_ap, kAsg_ap, kAsg2_ap, asgT_nm, asgT_tp, asgTs_nil, asgTs_nm, augS_ap, kAug_ap, kAug1_ap, kAug2_ap, nameE_ap, kNm_v, kNm_o, nameB_ap, kNb_o, kNb_v, kNc_cell, kNd_ap, kNc_int, kNc_bl, kNc_non, kNc_str, kNc_tup, kNc_lst, kNc_scr, kNc_dK, kNc_dT, kNc_ins, kMod_o, kMod_c, kMc_ap, kMo_ap, kMd_ap, appE_ap, kAp_ap, kAp2_ap, appU_ok, setIxS_ap, kSi_ap, kSi2_ap, kSi3_ap, setU_lst, augIxS_ap, kAx_ap, kAx1_ap, kAx1b_ap, kAx2_ap, kAx3_ap, kAx4_ap, lixG_ok, sharedE_ap, kSh_ap, plainE_ap, kPl_ap, constE_ap, nilA_ap, consA_ap, kCo_ap, kCo2_ap, nilL_ap, consL_ap, tupE_ap, lstE_ap, kTu_ap, kLs_ap, kOp_ap, kOp_no, binO_ap, kBi_ap, kBi2_ap, binE_ap, kBe_ap, kBe2_ap, chainE_ap, kCh_ap, kCh2_ap, kCh3_t, kCh3_f, kCh4_ap, testE_ap, toB_ap, andE_ap, orE_ap, notE_ap, kAnd_t, kAnd_f, kOr_t, kOr_f, kNot_ap, andT_ap, orT_ap, notT_ap, kAndT_t, kAndT_f, kOrT_t, kOrT_f, kNotT_ap, negE_ap, kNeg_ap, callO_ap, kCall_ap, kFr_ap, kFr_exc, un1O_ap, kUn_ap, un1E_ap, kUe_ap, lenG_lst, lenG_tup, lenG_scr, tupG_lst, tupG_tup, listG_lst, listG_tup, intG_int, intG_bl, absG_int, ixN_ap, kIx_ap, kIx2_ap, kIx3_ap, ixE_ap, kIe_ap, kIe2_ap, ixG_lst, ixG_tup, ixG_scr, noQ_ap, someQ_ap, kSq_ap, cutO_ap, kCt_ap, kCt2_ap, kCt3_ap, cutN_ap, kCn_ap, kCn2_ap, kCn3_ap, kCn4_ap, newK_ap, newT_ap, seqI_ap, seqP_lst, seqP_tup, seqP_scr, range1I_ap, kR1_ap, range2I_ap, kR2_ap, kR2b_ap, forS_ap, bodyF_ap, kBody_rt, kBody_nx, kBody_exc, yesT_ap, ix0, ix1, allG_ok, anyG_ok, sumG_ok, bind_ok, bind_bad, bind_exc, noX_ok, isi_int_int, isi_int_bool, isi_tup_tup, isi_lst_lst, isi_lst_tup, isi_tup_lst, subI_ok, addI_ok, ltI_ok, leI_ok, gtI_ok, geI_ok, cmpI_ok, max2_ok, min2_ok, eq_int, mul_modL, List.set_cons_zero, List.set_cons_succ, List.length_cons, List.length_nil, List.nil_append, List.cons_append, Nat.reduceAdd, Nat.reduceLeDiff, Nat.reduceLT, Nat.le_refl, decide_true, decide_false, Bool.not_true, Bool.not_false, Bool.true_and, Bool.false_and, Bool.and_true, Bool.and_false, Bool.true_or, Bool.false_or, Bool.or_true, Bool.or_false, Bool.false_bne, Bool.true_bne, Int.reduceLT, Int.reduceLE, Int.reducePow, Int.reduceNeg, Int.reduceToNat, if_true, if_false, frameE, List.map_cons, List.map_nil, List.replicate_succ, List.replicate_zero, Nat.reduceSub, List.replicate, ix0, ix1, and_self, true_and, and_true, pow_10_18, forL_nil, forL_ap, kFor_ap, kFor2_nx, kFor2_ct, kFor2_bk, kFor2_rt, lenA_lst, lenA_tup, lenA_scr, lenA_dK, lenA_dT, addI_ap]
  · obtain ⟨r', hr, rfl⟩ := List.mem_map.mp hp
    have rl := s.row r' hr
    have i := ix_row (c := false) (r := r') (b := b) (by omega)
    refine ⟨_, rfl, ?_⟩
    have g : (r'.map PV.int).getD b .non = .int (r'.getD b 0) := by
      simp only [List.getD_eq_getElem?_getD, List.getElem?_map, List.getElem?_eq_getElem (show b < r'.length by omega), Option.map_some, Option.getD_some]
    simp only [wipeE, rowP, i, seqS_ap, kSeq_nx, kSeq_rt, kSeq_bk, kSeq_ct, retS_ap, kRet_ap, retN_ap, exprS_ap, kNx_ap, ifS_ap, ifE_ap, ifO_ap, kIf_t, kIf_f, badS_ap, nextS_ap, setS_ap, kSet_v, kSet_o, cellS_ap, kCell_ap, parS_ap, kPar_2, kPar_3, kPar_4, putSl_v, putSl_o, asgS_ap, kAsg_ap, kAsg2_ap, asgT_nm, asgT_tp, asgTs_nil, asgTs_nm, augS_ap, kAug_ap, kAug1_ap, kAug2_ap, nameE_ap, kNm_v, kNm_o, nameB_ap, kNb_o, kNb_v, kNc_cell, kNd_ap, kNc_int, kNc_bl, kNc_non, kNc_str, kNc_tup, kNc_lst, kNc_scr, kNc_dK, kNc_dT, kNc_ins, kMod_o, kMod_c, kMc_ap, kMo_ap, kMd_ap, appE_ap, kAp_ap, kAp2_ap, appU_ok, setIxS_ap, kSi_ap, kSi2_ap, kSi3_ap, setU_lst, augIxS_ap, kAx_ap, kAx1_ap, kAx1b_ap, kAx2_ap, kAx3_ap, kAx4_ap, lixG_ok, sharedE_ap, kSh_ap, plainE_ap, kPl_ap, constE_ap, nilA_ap, consA_ap, kCo_ap, kCo2_ap, nilL_ap, consL_ap, tupE_ap, lstE_ap, kTu_ap, kLs_ap, kOp_ap, kOp_no, binO_ap, kBi_ap, kBi2_ap, binE_ap, kBe_ap, kBe2_ap, chainE_ap, kCh_ap, kCh2_ap, kCh3_t, kCh3_f, kCh4_ap, testE_ap, toB_ap, andE_ap, orE_ap, notE_ap, kAnd_t, kAnd_f, kOr_t, kOr_f, kNot_ap, andT_ap, orT_ap, notT_ap, kAndT_t, kAndT_f, kOrT_t, kOrT_f, kNotT_ap, negE_ap, kNeg_ap, callO_ap, kCall_ap, kFr_ap, kFr_exc, un1O_ap, kUn_ap, un1E_ap, kUe_ap, lenG_lst, lenG_tup, lenG_scr, tupG_lst, tupG_tup, listG_lst, listG_tup, intG_int, intG_bl, absG_int, ixN_ap, kIx_ap, kIx2_ap, kIx3_ap, ixE_ap, kIe_ap, kIe2_ap, ixG_lst, ixG_tup, ixG_scr, noQ_ap, someQ_ap, kSq_ap, cutO_ap, kCt_ap, kCt2_ap, kCt3_ap, cutN_ap, kCn_ap, kCn2_ap, kCn3_ap, kCn4_ap, newK_ap, newT_ap, seqI_ap, seqP_lst, seqP_tup, seqP_scr, range1I_ap, kR1_ap, range2I_ap, kR2_ap, kR2b_ap, forS_ap, bodyF_ap, kBody_rt, kBody_nx, kBody_exc, yesT_ap, ix0, ix1, allG_ok, anyG_ok, sumG_ok, bind_ok, bind_bad, bind_exc, noX_ok, isi_int_int, isi_int_bool, isi_tup_tup, isi_lst_lst, isi_lst_tup, isi_tup_lst, subI_ok, addI_ok, ltI_ok, leI_ok, gtI_ok, geI_ok, cmpI_ok, max2_ok, min2_ok, eq_int, mul_modL, List.set_cons_zero, List.set_cons_succ, List.length_cons, List.length_nil, List.nil_append, List.cons_append, Nat.reduceAdd, Nat.reduceLeDiff, Nat.reduceLT, Nat.le_refl, decide_true, decide_false, Bool.not_true, Bool.not_false, Bool.true_and, Bool.false_and, Bool.and_true, Bool.and_false, Bool.true_or, Bool.false_or, Bool.or_true, Bool.or_false, Bool.false_bne, Bool.true_bne, Int.reduceLT, Int.reduceLE, Int.reducePow, Int.reduceNeg, Int.reduceToNat, if_true, if_false, frameE, List.map_cons, List.map_nil, List.replicate_succ, List.replicate_zero, Nat.reduceSub, List.replicate, ix0, ix1, and_self, true_and, and_true, pow_10_18, forL_nil, forL_ap, kFor_ap, kFor2_nx, kFor2_ct, kFor2_bk, kFor2_rt, lenA_lst, lenA_tup, lenA_scr, lenA_dK, lenA_dT, addI_ap, g]
  · have e : ((sh.map rowP).map fun p => match p with | .tup _ ps => ps.getD b .non | _ => .non) = (sh.map fun r => r.getD b 0).map .int := by
      rw [List.map_map, List.map_map]
      refine List.map_congr_left fun r hr => ?_
      have rl := s.row r hr
      simp only [Function.comp_def, rowP, List.getD_eq_getElem?_getD, List.getElem?_map, List.getElem?_eq_getElem (show b < r.length by omega), Option.map_some, Option.getD_some]
    rw [e]
    rfl
theorem v_turned {h w : Nat} {sh : List (List Int)} (s : Sheet h w sh) (t : DT) : F_turned [.int h, .int w, shP sh] t = .ok (shP (flip sh w)) false t := by
  have h2 := s.h2
  have w2 := s.w2
  have k := v_check_heights s t
  have c : cp1_turned ⟨[.val (.int h), .val (.int w), .val (shP sh), .no, .no], t⟩ = .ok (.lst ((flip sh w).map rowP), true) ⟨[.val (.int h), .val (.int w), .val (shP sh), .no, .no], t⟩ := by
    refine (lcO_map0 (s1 := ⟨[.val (.int h), .val (.int w), .val (shP sh), .no, .no], t⟩) (ps := rangeP 0 w) (fun p => rowP (sh.map fun r => r.getD (toI p).toNat 0)) ?_ (fun p hp => ?_) (by rw [rangeP_len]; exact small (by omega))).trans ?_
    · simp only [seqS_ap, kSeq_nx, kSeq_rt, kSeq_bk, kSeq_ct, retS_ap, kRet_ap, retN_ap, exprS_ap, kNx_ap, ifS_ap, ifE_ap, ifO_ap, kIf_t, kIf_f, badS_ap, nextS_ap, setS_ap, kSet_v, kSet_o, cellS_ap, kCell_ap, parS_ap, kPar_2, kPar_3, kPar_4, putSl_v, putSl_o, asgS_ap, kAsg_ap, kAsg2_ap, asgT_nm, asgT_tp, asgTs_nil, asgTs_nm, augS_ap, kAug_ap, kAug1_ap, kAug2_ap, nameE_ap, kNm_v, kNm_o, nameB_ap, kNb_o, kNb_v, kNc_cell, kNd_ap, kNc_int, kNc_bl, kNc_non, kNc_str, kNc_tup, kNc_lst, kNc_scr, kNc_dK, kNc_dT, kNc_ins, kMod_o, kMod_c, kMc_ap, kMo_ap, kMd_ap, appE_ap, kAp_ap, kAp2_ap, appU_ok, setIxS_ap, kSi_ap, kSi2_ap, kSi3_ap, setU_lst, augIxS_ap, kAx_ap, kAx1_ap, kAx1b_ap, kAx2_ap, kAx3_ap, kAx4_ap, lixG_ok, sharedE_ap, kSh_ap, plainE_ap, kPl_ap, constE_ap, nilA_ap, consA_ap, kCo_ap, kCo2_ap, nilL_ap, consL_ap, tupE_ap, lstE_ap, kTu_ap, kLs_ap, kOp_ap, kOp_no, binO_ap, kBi_ap, kBi2_ap, binE_ap, kBe_ap, kBe2_ap, chainE_ap, kCh_ap, kCh2_ap, kCh3_t, kCh3_f, kCh4_ap, testE_ap, toB_ap, andE_ap, orE_ap, notE_ap, kAnd_t, kAnd_f, kOr_t, kOr_f, kNot_ap, andT_ap, orT_ap, notT_ap, kAndT_t, kAndT_f, kOrT_t, kOrT_f, kNotT_ap, negE_ap, kNeg_ap, callO_ap, kCall_ap, kFr_ap, kFr_exc, un1O_ap, kUn_ap, un1E_ap, kUe_ap, lenG_lst, lenG_tup, lenG_scr, tupG_lst, tupG_tup, listG_lst, listG_tup, intG_int, intG_bl, absG_int, ixN_ap, kIx_ap, kIx2_ap, kIx3_ap, ixE_ap, kIe_ap, kIe2_ap, ixG_lst, ixG_tup, ixG_scr, noQ_ap, someQ_ap, kSq_ap, cutO_ap, kCt_ap, kCt2_ap, kCt3_ap, cutN_ap, kCn_ap, kCn2_ap, kCn3_ap, kCn4_ap, newK_ap, newT_ap, seqI_ap, seqP_lst, seqP_tup, seqP_scr, range1I_ap, kR1_ap, range2I_ap, kR2_ap, kR2b_ap, forS_ap, bodyF_ap, kBody_rt, kBody_nx, kBody_exc, yesT_ap, ix0, ix1, allG_ok, anyG_ok, sumG_ok, bind_ok, bind_bad, bind_exc, noX_ok, isi_int_int, isi_int_bool, isi_tup_tup, isi_lst_lst, isi_lst_tup, isi_tup_lst, subI_ok, addI_ok, ltI_ok, leI_ok, gtI_ok, geI_ok, cmpI_ok, max2_ok, min2_ok, eq_int, mul_modL, List.set_cons_zero, List.set_cons_succ, List.length_cons, List.length_nil, List.nil_append, List.cons_append, Nat.reduceAdd, Nat.reduceLeDiff, Nat.reduceLT, Nat.le_refl, decide_true, decide_false, Bool.not_true, Bool.not_false, Bool.true_and, Bool.false_and, Bool.and_true, Bool.and_false, Bool.true_or, Bool.false_or, Bool.or_true, Bool.or_false, Bool.false_bne, Bool.true_bne, Int.reduceLT, Int.reduceLE, Int.reducePow, Int.reduceNeg, Int.reduceToNat, if_true, if_false, frameE, List.map_cons, List.map_nil, List.replicate_succ, List.replicate_zero, Nat.reduceSub, List.replicate, ix0, ix1, and_self, true_and, and_true, pow_10_18, forL_nil, forL_ap, kFor_ap, kFor2_nx, kFor2_ct, kFor2_bk, kFor2_rt, lenA_lst, lenA_tup, lenA_scr, lenA_dK, lenA_dT, addI_ap, kR1_ap (x := (w : Int)) (by omega) (by omega), Int.toNat_natCast]
    · obtain ⟨b, hb, rfl⟩ := mem_rangeP0 hp
      have c0 := cp0_turned_ok s hb t
      refine ⟨_, rfl, ?_⟩
      simp only [shP] at c0
      simp only [wipeE, shP, seqS_ap, kSeq_nx, kSeq_rt, kSeq_bk, kSeq_ct, retS_ap, kRet_ap, retN_ap, exprS_ap, kNx_ap, ifS_ap, ifE_ap, ifO_ap, kIf_t, kIf_f, badS_ap, nextS_ap, setS_ap, kSet_v, kSet_o, cellS_ap, kCell_ap, parS_ap, kPar_2, kPar_3, kPar_4, putSl_v, putSl_o, asgS_ap, kAsg_ap, kAsg2_ap, asgT_nm, asgT_tp, asgTs_nil, asgTs_nm, augS_ap, kAug_ap, kAug1_ap, kAug2_ap, nameE_ap, kNm_v, kNm_o, nameB_ap, kNb_o, kNb_v, kNc_cell, kNd_ap, kNc_int, kNc_bl, kNc_non, kNc_str, kNc_tup, kNc_lst, kNc_scr, kNc_dK, kNc_dT, kNc_ins, kMod_o, kMod_c, kMc_ap, kMo_ap, kMd_ap, appE_ap, kAp_ap, kAp2_ap, appU_ok, setIxS_ap, kSi_ap, kSi2_ap, kSi3_ap, setU_lst, augIxS_ap, kAx_ap, kAx1_ap, kAx1b_ap, kAx2_ap, kAx3_ap, kAx4_ap, lixG_ok, sharedE_ap, kSh_ap, plainE_ap, kPl_ap, constE_ap, nilA_ap, consA_ap, kCo_ap, kCo2_ap, nilL_ap, consL_ap, tupE_ap, lstE_ap, kTu_ap, kLs_ap, kOp_ap, kOp_no, binO_ap, kBi_ap, kBi2_ap, binE_ap, kBe_ap, kBe2_ap, chainE_ap, kCh_ap, kCh2_ap, kCh3_t, kCh3_f, kCh4_ap, testE_ap, toB_ap, andE_ap, orE_ap, notE_ap, kAnd_t, kAnd_f, kOr_t, kOr_f, kNot_ap, andT_ap, orT_ap, notT_ap, kAndT_t, kAndT_f, kOrT_t, kOrT_f, kNotT_ap, negE_ap, kNeg_ap, callO_ap, kCall_ap, kFr_ap, kFr_exc, un1O_ap, kUn_ap, un1E_ap, kUe_ap, lenG_lst, lenG_tup, lenG_scr, tupG_lst, tupG_tup, listG_lst, listG_tup, intG_int, intG_bl, absG_int, ixN_ap, kIx_ap, kIx2_ap, kIx3_ap, ixE_ap, kIe_ap, kIe2_ap, ixG_lst, ixG_tup, ixG_scr, noQ_ap, someQ_ap, kSq_ap, cutO_ap, kCt_ap, kCt2_ap, kCt3_ap, cutN_ap, kCn_ap, kCn2_ap, kCn3_ap, kCn4_ap, newK_ap, newT_ap, seqI_ap, seqP_lst, seqP_tup, seqP_scr, range1I_ap, kR1_ap, range2I_ap, kR2_ap, kR2b_ap, forS_ap, bodyF_ap, kBody_rt, kBody_nx, kBody_exc, yesT_ap, ix0, ix1, allG_ok, anyG_ok, sumG_ok, bind_ok, bind_bad, bind_exc, noX_ok, isi_int_int, isi_int_bool, isi_tup_tup, isi_lst_lst, isi_lst_tup, isi_tup_lst, subI_ok, addI_ok, ltI_ok, leI_ok, gtI_ok, geI_ok, cmpI_ok, max2_ok, min2_ok, eq_int, mul_modL, List.set_cons_zero, List.set_cons_succ, List.length_cons, List.length_nil, List.nil_append, List.cons_append, Nat.reduceAdd, Nat.reduceLeDiff, Nat.reduceLT, Nat.le_refl, decide_true, decide_false, Bool.not_true, Bool.not_false, Bool.true_and, Bool.false_and, Bool.and_true, Bool.and_false, Bool.true_or, Bool.false_or, Bool.or_true, Bool.or_false, Bool.false_bne, Bool.true_bne, Int.reduceLT, Int.reduceLE, Int.reducePow, Int.reduceNeg, Int.reduceToNat, if_true, if_false, frameE, List.map_cons, List.map_nil, List.replicate_succ, List.replicate_zero, Nat.reduceSub, List.replicate, ix0, ix1, and_self, true_and, and_true, pow_10_18, forL_nil, forL_ap, kFor_ap, kFor2_nx, kFor2_ct, kFor2_bk, kFor2_rt, lenA_lst, lenA_tup, lenA_scr, lenA_dK, lenA_dT, addI_ap, c0, toI, Int.toNat_natCast]
    · have e : ((rangeP 0 w).map fun p => rowP (sh.map fun r => r.getD (toI p).toNat 0)) = (flip sh w).map rowP := by
        rw [rangeP0, flip, List.map_map, List.map_map]
        rfl
      rw [e]
      rfl
  simp only [shP] at c k
  simp only [F_turned, b_turned, shP, seqS_ap, kSeq_nx, kSeq_rt, kSeq_bk, kSeq_ct, retS_ap, kRet_ap, retN_ap, exprS_ap, kNx_ap, ifS_ap, ifE_ap, ifO_ap, kIf_t, kIf_f, badS_ap, nextS_ap, setS_ap, kSet_v, kSet_o, cellS_ap, kCell_ap, parS_ap, kPar_2, kPar_3, kPar_4, putSl_v, putSl_o, asgS_ap, kAsg_ap, kAsg2_ap, asgT_nm, asgT_tp, asgTs_nil, asgTs_nm, augS_ap, kAug_ap, kAug1_ap, kAug2_ap, nameE_ap, kNm_v, kNm_o, nameB_ap, kNb_o, kNb_v, kNc_cell, kNd_ap, kNc_int, kNc_bl, kNc_non, kNc_str, kNc_tup, kNc_lst, kNc_scr, kNc_dK, kNc_dT, kNc_ins, kMod_o, kMod_c, kMc_ap, kMo_ap, kMd_ap, appE_ap, kAp_ap, kAp2_ap, appU_ok, setIxS_ap, kSi_ap, kSi2_ap, kSi3_ap, setU_lst, augIxS_ap, kAx_ap, kAx1_ap, kAx1b_ap, kAx2_ap, kAx3_ap, kAx4_ap, lixG_ok, sharedE_ap, kSh_ap, plainE_ap, kPl_ap, constE_ap, nilA_ap, consA_ap, kCo_ap, kCo2_ap, nilL_ap, consL_ap, tupE_ap, lstE_ap, kTu_ap, kLs_ap, kOp_ap, kOp_no, binO_ap, kBi_ap, kBi2_ap, binE_ap, kBe_ap, kBe2_ap, chainE_ap, kCh_ap, kCh2_ap, kCh3_t, kCh3_f, kCh4_ap, testE_ap, toB_ap, andE_ap, orE_ap, notE_ap, kAnd_t, kAnd_f, kOr_t, kOr_f, kNot_ap, andT_ap, orT_ap, notT_ap, kAndT_t, kAndT_f, kOrT_t, kOrT_f, kNotT_ap, negE_ap, kNeg_ap, callO_ap, kCall_ap, kFr_ap, kFr_exc, un1O_ap, kUn_ap, un1E_ap, kUe_ap, lenG_lst, lenG_tup, lenG_scr, tupG_lst, tupG_tup, listG_lst, listG_tup, intG_int, intG_bl, absG_int, ixN_ap, kIx_ap, kIx2_ap, kIx3_ap, ixE_ap, kIe_ap, kIe2_ap, ixG_lst, ixG_tup, ixG_scr, noQ_ap, someQ_ap, kSq_ap, cutO_ap, kCt_ap, kCt2_ap, kCt3_ap, cutN_ap, kCn_ap, kCn2_ap, kCn3_ap, kCn4_ap, newK_ap, newT_ap, seqI_ap, seqP_lst, seqP_tup, seqP_scr, range1I_ap, kR1_ap, range2I_ap, kR2_ap, kR2b_ap, forS_ap, bodyF_ap, kBody_rt, kBody_nx, kBody_exc, yesT_ap, ix0, ix1, allG_ok, anyG_ok, sumG_ok, bind_ok, bind_bad, bind_exc, noX_ok, isi_int_int, isi_int_bool, isi_tup_tup, isi_lst_lst, isi_lst_tup, isi_tup_lst, subI_ok, addI_ok, ltI_ok, leI_ok, gtI_ok, geI_ok, cmpI_ok, max2_ok, min2_ok, eq_int, mul_modL, List.set_cons_zero, List.set_cons_succ, List.length_cons, List.length_nil, List.nil_append, List.cons_append, Nat.reduceAdd, Nat.reduceLeDiff, Nat.reduceLT, Nat.le_refl, decide_true, decide_false, Bool.not_true, Bool.not_false, Bool.true_and, Bool.false_and, Bool.and_true, Bool.and_false, Bool.true_or, Bool.false_or, Bool.or_true, Bool.or_false, Bool.false_bne, Bool.true_bne, Int.reduceLT, Int.reduceLE, Int.reducePow, Int.reduceNeg, Int.reduceToNat, if_true, if_false, frameE, List.map_cons, List.map_nil, List.replicate_succ, List.replicate_zero, Nat.reduceSub, List.replicate, ix0, ix1, and_self, true_and, and_true, pow_10_18, forL_nil, forL_ap, kFor_ap, kFor2_nx, kFor2_ct, kFor2_bk, kFor2_rt, lenA_lst, lenA_tup, lenA_scr, lenA_dK, lenA_dT, addI_ap, k, c]
/-! ### a list of places -/
theorem nodup_bound : ∀ (n : Nat) (l : List Nat), l.Nodup → (∀ x ∈ l, x < n) → l.length ≤ n
  | 0, l, _, h => by
    cases l with
    | nil => simp
    | cons a l => exact absurd (h a List.mem_cons_self) (by omega)
  | n + 1, l, hd, h => by
    have h1 : (l.erase n).length ≤ n := nodup_bound n (l.erase n) (hd.erase n) fun x hx => by
      have := (hd.mem_erase_iff).mp hx
      have := h x this.2
      omega
    by_cases hm : n ∈ l
    · rw [List.length_erase_of_mem hm] at h1
      omega
    · rw [List.erase_of_not_mem hm] at h1
      omega
/-- places of a board of h rows of w -/
def Board (h w : Nat) (l : List (Int × Int)) : Prop := l.Nodup ∧ ∀ x ∈ l, 0 ≤ x.1 ∧ x.1 < h ∧ 0 ≤ x.2 ∧ x.2 < w
theorem Board.le {h w : Nat} {l : List (Int × Int)} (b : Board h w l) : l.length ≤ h * w := by
  obtain ⟨hd, hb⟩ := b
  have e : (l.map fun x => x.1.toNat * w + x.2.toNat).length ≤ h * w := by
    refine nodup_bound _ _ ?_ fun y hy => ?_
    · rw [List.Nodup, List.pairwise_map]
      refine List.Pairwise.imp_of_mem (fun {x y} hx hy hne z => hne ?_) hd
      have hx := hb x hx
      have hy := hb y hy
      have hw : 0 < w := by omega
      have d1 : (x.1.toNat * w + x.2.toNat) / w = x.1.toNat := by
        rw [Nat.mul_comm, Nat.mul_add_div hw, Nat.div_eq_of_lt (by omega)]; omega
      have d2 : (y.1.toNat * w + y.2.toNat) / w = y.1.toNat := by
        rw [Nat.mul_comm, Nat.mul_add_div hw, Nat.div_eq_of_lt (by omega)]; omega
      rw [z, d2] at d1
      rw [d1] at z
      have e1 : x.1 = y.1 := by omega
      have e2 : x.2 = y.2 := by omega
      exact Prod.ext e1 e2
    · obtain ⟨x, hx, rfl⟩ := List.mem_map.mp hy
      have := hb x hx
      have h1 : x.1.toNat + 1 ≤ h := by omega
      have h2 : (x.1.toNat + 1) * w ≤ h * w := Nat.mul_le_mul_right w h1
      rw [Nat.add_mul] at h2
      omega
  rwa [List.length_map] at e
theorem Board.snoc {h w : Nat} {l : List (Int × Int)} (b : Board h w l) {x : Int × Int} (hx : x ∉ l) (hb : 0 ≤ x.1 ∧ x.1 < h ∧ 0 ≤ x.2 ∧ x.2 < w) : Board h w (l ++ [x]) := by
  refine ⟨?_, fun y hy => ?_⟩
  · rw [List.nodup_append]
    refine ⟨b.1, by simp, fun y hy z hz e => ?_⟩
    rw [List.mem_singleton.mp hz] at e
    exact hx (e ▸ hy)
  · rcases List.mem_append.mp hy with z | z
    · exact b.2 y z
    · rw [List.mem_singleton.mp z]; exact hb
end K63
namespace K63
open PySem DR
theorem neg_pair {sh : List (List Int)} {h w : Nat} (s : Sheet h w sh) {a b : Int} {x : Int × Int} (ha : 0 ≤ a ∧ a < h) (hb : 0 ≤ b ∧ b < w) (h1 : 0 ≤ x.1 ∧ x.1 < h) (h2 : 0 ≤ x.2 ∧ x.2 < w) (d1 : x.1 ≤ a + 1 ∧ a ≤ x.1 + 1) (d2 : x.2 ≤ b + 1 ∧ b ≤ x.2 + 1) (hn : at2 sh a.toNat b.toNat < 0) (hz : at2 sh x.1.toNat x.2.toNat ≠ 0) : at2 sh x.1.toNat x.2.toNat < 0 := by
  have := s.stp x.1.toNat x.2.toNat a.toNat b.toNat (by omega) (by omega) (by omega) (by omega) (by omega) (by omega) (by omega) (by omega)
  omega
/-- the places found: on the board, below nought -/
def Low (sh : List (List Int)) (h w : Nat) (l : List (Int × Int)) : Prop := Board h w l ∧ ∀ x ∈ l, at2 sh x.1.toNat x.2.toNat < 0
theorem bd0_blocked {h w : Nat} {sh : List (List Int)} (s : Sheet h w sh) {a b : Int} (ha : 0 ≤ a ∧ a < h) (hb : 0 ≤ b ∧ b < w) (hn : at2 sh a.toNat b.toNat < 0) (l : List (Int × Int)) (hl : Low sh h w l) (x : Int × Int) (d1 : x.1 ≤ a + 1 ∧ a ≤ x.1 + 1) (d2 : x.2 ≤ b + 1 ∧ b ≤ x.2 + 1) (at_ p q : Sl) (t : DT) :
    ∃ l', Low sh h w l' ∧ l.length ≤ l'.length ∧ bd0__law_blocked ⟨[.val (shP sh), .val (.int h), .val (.int w), .own (.lst (l.map pairP)), at_, p, q, .val (pairP x)], t⟩ = .ok .nx ⟨[.val (shP sh), .val (.int h), .val (.int w), .own (.lst (l'.map pairP)), at_, p, q, .val (pairP x)], t⟩ := by
  have h2 := s.h2
  have w2 := s.w2
  have len : (l.map pairP).length < sizeLine := by
    have := hl.1.le
    have : h * w ≤ 8 * 8 := Nat.mul_le_mul h2 w2
    have : 100 ≤ sizeLine := by decide
    rw [List.length_map]
    omega
  by_cases g1 : 0 ≤ x.1
  · by_cases g2 : x.1 < h
    · by_cases g3 : 0 ≤ x.2
      · by_cases g4 : x.2 < w
        · by_cases g5 : x ∈ l
          · refine ⟨l, hl, Nat.le_refl _, ?_⟩
            have m := inG_pairs true x l
            simp only [g5, decide_true, Bool.bne_true, Bool.not_true, bne_self_eq_false] at m
            simp only [bd0__law_blocked, shP, pairP] at *
            simp only [m, seqS_ap, kSeq_nx, kSeq_rt, kSeq_bk, kSeq_ct, retS_ap, kRet_ap, retN_ap, exprS_ap, kNx_ap, ifS_ap, ifE_ap, ifO_ap, kIf_t, kIf_f, badS_ap, nextS_ap, setS_ap, kSet_v, kSet_o, cellS_ap, kCell_ap, parS_ap, kPar_2, kPar_3, kPar_4, putSl_v, putSl_o, asgS_ap, kAsg_ap, kAsg2_ap, asgT_nm, asgT_tp, asgTs_nil, asgTs_nm, augS_ap, kAug_ap, kAug1_ap, kAug2_ap, nameE_ap, kNm_v, kNm_o, nameB_ap, kNb_o, kNb_v, kNc_cell, kNd_ap, kNc_int, kNc_bl, kNc_non, kNc_str, kNc_tup, kNc_lst, kNc_scr, kNc_dK, kNc_dT, kNc_ins, kMod_o, kMod_c, kMc_ap, kMo_ap, kMd_ap, appE_ap, kAp_ap, kAp2_ap, appU_ok, setIxS_ap, kSi_ap, kSi2_ap, kSi3_ap, setU_lst, augIxS_ap, kAx_ap, kAx1_ap, kAx1b_ap, kAx2_ap, kAx3_ap, kAx4_ap, lixG_ok, sharedE_ap, kSh_ap, plainE_ap, kPl_ap, constE_ap, nilA_ap, consA_ap, kCo_ap, kCo2_ap, nilL_ap, consL_ap, tupE_ap, lstE_ap, kTu_ap, kLs_ap, kOp_ap, kOp_no, binO_ap, kBi_ap, kBi2_ap, binE_ap, kBe_ap, kBe2_ap, chainE_ap, kCh_ap, kCh2_ap, kCh3_t, kCh3_f, kCh4_ap, testE_ap, toB_ap, andE_ap, orE_ap, notE_ap, kAnd_t, kAnd_f, kOr_t, kOr_f, kNot_ap, andT_ap, orT_ap, notT_ap, kAndT_t, kAndT_f, kOrT_t, kOrT_f, kNotT_ap, negE_ap, kNeg_ap, callO_ap, kCall_ap, kFr_ap, kFr_exc, un1O_ap, kUn_ap, un1E_ap, kUe_ap, lenG_lst, lenG_tup, lenG_scr, tupG_lst, tupG_tup, listG_lst, listG_tup, intG_int, intG_bl, absG_int, ixN_ap, kIx_ap, kIx2_ap, kIx3_ap, ixE_ap, kIe_ap, kIe2_ap, ixG_lst, ixG_tup, ixG_scr, noQ_ap, someQ_ap, kSq_ap, cutO_ap, kCt_ap, kCt2_ap, kCt3_ap, cutN_ap, kCn_ap, kCn2_ap, kCn3_ap, kCn4_ap, newK_ap, newT_ap, seqI_ap, seqP_lst, seqP_tup, seqP_scr, range1I_ap, kR1_ap, range2I_ap, kR2_ap, kR2b_ap, forS_ap, bodyF_ap, kBody_rt, kBody_nx, kBody_exc, yesT_ap, ix0, ix1, allG_ok, anyG_ok, sumG_ok, bind_ok, bind_bad, bind_exc, noX_ok, isi_int_int, isi_int_bool, isi_tup_tup, isi_lst_lst, isi_lst_tup, isi_tup_lst, subI_ok, addI_ok, ltI_ok, leI_ok, gtI_ok, geI_ok, cmpI_ok, max2_ok, min2_ok, eq_int, mul_modL, List.set_cons_zero, List.set_cons_succ, List.length_cons, List.length_nil, List.nil_append, List.cons_append, Nat.reduceAdd, Nat.reduceLeDiff, Nat.reduceLT, Nat.le_refl, decide_true, decide_false, Bool.not_true, Bool.not_false, Bool.true_and, Bool.false_and, Bool.and_true, Bool.and_false, Bool.true_or, Bool.false_or, Bool.or_true, Bool.or_false, Bool.false_bne, Bool.true_bne, Int.reduceLT, Int.reduceLE, Int.reducePow, Int.reduceNeg, Int.reduceToNat, if_true, if_false, frameE, List.map_cons, List.map_nil, List.replicate_succ, List.replicate_zero, Nat.reduceSub, List.replicate, ix0, ix1, and_self, true_and, and_true, pow_10_18, forL_nil, forL_ap, kFor_ap, kFor2_nx, kFor2_ct, kFor2_bk, kFor2_rt, lenA_lst, lenA_tup, lenA_scr, lenA_dK, lenA_dT, addI_ap, g1, g2, g3, g4]
          · have m := inG_pairs true x l
            have hr := s.rowLen (a := x.1.toNat) (by omega)
            have i1 := ix_shI (c := false) (sh := sh) (i := x.1) g1 (by rw [s.len]; omega)
            have i2 := ix_rowI (c := false) (r := sh.getD x.1.toNat []) (i := x.2) g3 (by rw [hr]; omega)
            by_cases z : (sh.getD x.1.toNat []).getD x.2.toNat 0 = 0
            · refine ⟨l, hl, Nat.le_refl _, ?_⟩
              simp only [g5, decide_false, Bool.bne_false, Bool.true_bne, Bool.not_false] at m
              simp only [bd0__law_blocked, shP, pairP] at *
              simp only [m, i1, i2, rowP, z, seqS_ap, kSeq_nx, kSeq_rt, kSeq_bk, kSeq_ct, retS_ap, kRet_ap, retN_ap, exprS_ap, kNx_ap, ifS_ap, ifE_ap, ifO_ap, kIf_t, kIf_f, badS_ap, nextS_ap, setS_ap, kSet_v, kSet_o, cellS_ap, kCell_ap, parS_ap, kPar_2, kPar_3, kPar_4, putSl_v, putSl_o, asgS_ap, kAsg_ap, kAsg2_ap, asgT_nm, asgT_tp, asgTs_nil, asgTs_nm, augS_ap, kAug_ap, kAug1_ap, kAug2_ap, nameE_ap, kNm_v, kNm_o, nameB_ap, kNb_o, kNb_v, kNc_cell, kNd_ap, kNc_int, kNc_bl, kNc_non, kNc_str, kNc_tup, kNc_lst, kNc_scr, kNc_dK, kNc_dT, kNc_ins, kMod_o, kMod_c, kMc_ap, kMo_ap, kMd_ap, appE_ap, kAp_ap, kAp2_ap, appU_ok, setIxS_ap, kSi_ap, kSi2_ap, kSi3_ap, setU_lst, augIxS_ap, kAx_ap, kAx1_ap, kAx1b_ap, kAx2_ap, kAx3_ap, kAx4_ap, lixG_ok, sharedE_ap, kSh_ap, plainE_ap, kPl_ap, constE_ap, nilA_ap, consA_ap, kCo_ap, kCo2_ap, nilL_ap, consL_ap, tupE_ap, lstE_ap, kTu_ap, kLs_ap, kOp_ap, kOp_no, binO_ap, kBi_ap, kBi2_ap, binE_ap, kBe_ap, kBe2_ap, chainE_ap, kCh_ap, kCh2_ap, kCh3_t, kCh3_f, kCh4_ap, testE_ap, toB_ap, andE_ap, orE_ap, notE_ap, kAnd_t, kAnd_f, kOr_t, kOr_f, kNot_ap, andT_ap, orT_ap, notT_ap, kAndT_t, kAndT_f, kOrT_t, kOrT_f, kNotT_ap, negE_ap, kNeg_ap, callO_ap, kCall_ap, kFr_ap, kFr_exc, un1O_ap, kUn_ap, un1E_ap, kUe_ap, lenG_lst, lenG_tup, lenG_scr, tupG_lst, tupG_tup, listG_lst, listG_tup, intG_int, intG_bl, absG_int, ixN_ap, kIx_ap, kIx2_ap, kIx3_ap, ixE_ap, kIe_ap, kIe2_ap, ixG_lst, ixG_tup, ixG_scr, noQ_ap, someQ_ap, kSq_ap, cutO_ap, kCt_ap, kCt2_ap, kCt3_ap, cutN_ap, kCn_ap, kCn2_ap, kCn3_ap, kCn4_ap, newK_ap, newT_ap, seqI_ap, seqP_lst, seqP_tup, seqP_scr, range1I_ap, kR1_ap, range2I_ap, kR2_ap, kR2b_ap, forS_ap, bodyF_ap, kBody_rt, kBody_nx, kBody_exc, yesT_ap, ix0, ix1, allG_ok, anyG_ok, sumG_ok, bind_ok, bind_bad, bind_exc, noX_ok, isi_int_int, isi_int_bool, isi_tup_tup, isi_lst_lst, isi_lst_tup, isi_tup_lst, subI_ok, addI_ok, ltI_ok, leI_ok, gtI_ok, geI_ok, cmpI_ok, max2_ok, min2_ok, eq_int, mul_modL, List.set_cons_zero, List.set_cons_succ, List.length_cons, List.length_nil, List.nil_append, List.cons_append, Nat.reduceAdd, Nat.reduceLeDiff, Nat.reduceLT, Nat.le_refl, decide_true, decide_false, Bool.not_true, Bool.not_false, Bool.true_and, Bool.false_and, Bool.and_true, Bool.and_false, Bool.true_or, Bool.false_or, Bool.or_true, Bool.or_false, Bool.false_bne, Bool.true_bne, Int.reduceLT, Int.reduceLE, Int.reducePow, Int.reduceNeg, Int.reduceToNat, if_true, if_false, frameE, List.map_cons, List.map_nil, List.replicate_succ, List.replicate_zero, Nat.reduceSub, List.replicate, ix0, ix1, and_self, true_and, and_true, pow_10_18, forL_nil, forL_ap, kFor_ap, kFor2_nx, kFor2_ct, kFor2_bk, kFor2_rt, lenA_lst, lenA_tup, lenA_scr, lenA_dK, lenA_dT, addI_ap, g1, g2, g3, g4]
            · refine ⟨l ++ [x], ⟨hl.1.snoc g5 ⟨g1, g2, g3, g4⟩, fun y hy => ?_⟩, by simp, ?_⟩
              · rcases List.mem_append.mp hy with k | k
                · exact hl.2 y k
                · rw [List.mem_singleton.mp k]
                  exact neg_pair s ha hb ⟨g1, g2⟩ ⟨g3, g4⟩ d1 d2 hn z
              · simp only [g5, decide_false, Bool.bne_false, Bool.true_bne, Bool.not_false] at m
                simp only [bd0__law_blocked, shP, pairP] at *
                simp only [m, i1, i2, rowP, z, seqS_ap, kSeq_nx, kSeq_rt, kSeq_bk, kSeq_ct, retS_ap, kRet_ap, retN_ap, exprS_ap, kNx_ap, ifS_ap, ifE_ap, ifO_ap, kIf_t, kIf_f, badS_ap, nextS_ap, setS_ap, kSet_v, kSet_o, cellS_ap, kCell_ap, parS_ap, kPar_2, kPar_3, kPar_4, putSl_v, putSl_o, asgS_ap, kAsg_ap, kAsg2_ap, asgT_nm, asgT_tp, asgTs_nil, asgTs_nm, augS_ap, kAug_ap, kAug1_ap, kAug2_ap, nameE_ap, kNm_v, kNm_o, nameB_ap, kNb_o, kNb_v, kNc_cell, kNd_ap, kNc_int, kNc_bl, kNc_non, kNc_str, kNc_tup, kNc_lst, kNc_scr, kNc_dK, kNc_dT, kNc_ins, kMod_o, kMod_c, kMc_ap, kMo_ap, kMd_ap, appE_ap, kAp_ap, kAp2_ap, appU_ok, setIxS_ap, kSi_ap, kSi2_ap, kSi3_ap, setU_lst, augIxS_ap, kAx_ap, kAx1_ap, kAx1b_ap, kAx2_ap, kAx3_ap, kAx4_ap, lixG_ok, sharedE_ap, kSh_ap, plainE_ap, kPl_ap, constE_ap, nilA_ap, consA_ap, kCo_ap, kCo2_ap, nilL_ap, consL_ap, tupE_ap, lstE_ap, kTu_ap, kLs_ap, kOp_ap, kOp_no, binO_ap, kBi_ap, kBi2_ap, binE_ap, kBe_ap, kBe2_ap, chainE_ap, kCh_ap, kCh2_ap, kCh3_t, kCh3_f, kCh4_ap, testE_ap, toB_ap, andE_ap, orE_ap, notE_ap, kAnd_t, kAnd_f, kOr_t, kOr_f, kNot_ap, andT_ap, orT_ap, notT_ap, kAndT_t, kAndT_f, kOrT_t, kOrT_f, kNotT_ap, negE_ap, kNeg_ap, callO_ap, kCall_ap, kFr_ap, kFr_exc, un1O_ap, kUn_ap, un1E_ap, kUe_ap, lenG_lst, lenG_tup, lenG_scr, tupG_lst, tupG_tup, listG_lst, listG_tup, intG_int, intG_bl, absG_int, ixN_ap, kIx_ap, kIx2_ap, kIx3_ap, ixE_ap, kIe_ap, kIe2_ap, ixG_lst, ixG_tup, ixG_scr, noQ_ap, someQ_ap, kSq_ap, cutO_ap, kCt_ap, kCt2_ap, kCt3_ap, cutN_ap, kCn_ap, kCn2_ap, kCn3_ap, kCn4_ap, newK_ap, newT_ap, seqI_ap, seqP_lst, seqP_tup, seqP_scr, range1I_ap, kR1_ap, range2I_ap, kR2_ap, kR2b_ap, forS_ap, bodyF_ap, kBody_rt, kBody_nx, kBody_exc, yesT_ap, ix0, ix1, allG_ok, anyG_ok, sumG_ok, bind_ok, bind_bad, bind_exc, noX_ok, isi_int_int, isi_int_bool, isi_tup_tup, isi_lst_lst, isi_lst_tup, isi_tup_lst, subI_ok, addI_ok, ltI_ok, leI_ok, gtI_ok, geI_ok, cmpI_ok, max2_ok, min2_ok, eq_int, mul_modL, List.set_cons_zero, List.set_cons_succ, List.length_cons, List.length_nil, List.nil_append, List.cons_append, Nat.reduceAdd, Nat.reduceLeDiff, Nat.reduceLT, Nat.le_refl, decide_true, decide_false, Bool.not_true, Bool.not_false, Bool.true_and, Bool.false_and, Bool.and_true, Bool.and_false, Bool.true_or, Bool.false_or, Bool.or_true, Bool.or_false, Bool.false_bne, Bool.true_bne, Int.reduceLT, Int.reduceLE, Int.reducePow, Int.reduceNeg, Int.reduceToNat, if_true, if_false, frameE, List.map_cons, List.map_nil, List.replicate_succ, List.replicate_zero, Nat.reduceSub, List.replicate, ix0, ix1, and_self, true_and, and_true, pow_10_18, forL_nil, forL_ap, kFor_ap, kFor2_nx, kFor2_ct, kFor2_bk, kFor2_rt, lenA_lst, lenA_tup, lenA_scr, lenA_dK, lenA_dT, addI_ap, g1, g2, g3, g4, appU_ok len, List.map_append]
        · exact ⟨l, hl, Nat.le_refl _, by simp only [bd0__law_blocked, shP, pairP, seqS_ap, kSeq_nx, kSeq_rt, kSeq_bk, kSeq_ct, retS_ap, kRet_ap, retN_ap, exprS_ap, kNx_ap, ifS_ap, ifE_ap, ifO_ap, kIf_t, kIf_f, badS_ap, nextS_ap, setS_ap, kSet_v, kSet_o, cellS_ap, kCell_ap, parS_ap, kPar_2, kPar_3, kPar_4, putSl_v, putSl_o, asgS_ap, kAsg_ap, kAsg2_ap, asgT_nm, asgT_tp, asgTs_nil, asgTs_nm, augS_ap, kAug_ap, kAug1_ap, kAug2_ap, nameE_ap, kNm_v, kNm_o, nameB_ap, kNb_o, kNb_v, kNc_cell, kNd_ap, kNc_int, kNc_bl, kNc_non, kNc_str, kNc_tup, kNc_lst, kNc_scr, kNc_dK, kNc_dT, kNc_ins, kMod_o, kMod_c, kMc_ap, kMo_ap, kMd_ap, appE_ap, kAp_ap, kAp2_ap, appU_ok, setIxS_ap, kSi_ap, kSi2_ap, kSi3_ap, setU_lst, augIxS_ap, kAx_ap, kAx1_ap, kAx1b_ap, kAx2_ap, kAx3_ap, kAx4_ap, lixG_ok, sharedE_ap, kSh_ap, plainE_ap, kPl_ap, constE_ap, nilA_ap, consA_ap, kCo_ap, kCo2_ap, nilL_ap, consL_ap, tupE_ap, lstE_ap, kTu_ap, kLs_ap, kOp_ap, kOp_no, binO_ap, kBi_ap, kBi2_ap, binE_ap, kBe_ap, kBe2_ap, chainE_ap, kCh_ap, kCh2_ap, kCh3_t, kCh3_f, kCh4_ap, testE_ap, toB_ap, andE_ap, orE_ap, notE_ap, kAnd_t, kAnd_f, kOr_t, kOr_f, kNot_ap, andT_ap, orT_ap, notT_ap, kAndT_t, kAndT_f, kOrT_t, kOrT_f, kNotT_ap, negE_ap, kNeg_ap, callO_ap, kCall_ap, kFr_ap, kFr_exc, un1O_ap, kUn_ap, un1E_ap, kUe_ap, lenG_lst, lenG_tup, lenG_scr, tupG_lst, tupG_tup, listG_lst, listG_tup, intG_int, intG_bl, absG_int, ixN_ap, kIx_ap, kIx2_ap, kIx3_ap, ixE_ap, kIe_ap, kIe2_ap, ixG_lst, ixG_tup, ixG_scr, noQ_ap, someQ_ap, kSq_ap, cutO_ap, kCt_ap, kCt2_ap, kCt3_ap, cutN_ap, kCn_ap, kCn2_ap, kCn3_ap, kCn4_ap, newK_ap, newT_ap, seqI_ap, seqP_lst, seqP_tup, seqP_scr, range1I_ap, kR1_ap, range2I_ap, kR2_ap, kR2b_ap, forS_ap, bodyF_ap, kBody_rt, kBody_nx, kBody_exc, yesT_ap, ix0, ix1, allG_ok, anyG_ok, sumG_ok, bind_ok, bind_bad, bind_exc, noX_ok, isi_int_int, isi_int_bool, isi_tup_tup, isi_lst_lst, isi_lst_tup, isi_tup_lst, subI_ok, addI_ok, ltI_ok, leI_ok, gtI_ok, geI_ok, cmpI_ok, max2_ok, min2_ok, eq_int, mul_modL, List.set_cons_zero, List.set_cons_succ, List.length_cons, List.length_nil, List.nil_append, List.cons_append, Nat.reduceAdd, Nat.reduceLeDiff, Nat.reduceLT, Nat.le_refl, decide_true, decide_false, Bool.not_true, Bool.not_false, Bool.true_and, Bool.false_and, Bool.and_true, Bool.and_false, Bool.true_or, Bool.false_or, Bool.or_true, Bool.or_false, Bool.false_bne, Bool.true_bne, Int.reduceLT, Int.reduceLE, Int.reducePow, Int.reduceNeg, Int.reduceToNat, if_true, if_false, frameE, List.map_cons, List.map_nil, List.replicate_succ, List.replicate_zero, Nat.reduceSub, List.replicate, ix0, ix1, and_self, true_and, and_true, pow_10_18, forL_nil, forL_ap, kFor_ap, kFor2_nx, kFor2_ct, kFor2_bk, kFor2_rt, lenA_lst, lenA_tup, lenA_scr, lenA_dK, lenA_dT, addI_ap, g1, g2, g3, g4]⟩
      · exact ⟨l, hl, Nat.le_refl _, by simp only [bd0__law_blocked, shP, pairP, seqS_ap, kSeq_nx, kSeq_rt, kSeq_bk, kSeq_ct, retS_ap, kRet_ap, retN_ap, exprS_ap, kNx_ap, ifS_ap, ifE_ap, ifO_ap, kIf_t, kIf_f, badS_ap, nextS_ap, setS_ap, kSet_v, kSet_o, cellS_ap, kCell_ap, parS_ap, kPar_2, kPar_3, kPar_4, putSl_v, putSl_o, asgS_ap, kAsg_ap, kAsg2_ap, asgT_nm, asgT_tp, asgTs_nil, asgTs_nm, augS_ap, kAug_ap, kAug1_ap, kAug2_ap, nameE_ap, kNm_v, kNm_o, nameB_ap, kNb_o, kNb_v, kNc_cell, kNd_ap, kNc_int, kNc_bl, kNc_non, kNc_str, kNc_tup, kNc_lst, kNc_scr, kNc_dK, kNc_dT, kNc_ins, kMod_o, kMod_c, kMc_ap, kMo_ap, kMd_ap, appE_ap, kAp_ap, kAp2_ap, appU_ok, setIxS_ap, kSi_ap, kSi2_ap, kSi3_ap, setU_lst, augIxS_ap, kAx_ap, kAx1_ap, kAx1b_ap, kAx2_ap, kAx3_ap, kAx4_ap, lixG_ok, sharedE_ap, kSh_ap, plainE_ap, kPl_ap, constE_ap, nilA_ap, consA_ap, kCo_ap, kCo2_ap, nilL_ap, consL_ap, tupE_ap, lstE_ap, kTu_ap, kLs_ap, kOp_ap, kOp_no, binO_ap, kBi_ap, kBi2_ap, binE_ap, kBe_ap, kBe2_ap, chainE_ap, kCh_ap, kCh2_ap, kCh3_t, kCh3_f, kCh4_ap, testE_ap, toB_ap, andE_ap, orE_ap, notE_ap, kAnd_t, kAnd_f, kOr_t, kOr_f, kNot_ap, andT_ap, orT_ap, notT_ap, kAndT_t, kAndT_f, kOrT_t, kOrT_f, kNotT_ap, negE_ap, kNeg_ap, callO_ap, kCall_ap, kFr_ap, kFr_exc, un1O_ap, kUn_ap, un1E_ap, kUe_ap, lenG_lst, lenG_tup, lenG_scr, tupG_lst, tupG_tup, listG_lst, listG_tup, intG_int, intG_bl, absG_int, ixN_ap, kIx_ap, kIx2_ap, kIx3_ap, ixE_ap, kIe_ap, kIe2_ap, ixG_lst, ixG_tup, ixG_scr, noQ_ap, someQ_ap, kSq_ap, cutO_ap, kCt_ap, kCt2_ap, kCt3_ap, cutN_ap, kCn_ap, kCn2_ap, kCn3_ap, kCn4_ap, newK_ap, newT_ap, seqI_ap, seqP_lst, seqP_tup, seqP_scr, range1I_ap, kR1_ap, range2I_ap, kR2_ap, kR2b_ap, forS_ap, bodyF_ap, kBody_rt, kBody_nx, kBody_exc, yesT_ap, ix0, ix1, allG_ok, anyG_ok, sumG_ok, bind_ok, bind_bad, bind_exc, noX_ok, isi_int_int, isi_int_bool, isi_tup_tup, isi_lst_lst, isi_lst_tup, isi_tup_lst, subI_ok, addI_ok, ltI_ok, leI_ok, gtI_ok, geI_ok, cmpI_ok, max2_ok, min2_ok, eq_int, mul_modL, List.set_cons_zero, List.set_cons_succ, List.length_cons, List.length_nil, List.nil_append, List.cons_append, Nat.reduceAdd, Nat.reduceLeDiff, Nat.reduceLT, Nat.le_refl, decide_true, decide_false, Bool.not_true, Bool.not_false, Bool.true_and, Bool.false_and, Bool.and_true, Bool.and_false, Bool.true_or, Bool.false_or, Bool.or_true, Bool.or_false, Bool.false_bne, Bool.true_bne, Int.reduceLT, Int.reduceLE, Int.reducePow, Int.reduceNeg, Int.reduceToNat, if_true, if_false, frameE, List.map_cons, List.map_nil, List.replicate_succ, List.replicate_zero, Nat.reduceSub, List.replicate, ix0, ix1, and_self, true_and, and_true, pow_10_18, forL_nil, forL_ap, kFor_ap, kFor2_nx, kFor2_ct, kFor2_bk, kFor2_rt, lenA_lst, lenA_tup, lenA_scr, lenA_dK, lenA_dT, addI_ap, g1, g2, g3]⟩
    · exact ⟨l, hl, Nat.le_refl _, by simp only [bd0__law_blocked, shP, pairP, seqS_ap, kSeq_nx, kSeq_rt, kSeq_bk, kSeq_ct, retS_ap, kRet_ap, retN_ap, exprS_ap, kNx_ap, ifS_ap, ifE_ap, ifO_ap, kIf_t, kIf_f, badS_ap, nextS_ap, setS_ap, kSet_v, kSet_o, cellS_ap, kCell_ap, parS_ap, kPar_2, kPar_3, kPar_4, putSl_v, putSl_o, asgS_ap, kAsg_ap, kAsg2_ap, asgT_nm, asgT_tp, asgTs_nil, asgTs_nm, augS_ap, kAug_ap, kAug1_ap, kAug2_ap, nameE_ap, kNm_v, kNm_o, nameB_ap, kNb_o, kNb_v, kNc_cell, kNd_ap, kNc_int, kNc_bl, kNc_non, kNc_str, kNc_tup, kNc_lst, kNc_scr, kNc_dK, kNc_dT, kNc_ins, kMod_o, kMod_c, kMc_ap, kMo_ap, kMd_ap, appE_ap, kAp_ap, kAp2_ap, appU_ok, setIxS_ap, kSi_ap, kSi2_ap, kSi3_ap, setU_lst, augIxS_ap, kAx_ap, kAx1_ap, kAx1b_ap, kAx2_ap, kAx3_ap, kAx4_ap, lixG_ok, sharedE_ap, kSh_ap, plainE_ap, kPl_ap, constE_ap, nilA_ap, consA_ap, kCo_ap, kCo2_ap, nilL_ap, consL_ap, tupE_ap, lstE_ap, kTu_ap, kLs_ap, kOp_ap, kOp_no, binO_ap, kBi_ap, kBi2_ap, binE_ap, kBe_ap, kBe2_ap, chainE_ap, kCh_ap, kCh2_ap, kCh3_t, kCh3_f, kCh4_ap, testE_ap, toB_ap, andE_ap, orE_ap, notE_ap, kAnd_t, kAnd_f, kOr_t, kOr_f, kNot_ap, andT_ap, orT_ap, notT_ap, kAndT_t, kAndT_f, kOrT_t, kOrT_f, kNotT_ap, negE_ap, kNeg_ap, callO_ap, kCall_ap, kFr_ap, kFr_exc, un1O_ap, kUn_ap, un1E_ap, kUe_ap, lenG_lst, lenG_tup, lenG_scr, tupG_lst, tupG_tup, listG_lst, listG_tup, intG_int, intG_bl, absG_int, ixN_ap, kIx_ap, kIx2_ap, kIx3_ap, ixE_ap, kIe_ap, kIe2_ap, ixG_lst, ixG_tup, ixG_scr, noQ_ap, someQ_ap, kSq_ap, cutO_ap, kCt_ap, kCt2_ap, kCt3_ap, cutN_ap, kCn_ap, kCn2_ap, kCn3_ap, kCn4_ap, newK_ap, newT_ap, seqI_ap, seqP_lst, seqP_tup, seqP_scr, range1I_ap, kR1_ap, range2I_ap, kR2_ap, kR2b_ap, forS_ap, bodyF_ap, kBody_rt, kBody_nx, kBody_exc, yesT_ap, ix0, ix1, allG_ok, anyG_ok, sumG_ok, bind_ok, bind_bad, bind_exc, noX_ok, isi_int_int, isi_int_bool, isi_tup_tup, isi_lst_lst, isi_lst_tup, isi_tup_lst, subI_ok, addI_ok, ltI_ok, leI_ok, gtI_ok, geI_ok, cmpI_ok, max2_ok, min2_ok, eq_int, mul_modL, List.set_cons_zero, List.set_cons_succ, List.length_cons, List.length_nil, List.nil_append, List.cons_append, Nat.reduceAdd, Nat.reduceLeDiff, Nat.reduceLT, Nat.le_refl, decide_true, decide_false, Bool.not_true, Bool.not_false, Bool.true_and, Bool.false_and, Bool.and_true, Bool.and_false, Bool.true_or, Bool.false_or, Bool.or_true, Bool.or_false, Bool.false_bne, Bool.true_bne, Int.reduceLT, Int.reduceLE, Int.reducePow, Int.reduceNeg, Int.reduceToNat, if_true, if_false, frameE, List.map_cons, List.map_nil, List.replicate_succ, List.replicate_zero, Nat.reduceSub, List.replicate, ix0, ix1, and_self, true_and, and_true, pow_10_18, forL_nil, forL_ap, kFor_ap, kFor2_nx, kFor2_ct, kFor2_bk, kFor2_rt, lenA_lst, lenA_tup, lenA_scr, lenA_dK, lenA_dT, addI_ap, g1, g2]⟩
  · exact ⟨l, hl, Nat.le_refl _, by simp only [bd0__law_blocked, shP, pairP, seqS_ap, kSeq_nx, kSeq_rt, kSeq_bk, kSeq_ct, retS_ap, kRet_ap, retN_ap, exprS_ap, kNx_ap, ifS_ap, ifE_ap, ifO_ap, kIf_t, kIf_f, badS_ap, nextS_ap, setS_ap, kSet_v, kSet_o, cellS_ap, kCell_ap, parS_ap, kPar_2, kPar_3, kPar_4, putSl_v, putSl_o, asgS_ap, kAsg_ap, kAsg2_ap, asgT_nm, asgT_tp, asgTs_nil, asgTs_nm, augS_ap, kAug_ap, kAug1_ap, kAug2_ap, nameE_ap, kNm_v, kNm_o, nameB_ap, kNb_o, kNb_v, kNc_cell, kNd_ap, kNc_int, kNc_bl, kNc_non, kNc_str, kNc_tup, kNc_lst, kNc_scr, kNc_dK, kNc_dT, kNc_ins, kMod_o, kMod_c, kMc_ap, kMo_ap, kMd_ap, appE_ap, kAp_ap, kAp2_ap, appU_ok, setIxS_ap, kSi_ap, kSi2_ap, kSi3_ap, setU_lst, augIxS_ap, kAx_ap, kAx1_ap, kAx1b_ap, kAx2_ap, kAx3_ap, kAx4_ap, lixG_ok, sharedE_ap, kSh_ap, plainE_ap, kPl_ap, constE_ap, nilA_ap, consA_ap, kCo_ap, kCo2_ap, nilL_ap, consL_ap, tupE_ap, lstE_ap, kTu_ap, kLs_ap, kOp_ap, kOp_no, binO_ap, kBi_ap, kBi2_ap, binE_ap, kBe_ap, kBe2_ap, chainE_ap, kCh_ap, kCh2_ap, kCh3_t, kCh3_f, kCh4_ap, testE_ap, toB_ap, andE_ap, orE_ap, notE_ap, kAnd_t, kAnd_f, kOr_t, kOr_f, kNot_ap, andT_ap, orT_ap, notT_ap, kAndT_t, kAndT_f, kOrT_t, kOrT_f, kNotT_ap, negE_ap, kNeg_ap, callO_ap, kCall_ap, kFr_ap, kFr_exc, un1O_ap, kUn_ap, un1E_ap, kUe_ap, lenG_lst, lenG_tup, lenG_scr, tupG_lst, tupG_tup, listG_lst, listG_tup, intG_int, intG_bl, absG_int, ixN_ap, kIx_ap, kIx2_ap, kIx3_ap, ixE_ap, kIe_ap, kIe2_ap, ixG_lst, ixG_tup, ixG_scr, noQ_ap, someQ_ap, kSq_ap, cutO_ap, kCt_ap, kCt2_ap, kCt3_ap, cutN_ap, kCn_ap, kCn2_ap, kCn3_ap, kCn4_ap, newK_ap, newT_ap, seqI_ap, seqP_lst, seqP_tup, seqP_scr, range1I_ap, kR1_ap, range2I_ap, kR2_ap, kR2b_ap, forS_ap, bodyF_ap, kBody_rt, kBody_nx, kBody_exc, yesT_ap, ix0, ix1, allG_ok, anyG_ok, sumG_ok, bind_ok, bind_bad, bind_exc, noX_ok, isi_int_int, isi_int_bool, isi_tup_tup, isi_lst_lst, isi_lst_tup, isi_tup_lst, subI_ok, addI_ok, ltI_ok, leI_ok, gtI_ok, geI_ok, cmpI_ok, max2_ok, min2_ok, eq_int, mul_modL, List.set_cons_zero, List.set_cons_succ, List.length_cons, List.length_nil, List.nil_append, List.cons_append, Nat.reduceAdd, Nat.reduceLeDiff, Nat.reduceLT, Nat.le_refl, decide_true, decide_false, Bool.not_true, Bool.not_false, Bool.true_and, Bool.false_and, Bool.and_true, Bool.and_false, Bool.true_or, Bool.false_or, Bool.or_true, Bool.or_false, Bool.false_bne, Bool.true_bne, Int.reduceLT, Int.reduceLE, Int.reducePow, Int.reduceNeg, Int.reduceToNat, if_true, if_false, frameE, List.map_cons, List.map_nil, List.replicate_succ, List.replicate_zero, Nat.reduceSub, List.replicate, ix0, ix1, and_self, true_and, and_true, pow_10_18, forL_nil, forL_ap, kFor_ap, kFor2_nx, kFor2_ct, kFor2_bk, kFor2_rt, lenA_lst, lenA_tup, lenA_scr, lenA_dK, lenA_dT, addI_ap, g1]⟩
def near8 (a b : Int) : List (Int × Int) := [(a - 1, b - 1), (a - 1, b), (a - 1, b + 1), (a, b - 1), (a, b + 1), (a + 1, b - 1), (a + 1, b), (a + 1, b + 1)]
theorem lp0_blocked {h w : Nat} {sh : List (List Int)} (s : Sheet h w sh) {a b : Int} (ha : 0 ≤ a ∧ a < h) (hb : 0 ≤ b ∧ b < w) (hn : at2 sh a.toNat b.toNat < 0) (l : List (Int × Int)) (hl : Low sh h w l) (at_ q : Sl) (t : DT) :
    ∃ l' q', Low sh h w l' ∧ l.length ≤ l'.length ∧ lp0__law_blocked ⟨[.val (shP sh), .val (.int h), .val (.int w), .own (.lst (l.map pairP)), at_, .val (.int a), .val (.int b), q], t⟩ = .ok .nx ⟨[.val (shP sh), .val (.int h), .val (.int w), .own (.lst (l'.map pairP)), at_, .val (.int a), .val (.int b), q'], t⟩ := by
  obtain ⟨s', h1, l', q', h2, h3, h4, h5⟩ := forL_inv (tg := .nm 7) (b := bd0__law_blocked) (Inv := fun _ e t' => ∃ l' q', e = [.val (shP sh), .val (.int h), .val (.int w), .own (.lst (l'.map pairP)), at_, .val (.int a), .val (.int b), q'] ∧ t' = t ∧ Low sh h w l' ∧ l.length ≤ l'.length) ((near8 a b).map pairP) 0 ⟨[.val (shP sh), .val (.int h), .val (.int w), .own (.lst (l.map pairP)), at_, .val (.int a), .val (.int b), q], t⟩
    (fun i p hp e t' ⟨l1, q1, he, ht, k1, k2⟩ => by
      subst he ht
      obtain ⟨x, hx, rfl⟩ := List.mem_map.mp (List.mem_of_getElem? hp)
      have d : (x.1 ≤ a + 1 ∧ a ≤ x.1 + 1) ∧ (x.2 ≤ b + 1 ∧ b ≤ x.2 + 1) := by
        simp only [near8, List.mem_cons, List.not_mem_nil, or_false] at hx
        rcases hx with rfl | rfl | rfl | rfl | rfl | rfl | rfl | rfl <;> simp <;> omega
      obtain ⟨l2, m1, m2, m3⟩ := bd0_blocked s ha hb hn l1 k1 x d.1 d.2 at_ (.val (.int a)) (.val (.int b)) t'
      exact ⟨_, _, rfl, .inl m3, l2, _, rfl, rfl, m1, by omega⟩) (Nat.zero_le _) ⟨l, q, rfl, rfl, hl, Nat.le_refl _⟩
  obtain ⟨e', t'⟩ := s'
  simp only at h2 h3
  subst h2 h3
  refine ⟨l', q', h4, h5, ?_⟩
  rw [List.drop_zero] at h1
  have it : it0__law_blocked ⟨[.val (shP sh), .val (.int h), .val (.int w), .own (.lst (l.map pairP)), at_, .val (.int a), .val (.int b), q], t'⟩ = .ok ((near8 a b).map pairP) ⟨[.val (shP sh), .val (.int h), .val (.int w), .own (.lst (l.map pairP)), at_, .val (.int a), .val (.int b), q], t'⟩ := by
    simp only [it0__law_blocked, near8, pairP, seqS_ap, kSeq_nx, kSeq_rt, kSeq_bk, kSeq_ct, retS_ap, kRet_ap, retN_ap, exprS_ap, kNx_ap, ifS_ap, ifE_ap, ifO_ap, kIf_t, kIf_f, badS_ap, nextS_ap, setS_ap, kSet_v, kSet_o, cellS_ap, kCell_ap, parS_ap, kPar_2, kPar_3, kPar_4, putSl_v, putSl_o, asgS_ap, kAsg_ap, kAsg2_ap, asgT_nm, asgT_tp, asgTs_nil, asgTs_nm, augS_ap, kAug_ap, kAug1_ap, kAug2_ap, nameE_ap, kNm_v, kNm_o, nameB_ap, kNb_o, kNb_v, kNc_cell, kNd_ap, kNc_int, kNc_bl, kNc_non, kNc_str, kNc_tup, kNc_lst, kNc_scr, kNc_dK, kNc_dT, kNc_ins, kMod_o, kMod_c, kMc_ap, kMo_ap, kMd_ap, appE_ap, kAp_ap, kAp2_ap, appU_ok, setIxS_ap, kSi_ap, kSi2_ap, kSi3_ap, setU_lst, augIxS_ap, kAx_ap, kAx1_ap, kAx1b_ap, kAx2_ap, kAx3_ap, kAx4_ap, lixG_ok, sharedE_ap, kSh_ap, plainE_ap, kPl_ap, constE_ap, nilA_ap, consA_ap, kCo_ap, kCo2_ap, nilL_ap, consL_ap, tupE_ap, lstE_ap, kTu_ap, kLs_ap, kOp_ap, kOp_no, binO_ap, kBi_ap, kBi2_ap, binE_ap, kBe_ap, kBe2_ap, chainE_ap, kCh_ap, kCh2_ap, kCh3_t, kCh3_f, kCh4_ap, testE_ap, toB_ap, andE_ap, orE_ap, notE_ap, kAnd_t, kAnd_f, kOr_t, kOr_f, kNot_ap, andT_ap, orT_ap, notT_ap, kAndT_t, kAndT_f, kOrT_t, kOrT_f, kNotT_ap, negE_ap, kNeg_ap, callO_ap, kCall_ap, kFr_ap, kFr_exc, un1O_ap, kUn_ap, un1E_ap, kUe_ap, lenG_lst, lenG_tup, lenG_scr, tupG_lst, tupG_tup, listG_lst, listG_tup, intG_int, intG_bl, absG_int, ixN_ap, kIx_ap, kIx2_ap, kIx3_ap, ixE_ap, kIe_ap, kIe2_ap, ixG_lst, ixG_tup, ixG_scr, noQ_ap, someQ_ap, kSq_ap, cutO_ap, kCt_ap, kCt2_ap, kCt3_ap, cutN_ap, kCn_ap, kCn2_ap, kCn3_ap, kCn4_ap, newK_ap, newT_ap, seqI_ap, seqP_lst, seqP_tup, seqP_scr, range1I_ap, kR1_ap, range2I_ap, kR2_ap, kR2b_ap, forS_ap, bodyF_ap, kBody_rt, kBody_nx, kBody_exc, yesT_ap, ix0, ix1, allG_ok, anyG_ok, sumG_ok, bind_ok, bind_bad, bind_exc, noX_ok, isi_int_int, isi_int_bool, isi_tup_tup, isi_lst_lst, isi_lst_tup, isi_tup_lst, subI_ok, addI_ok, ltI_ok, leI_ok, gtI_ok, geI_ok, cmpI_ok, max2_ok, min2_ok, eq_int, mul_modL, List.set_cons_zero, List.set_cons_succ, List.length_cons, List.length_nil, List.nil_append, List.cons_append, Nat.reduceAdd, Nat.reduceLeDiff, Nat.reduceLT, Nat.le_refl, decide_true, decide_false, Bool.not_true, Bool.not_false, Bool.true_and, Bool.false_and, Bool.and_true, Bool.and_false, Bool.true_or, Bool.false_or, Bool.or_true, Bool.or_false, Bool.false_bne, Bool.true_bne, Int.reduceLT, Int.reduceLE, Int.reducePow, Int.reduceNeg, Int.reduceToNat, if_true, if_false, frameE, List.map_cons, List.map_nil, List.replicate_succ, List.replicate_zero, Nat.reduceSub, List.replicate, ix0, ix1, and_self, true_and, and_true, pow_10_18, forL_nil, forL_ap, kFor_ap, kFor2_nx, kFor2_ct, kFor2_bk, kFor2_rt, lenA_lst, lenA_tup, lenA_scr, lenA_dK, lenA_dT, addI_ap]
  simp only [lp0__law_blocked, forS_ap, it, bind_ok]
  exact h1
theorem wl0_blocked {h w : Nat} {sh : List (List Int)} (s : Sheet h w sh) (l : List (Int × Int)) (hl : Low sh h w l) (p q r : Sl) (t : DT) :
    ∃ l' at' p' q' r', Low sh h w l' ∧ wl0__law_blocked ⟨[.val (shP sh), .val (.int h), .val (.int w), .own (.lst (l.map pairP)), .val (.int 0), p, q, r], t⟩ = .ok .nx ⟨[.val (shP sh), .val (.int h), .val (.int w), .own (.lst (l'.map pairP)), at', p', q', r'], t⟩ := by
  have h2 := s.h2
  have w2 := s.w2
  refine while_inv (tt := ts0__law_blocked) (b := bd1__law_blocked) (Inv := fun m e t' => ∃ (l1 : List (Int × Int)) (at1 : Int) (p1 q1 r1 : Sl), e = [.val (shP sh), .val (.int h), .val (.int w), .own (.lst (l1.map pairP)), .val (.int at1), p1, q1, r1] ∧ t' = t ∧ Low sh h w l1 ∧ 0 ≤ at1 ∧ at1 ≤ l1.length ∧ m = (64 - at1).toNat)
    (Q := fun z => ∃ l' at' p' q' r', Low sh h w l' ∧ z = .ok .nx ⟨[.val (shP sh), .val (.int h), .val (.int w), .own (.lst (l'.map pairP)), at', p', q', r'], t⟩) 64 fuel _ (by decide) ?_ ⟨l, 0, p, q, r, rfl, rfl, hl, by omega, by omega, rfl⟩
  rintro m e t' ⟨l1, at1, p1, q1, r1, rfl, rfl, k1, k2, k3, k4⟩
  have hsz := k1.1.le
  have h64 : h * w ≤ 8 * 8 := Nat.mul_le_mul h2 w2
  by_cases hlt : at1 < l1.length
  · refine ⟨true, ⟨[.val (shP sh), .val (.int h), .val (.int w), .own (.lst (l1.map pairP)), .val (.int at1), p1, q1, r1], t'⟩, ?_, .inr ⟨rfl, .inl ?_⟩⟩
    · simp only [ts0__law_blocked, seqS_ap, kSeq_nx, kSeq_rt, kSeq_bk, kSeq_ct, retS_ap, kRet_ap, retN_ap, exprS_ap, kNx_ap, ifS_ap, ifE_ap, ifO_ap, kIf_t, kIf_f, badS_ap, nextS_ap, setS_ap, kSet_v, kSet_o, cellS_ap, kCell_ap, parS_ap, kPar_2, kPar_3, kPar_4, putSl_v, putSl_o, asgS_ap, kAsg_ap, kAsg2_ap, asgT_nm, asgT_tp, asgTs_nil, asgTs_nm, augS_ap, kAug_ap, kAug1_ap, kAug2_ap, nameE_ap, kNm_v, kNm_o, nameB_ap, kNb_o, kNb_v, kNc_cell, kNd_ap, kNc_int, kNc_bl, kNc_non, kNc_str, kNc_tup, kNc_lst, kNc_scr, kNc_dK, kNc_dT, kNc_ins, kMod_o, kMod_c, kMc_ap, kMo_ap, kMd_ap, appE_ap, kAp_ap, kAp2_ap, appU_ok, setIxS_ap, kSi_ap, kSi2_ap, kSi3_ap, setU_lst, augIxS_ap, kAx_ap, kAx1_ap, kAx1b_ap, kAx2_ap, kAx3_ap, kAx4_ap, lixG_ok, sharedE_ap, kSh_ap, plainE_ap, kPl_ap, constE_ap, nilA_ap, consA_ap, kCo_ap, kCo2_ap, nilL_ap, consL_ap, tupE_ap, lstE_ap, kTu_ap, kLs_ap, kOp_ap, kOp_no, binO_ap, kBi_ap, kBi2_ap, binE_ap, kBe_ap, kBe2_ap, chainE_ap, kCh_ap, kCh2_ap, kCh3_t, kCh3_f, kCh4_ap, testE_ap, toB_ap, andE_ap, orE_ap, notE_ap, kAnd_t, kAnd_f, kOr_t, kOr_f, kNot_ap, andT_ap, orT_ap, notT_ap, kAndT_t, kAndT_f, kOrT_t, kOrT_f, kNotT_ap, negE_ap, kNeg_ap, callO_ap, kCall_ap, kFr_ap, kFr_exc, un1O_ap, kUn_ap, un1E_ap, kUe_ap, lenG_lst, lenG_tup, lenG_scr, tupG_lst, tupG_tup, listG_lst, listG_tup, intG_int, intG_bl, absG_int, ixN_ap, kIx_ap, kIx2_ap, kIx3_ap, ixE_ap, kIe_ap, kIe2_ap, ixG_lst, ixG_tup, ixG_scr, noQ_ap, someQ_ap, kSq_ap, cutO_ap, kCt_ap, kCt2_ap, kCt3_ap, cutN_ap, kCn_ap, kCn2_ap, kCn3_ap, kCn4_ap, newK_ap, newT_ap, seqI_ap, seqP_lst, seqP_tup, seqP_scr, range1I_ap, kR1_ap, range2I_ap, kR2_ap, kR2b_ap, forS_ap, bodyF_ap, kBody_rt, kBody_nx, kBody_exc, yesT_ap, ix0, ix1, allG_ok, anyG_ok, sumG_ok, bind_ok, bind_bad, bind_exc, noX_ok, isi_int_int, isi_int_bool, isi_tup_tup, isi_lst_lst, isi_lst_tup, isi_tup_lst, subI_ok, addI_ok, ltI_ok, leI_ok, gtI_ok, geI_ok, cmpI_ok, max2_ok, min2_ok, eq_int, mul_modL, List.set_cons_zero, List.set_cons_succ, List.length_cons, List.length_nil, List.nil_append, List.cons_append, Nat.reduceAdd, Nat.reduceLeDiff, Nat.reduceLT, Nat.le_refl, decide_true, decide_false, Bool.not_true, Bool.not_false, Bool.true_and, Bool.false_and, Bool.and_true, Bool.and_false, Bool.true_or, Bool.false_or, Bool.or_true, Bool.or_false, Bool.false_bne, Bool.true_bne, Int.reduceLT, Int.reduceLE, Int.reducePow, Int.reduceNeg, Int.reduceToNat, if_true, if_false, frameE, List.map_cons, List.map_nil, List.replicate_succ, List.replicate_zero, Nat.reduceSub, List.replicate, ix0, ix1, and_self, true_and, and_true, pow_10_18, forL_nil, forL_ap, kFor_ap, kFor2_nx, kFor2_ct, kFor2_bk, kFor2_rt, lenA_lst, lenA_tup, lenA_scr, lenA_dK, lenA_dT, addI_ap, List.length_map, hlt]
    · have hi : at1.toNat < l1.length := by omega
      have hx := k1.1.2 _ (List.getElem_mem hi)
      have hn := k1.2 _ (List.getElem_mem hi)
      have g : (l1.map pairP)[at1.toNat]? = some (pairP l1[at1.toNat]) := by rw [List.getElem?_map, List.getElem?_eq_getElem hi]; rfl
      obtain ⟨l2, q2, m1, m2, m3⟩ := lp0_blocked s ⟨hx.1, hx.2.1⟩ ⟨hx.2.2.1, hx.2.2.2⟩ hn l1 k1 (.val (.int (at1 + 1))) r1 t'
      refine ⟨⟨[.val (shP sh), .val (.int h), .val (.int w), .own (.lst (l2.map pairP)), .val (.int (at1 + 1)), .val (.int l1[at1.toNat].1), .val (.int l1[at1.toNat].2), q2], t'⟩, (64 - (at1 + 1)).toNat, .inl ?_, by omega, l2, at1 + 1, _, _, _, rfl, rfl, m1, by omega, by omega, rfl⟩
      simp only [shP] at m3
      simp only [bd1__law_blocked, shP, seqS_ap, kSeq_nx, kSeq_rt, kSeq_bk, kSeq_ct, retS_ap, kRet_ap, retN_ap, exprS_ap, kNx_ap, ifS_ap, ifE_ap, ifO_ap, kIf_t, kIf_f, badS_ap, nextS_ap, setS_ap, kSet_v, kSet_o, cellS_ap, kCell_ap, parS_ap, kPar_2, kPar_3, kPar_4, putSl_v, putSl_o, asgS_ap, kAsg_ap, kAsg2_ap, asgT_nm, asgT_tp, asgTs_nil, asgTs_nm, augS_ap, kAug_ap, kAug1_ap, kAug2_ap, nameE_ap, kNm_v, kNm_o, nameB_ap, kNb_o, kNb_v, kNc_cell, kNd_ap, kNc_int, kNc_bl, kNc_non, kNc_str, kNc_tup, kNc_lst, kNc_scr, kNc_dK, kNc_dT, kNc_ins, kMod_o, kMod_c, kMc_ap, kMo_ap, kMd_ap, appE_ap, kAp_ap, kAp2_ap, appU_ok, setIxS_ap, kSi_ap, kSi2_ap, kSi3_ap, setU_lst, augIxS_ap, kAx_ap, kAx1_ap, kAx1b_ap, kAx2_ap, kAx3_ap, kAx4_ap, lixG_ok, sharedE_ap, kSh_ap, plainE_ap, kPl_ap, constE_ap, nilA_ap, consA_ap, kCo_ap, kCo2_ap, nilL_ap, consL_ap, tupE_ap, lstE_ap, kTu_ap, kLs_ap, kOp_ap, kOp_no, binO_ap, kBi_ap, kBi2_ap, binE_ap, kBe_ap, kBe2_ap, chainE_ap, kCh_ap, kCh2_ap, kCh3_t, kCh3_f, kCh4_ap, testE_ap, toB_ap, andE_ap, orE_ap, notE_ap, kAnd_t, kAnd_f, kOr_t, kOr_f, kNot_ap, andT_ap, orT_ap, notT_ap, kAndT_t, kAndT_f, kOrT_t, kOrT_f, kNotT_ap, negE_ap, kNeg_ap, callO_ap, kCall_ap, kFr_ap, kFr_exc, un1O_ap, kUn_ap, un1E_ap, kUe_ap, lenG_lst, lenG_tup, lenG_scr, tupG_lst, tupG_tup, listG_lst, listG_tup, intG_int, intG_bl, absG_int, ixN_ap, kIx_ap, kIx2_ap, kIx3_ap, ixE_ap, kIe_ap, kIe2_ap, ixG_lst, ixG_tup, ixG_scr, noQ_ap, someQ_ap, kSq_ap, cutO_ap, kCt_ap, kCt2_ap, kCt3_ap, cutN_ap, kCn_ap, kCn2_ap, kCn3_ap, kCn4_ap, newK_ap, newT_ap, seqI_ap, seqP_lst, seqP_tup, seqP_scr, range1I_ap, kR1_ap, range2I_ap, kR2_ap, kR2b_ap, forS_ap, bodyF_ap, kBody_rt, kBody_nx, kBody_exc, yesT_ap, ix0, ix1, allG_ok, anyG_ok, sumG_ok, bind_ok, bind_bad, bind_exc, noX_ok, isi_int_int, isi_int_bool, isi_tup_tup, isi_lst_lst, isi_lst_tup, isi_tup_lst, subI_ok, addI_ok, ltI_ok, leI_ok, gtI_ok, geI_ok, cmpI_ok, max2_ok, min2_ok, eq_int, mul_modL, List.set_cons_zero, List.set_cons_succ, List.length_cons, List.length_nil, List.nil_append, List.cons_append, Nat.reduceAdd, Nat.reduceLeDiff, Nat.reduceLT, Nat.le_refl, decide_true, decide_false, Bool.not_true, Bool.not_false, Bool.true_and, Bool.false_and, Bool.and_true, Bool.and_false, Bool.true_or, Bool.false_or, Bool.or_true, Bool.or_false, Bool.false_bne, Bool.true_bne, Int.reduceLT, Int.reduceLE, Int.reducePow, Int.reduceNeg, Int.reduceToNat, if_true, if_false, frameE, List.map_cons, List.map_nil, List.replicate_succ, List.replicate_zero, Nat.reduceSub, List.replicate, ix0, ix1, and_self, true_and, and_true, pow_10_18, forL_nil, forL_ap, kFor_ap, kFor2_nx, kFor2_ct, kFor2_bk, kFor2_rt, lenA_lst, lenA_tup, lenA_scr, lenA_dK, lenA_dT, addI_ap, ixG_lst, k2, List.length_map, hi, g, pairP, m3]
  · refine ⟨false, ⟨[.val (shP sh), .val (.int h), .val (.int w), .own (.lst (l1.map pairP)), .val (.int at1), p1, q1, r1], t'⟩, ?_, .inl ⟨rfl, l1, _, p1, q1, r1, k1, rfl⟩⟩
    simp only [ts0__law_blocked, seqS_ap, kSeq_nx, kSeq_rt, kSeq_bk, kSeq_ct, retS_ap, kRet_ap, retN_ap, exprS_ap, kNx_ap, ifS_ap, ifE_ap, ifO_ap, kIf_t, kIf_f, badS_ap, nextS_ap, setS_ap, kSet_v, kSet_o, cellS_ap, kCell_ap, parS_ap, kPar_2, kPar_3, kPar_4, putSl_v, putSl_o, asgS_ap, kAsg_ap, kAsg2_ap, asgT_nm, asgT_tp, asgTs_nil, asgTs_nm, augS_ap, kAug_ap, kAug1_ap, kAug2_ap, nameE_ap, kNm_v, kNm_o, nameB_ap, kNb_o, kNb_v, kNc_cell, kNd_ap, kNc_int, kNc_bl, kNc_non, kNc_str, kNc_tup, kNc_lst, kNc_scr, kNc_dK, kNc_dT, kNc_ins, kMod_o, kMod_c, kMc_ap, kMo_ap, kMd_ap, appE_ap, kAp_ap, kAp2_ap, appU_ok, setIxS_ap, kSi_ap, kSi2_ap, kSi3_ap, setU_lst, augIxS_ap, kAx_ap, kAx1_ap, kAx1b_ap, kAx2_ap, kAx3_ap, kAx4_ap, lixG_ok, sharedE_ap, kSh_ap, plainE_ap, kPl_ap, constE_ap, nilA_ap, consA_ap, kCo_ap, kCo2_ap, nilL_ap, consL_ap, tupE_ap, lstE_ap, kTu_ap, kLs_ap, kOp_ap, kOp_no, binO_ap, kBi_ap, kBi2_ap, binE_ap, kBe_ap, kBe2_ap, chainE_ap, kCh_ap, kCh2_ap, kCh3_t, kCh3_f, kCh4_ap, testE_ap, toB_ap, andE_ap, orE_ap, notE_ap, kAnd_t, kAnd_f, kOr_t, kOr_f, kNot_ap, andT_ap, orT_ap, notT_ap, kAndT_t, kAndT_f, kOrT_t, kOrT_f, kNotT_ap, negE_ap, kNeg_ap, callO_ap, kCall_ap, kFr_ap, kFr_exc, un1O_ap, kUn_ap, un1E_ap, kUe_ap, lenG_lst, lenG_tup, lenG_scr, tupG_lst, tupG_tup, listG_lst, listG_tup, intG_int, intG_bl, absG_int, ixN_ap, kIx_ap, kIx2_ap, kIx3_ap, ixE_ap, kIe_ap, kIe2_ap, ixG_lst, ixG_tup, ixG_scr, noQ_ap, someQ_ap, kSq_ap, cutO_ap, kCt_ap, kCt2_ap, kCt3_ap, cutN_ap, kCn_ap, kCn2_ap, kCn3_ap, kCn4_ap, newK_ap, newT_ap, seqI_ap, seqP_lst, seqP_tup, seqP_scr, range1I_ap, kR1_ap, range2I_ap, kR2_ap, kR2b_ap, forS_ap, bodyF_ap, kBody_rt, kBody_nx, kBody_exc, yesT_ap, ix0, ix1, allG_ok, anyG_ok, sumG_ok, bind_ok, bind_bad, bind_exc, noX_ok, isi_int_int, isi_int_bool, isi_tup_tup, isi_lst_lst, isi_lst_tup, isi_tup_lst, subI_ok, addI_ok, ltI_ok, leI_ok, gtI_ok, geI_ok, cmpI_ok, max2_ok, min2_ok, eq_int, mul_modL, List.set_cons_zero, List.set_cons_succ, List.length_cons, List.length_nil, List.nil_append, List.cons_append, Nat.reduceAdd, Nat.reduceLeDiff, Nat.reduceLT, Nat.le_refl, decide_true, decide_false, Bool.not_true, Bool.not_false, Bool.true_and, Bool.false_and, Bool.and_true, Bool.and_false, Bool.true_or, Bool.false_or, Bool.or_true, Bool.or_false, Bool.false_bne, Bool.true_bne, Int.reduceLT, Int.reduceLE, Int.reducePow, Int.reduceNeg, Int.reduceToNat, if_true, if_false, frameE, List.map_cons, List.map_nil, List.replicate_succ, List.replicate_zero, Nat.reduceSub, List.replicate, ix0, ix1, and_self, true_and, and_true, pow_10_18, forL_nil, forL_ap, kFor_ap, kFor2_nx, kFor2_ct, kFor2_bk, kFor2_rt, lenA_lst, lenA_tup, lenA_scr, lenA_dK, lenA_dT, addI_ap, List.length_map, hlt]
theorem v_blocked {h w : Nat} {sh : List (List Int)} (s : Sheet h w sh) (lo : ∀ x ∈ sh.getD 0 [], x ≤ 0) (hi : ∀ x ∈ sh.getD (h - 1) [], 0 ≤ x) (t : DT) : F__law_blocked [shP sh] t = .ok (.bl true) false t := by
  have h1 := s.h1
  have h2 := s.h2
  have w1 := s.w1
  have w2 := s.w2
  have r0 := s.rowLen (a := 0) (by omega)
  have i0 := ix_sh (c := false) (sh := sh) (a := 0) (by rw [s.len]; omega)
  simp only [Int.natCast_zero] at i0
  have c0 : cp0__law_blocked ⟨[.val (shP sh), .val (.int h), .val (.int w), .no, .no, .no, .no, .no], t⟩ = .ok (.lst ((grid 1 w fun a b => decide (at2 sh a b ≠ 0)).map pairP), true) ⟨[.val (shP sh), .val (.int h), .val (.int w), .no, .no, .no, .no, .no], t⟩ := by
    refine (lcO_flt0 (s1 := ⟨[.val (shP sh), .val (.int h), .val (.int w), .no, .no, .no, .no, .no], t⟩) (ps := rangeP 0 w) (fun p => decide (at2 sh 0 (toI p).toNat ≠ 0)) (fun p => .tup false [.int 0, p]) ?_ (fun p hp => ?_) (by rw [rangeP_len]; exact small (by omega))).trans ?_
    · simp only [seqS_ap, kSeq_nx, kSeq_rt, kSeq_bk, kSeq_ct, retS_ap, kRet_ap, retN_ap, exprS_ap, kNx_ap, ifS_ap, ifE_ap, ifO_ap, kIf_t, kIf_f, badS_ap, nextS_ap, setS_ap, kSet_v, kSet_o, cellS_ap, kCell_ap, parS_ap, kPar_2, kPar_3, kPar_4, putSl_v, putSl_o, asgS_ap, kAsg_ap, kAsg2_ap, asgT_nm, asgT_tp, asgTs_nil, asgTs_nm, augS_ap, kAug_ap, kAug1_ap, kAug2_ap, nameE_ap, kNm_v, kNm_o, nameB_ap, kNb_o, kNb_v, kNc_cell, kNd_ap, kNc_int, kNc_bl, kNc_non, kNc_str, kNc_tup, kNc_lst, kNc_scr, kNc_dK, kNc_dT, kNc_ins, kMod_o, kMod_c, kMc_ap, kMo_ap, kMd_ap, appE_ap, kAp_ap, kAp2_ap, appU_ok, setIxS_ap, kSi_ap, kSi2_ap, kSi3_ap, setU_lst, augIxS_ap, kAx_ap, kAx1_ap, kAx1b_ap, kAx2_ap, kAx3_ap, kAx4_ap, lixG_ok, sharedE_ap, kSh_ap, plainE_ap, kPl_ap, constE_ap, nilA_ap, consA_ap, kCo_ap, kCo2_ap, nilL_ap, consL_ap, tupE_ap, lstE_ap, kTu_ap, kLs_ap, kOp_ap, kOp_no, binO_ap, kBi_ap, kBi2_ap, binE_ap, kBe_ap, kBe2_ap, chainE_ap, kCh_ap, kCh2_ap, kCh3_t, kCh3_f, kCh4_ap, testE_ap, toB_ap, andE_ap, orE_ap, notE_ap, kAnd_t, kAnd_f, kOr_t, kOr_f, kNot_ap, andT_ap, orT_ap, notT_ap, kAndT_t, kAndT_f, kOrT_t, kOrT_f, kNotT_ap, negE_ap, kNeg_ap, callO_ap, kCall_ap, kFr_ap, kFr_exc, un1O_ap, kUn_ap, un1E_ap, kUe_ap, lenG_lst, lenG_tup, lenG_scr, tupG_lst, tupG_tup, listG_lst, listG_tup, intG_int, intG_bl, absG_int, ixN_ap, kIx_ap, kIx2_ap, kIx3_ap, ixE_ap, kIe_ap, kIe2_ap, ixG_lst, ixG_tup, ixG_scr, noQ_ap, someQ_ap, kSq_ap, cutO_ap, kCt_ap, kCt2_ap, kCt3_ap, cutN_ap, kCn_ap, kCn2_ap, kCn3_ap, kCn4_ap, newK_ap, newT_ap, seqI_ap, seqP_lst, seqP_tup, seqP_scr, range1I_ap, kR1_ap, range2I_ap, kR2_ap, kR2b_ap, forS_ap, bodyF_ap, kBody_rt, kBody_nx, kBody_exc, yesT_ap, ix0, ix1, allG_ok, anyG_ok, sumG_ok, bind_ok, bind_bad, bind_exc, noX_ok, isi_int_int, isi_int_bool, isi_tup_tup, isi_lst_lst, isi_lst_tup, isi_tup_lst, subI_ok, addI_ok, ltI_ok, leI_ok, gtI_ok, geI_ok, cmpI_ok, max2_ok, min2_ok, eq_int, mul_modL, List.set_cons_zero, List.set_cons_succ, List.length_cons, List.length_nil, List.nil_append, List.cons_append, Nat.reduceAdd, Nat.reduceLeDiff, Nat.reduceLT, Nat.le_refl, decide_true, decide_false, Bool.not_true, Bool.not_false, Bool.true_and, Bool.false_and, Bool.and_true, Bool.and_false, Bool.true_or, Bool.false_or, Bool.or_true, Bool.or_false, Bool.false_bne, Bool.true_bne, Int.reduceLT, Int.reduceLE, Int.reducePow, Int.reduceNeg, Int.reduceToNat, if_true, if_false, frameE, List.map_cons, List.map_nil, List.replicate_succ, List.replicate_zero, Nat.reduceSub, List.replicate, ix0, ix1, and_self, true_and, and_true, pow_10_18, forL_nil, forL_ap, kFor_ap, kFor2_nx, kFor2_ct, kFor2_bk, kFor2_rt, lenA_lst, lenA_tup, lenA_scr, lenA_dK, lenA_dT, addI_ap, kR1_ap (x := (w : Int)) (by omega) (by omega), Int.toNat_natCast]
    · obtain ⟨b, hb, rfl⟩ := mem_rangeP0 hp
      have i1 := ix_row (c := false) (r := sh.getD 0 []) (b := b) (by rw [r0]; exact hb)
      refine ⟨_, rfl, ?_, fun _ => ?_⟩
      · by_cases z : at2 sh 0 b = 0
        · have z' : (sh.getD 0 []).getD b 0 = 0 := z
          simp only [wipeE, shP, i0, rowP, i1, z', seqS_ap, kSeq_nx, kSeq_rt, kSeq_bk, kSeq_ct, retS_ap, kRet_ap, retN_ap, exprS_ap, kNx_ap, ifS_ap, ifE_ap, ifO_ap, kIf_t, kIf_f, badS_ap, nextS_ap, setS_ap, kSet_v, kSet_o, cellS_ap, kCell_ap, parS_ap, kPar_2, kPar_3, kPar_4, putSl_v, putSl_o, asgS_ap, kAsg_ap, kAsg2_ap, asgT_nm, asgT_tp, asgTs_nil, asgTs_nm, augS_ap, kAug_ap, kAug1_ap, kAug2_ap, nameE_ap, kNm_v, kNm_o, nameB_ap, kNb_o, kNb_v, kNc_cell, kNd_ap, kNc_int, kNc_bl, kNc_non, kNc_str, kNc_tup, kNc_lst, kNc_scr, kNc_dK, kNc_dT, kNc_ins, kMod_o, kMod_c, kMc_ap, kMo_ap, kMd_ap, appE_ap, kAp_ap, kAp2_ap, appU_ok, setIxS_ap, kSi_ap, kSi2_ap, kSi3_ap, setU_lst, augIxS_ap, kAx_ap, kAx1_ap, kAx1b_ap, kAx2_ap, kAx3_ap, kAx4_ap, lixG_ok, sharedE_ap, kSh_ap, plainE_ap, kPl_ap, constE_ap, nilA_ap, consA_ap, kCo_ap, kCo2_ap, nilL_ap, consL_ap, tupE_ap, lstE_ap, kTu_ap, kLs_ap, kOp_ap, kOp_no, binO_ap, kBi_ap, kBi2_ap, binE_ap, kBe_ap, kBe2_ap, chainE_ap, kCh_ap, kCh2_ap, kCh3_t, kCh3_f, kCh4_ap, testE_ap, toB_ap, andE_ap, orE_ap, notE_ap, kAnd_t, kAnd_f, kOr_t, kOr_f, kNot_ap, andT_ap, orT_ap, notT_ap, kAndT_t, kAndT_f, kOrT_t, kOrT_f, kNotT_ap, negE_ap, kNeg_ap, callO_ap, kCall_ap, kFr_ap, kFr_exc, un1O_ap, kUn_ap, un1E_ap, kUe_ap, lenG_lst, lenG_tup, lenG_scr, tupG_lst, tupG_tup, listG_lst, listG_tup, intG_int, intG_bl, absG_int, ixN_ap, kIx_ap, kIx2_ap, kIx3_ap, ixE_ap, kIe_ap, kIe2_ap, ixG_lst, ixG_tup, ixG_scr, noQ_ap, someQ_ap, kSq_ap, cutO_ap, kCt_ap, kCt2_ap, kCt3_ap, cutN_ap, kCn_ap, kCn2_ap, kCn3_ap, kCn4_ap, newK_ap, newT_ap, seqI_ap, seqP_lst, seqP_tup, seqP_scr, range1I_ap, kR1_ap, range2I_ap, kR2_ap, kR2b_ap, forS_ap, bodyF_ap, kBody_rt, kBody_nx, kBody_exc, yesT_ap, ix0, ix1, allG_ok, anyG_ok, sumG_ok, bind_ok, bind_bad, bind_exc, noX_ok, isi_int_int, isi_int_bool, isi_tup_tup, isi_lst_lst, isi_lst_tup, isi_tup_lst, subI_ok, addI_ok, ltI_ok, leI_ok, gtI_ok, geI_ok, cmpI_ok, max2_ok, min2_ok, eq_int, mul_modL, List.set_cons_zero, List.set_cons_succ, List.length_cons, List.length_nil, List.nil_append, List.cons_append, Nat.reduceAdd, Nat.reduceLeDiff, Nat.reduceLT, Nat.le_refl, decide_true, decide_false, Bool.not_true, Bool.not_false, Bool.true_and, Bool.false_and, Bool.and_true, Bool.and_false, Bool.true_or, Bool.false_or, Bool.or_true, Bool.or_false, Bool.false_bne, Bool.true_bne, Int.reduceLT, Int.reduceLE, Int.reducePow, Int.reduceNeg, Int.reduceToNat, if_true, if_false, frameE, List.map_cons, List.map_nil, List.replicate_succ, List.replicate_zero, Nat.reduceSub, List.replicate, ix0, ix1, and_self, true_and, and_true, pow_10_18, forL_nil, forL_ap, kFor_ap, kFor2_nx, kFor2_ct, kFor2_bk, kFor2_rt, lenA_lst, lenA_tup, lenA_scr, lenA_dK, lenA_dT, addI_ap, toI, z, Int.toNat_natCast, ne_eq, not_true_eq_false]
        · have z' : ¬ (sh.getD 0 []).getD b 0 = 0 := z
          simp only [wipeE, shP, i0, rowP, i1, z', seqS_ap, kSeq_nx, kSeq_rt, kSeq_bk, kSeq_ct, retS_ap, kRet_ap, retN_ap, exprS_ap, kNx_ap, ifS_ap, ifE_ap, ifO_ap, kIf_t, kIf_f, badS_ap, nextS_ap, setS_ap, kSet_v, kSet_o, cellS_ap, kCell_ap, parS_ap, kPar_2, kPar_3, kPar_4, putSl_v, putSl_o, asgS_ap, kAsg_ap, kAsg2_ap, asgT_nm, asgT_tp, asgTs_nil, asgTs_nm, augS_ap, kAug_ap, kAug1_ap, kAug2_ap, nameE_ap, kNm_v, kNm_o, nameB_ap, kNb_o, kNb_v, kNc_cell, kNd_ap, kNc_int, kNc_bl, kNc_non, kNc_str, kNc_tup, kNc_lst, kNc_scr, kNc_dK, kNc_dT, kNc_ins, kMod_o, kMod_c, kMc_ap, kMo_ap, kMd_ap, appE_ap, kAp_ap, kAp2_ap, appU_ok, setIxS_ap, kSi_ap, kSi2_ap, kSi3_ap, setU_lst, augIxS_ap, kAx_ap, kAx1_ap, kAx1b_ap, kAx2_ap, kAx3_ap, kAx4_ap, lixG_ok, sharedE_ap, kSh_ap, plainE_ap, kPl_ap, constE_ap, nilA_ap, consA_ap, kCo_ap, kCo2_ap, nilL_ap, consL_ap, tupE_ap, lstE_ap, kTu_ap, kLs_ap, kOp_ap, kOp_no, binO_ap, kBi_ap, kBi2_ap, binE_ap, kBe_ap, kBe2_ap, chainE_ap, kCh_ap, kCh2_ap, kCh3_t, kCh3_f, kCh4_ap, testE_ap, toB_ap, andE_ap, orE_ap, notE_ap, kAnd_t, kAnd_f, kOr_t, kOr_f, kNot_ap, andT_ap, orT_ap, notT_ap, kAndT_t, kAndT_f, kOrT_t, kOrT_f, kNotT_ap, negE_ap, kNeg_ap, callO_ap, kCall_ap, kFr_ap, kFr_exc, un1O_ap, kUn_ap, un1E_ap, kUe_ap, lenG_lst, lenG_tup, lenG_scr, tupG_lst, tupG_tup, listG_lst, listG_tup, intG_int, intG_bl, absG_int, ixN_ap, kIx_ap, kIx2_ap, kIx3_ap, ixE_ap, kIe_ap, kIe2_ap, ixG_lst, ixG_tup, ixG_scr, noQ_ap, someQ_ap, kSq_ap, cutO_ap, kCt_ap, kCt2_ap, kCt3_ap, cutN_ap, kCn_ap, kCn2_ap, kCn3_ap, kCn4_ap, newK_ap, newT_ap, seqI_ap, seqP_lst, seqP_tup, seqP_scr, range1I_ap, kR1_ap, range2I_ap, kR2_ap, kR2b_ap, forS_ap, bodyF_ap, kBody_rt, kBody_nx, kBody_exc, yesT_ap, ix0, ix1, allG_ok, anyG_ok, sumG_ok, bind_ok, bind_bad, bind_exc, noX_ok, isi_int_int, isi_int_bool, isi_tup_tup, isi_lst_lst, isi_lst_tup, isi_tup_lst, subI_ok, addI_ok, ltI_ok, leI_ok, gtI_ok, geI_ok, cmpI_ok, max2_ok, min2_ok, eq_int, mul_modL, List.set_cons_zero, List.set_cons_succ, List.length_cons, List.length_nil, List.nil_append, List.cons_append, Nat.reduceAdd, Nat.reduceLeDiff, Nat.reduceLT, Nat.le_refl, decide_true, decide_false, Bool.not_true, Bool.not_false, Bool.true_and, Bool.false_and, Bool.and_true, Bool.and_false, Bool.true_or, Bool.false_or, Bool.or_true, Bool.or_false, Bool.false_bne, Bool.true_bne, Int.reduceLT, Int.reduceLE, Int.reducePow, Int.reduceNeg, Int.reduceToNat, if_true, if_false, frameE, List.map_cons, List.map_nil, List.replicate_succ, List.replicate_zero, Nat.reduceSub, List.replicate, ix0, ix1, and_self, true_and, and_true, pow_10_18, forL_nil, forL_ap, kFor_ap, kFor2_nx, kFor2_ct, kFor2_bk, kFor2_rt, lenA_lst, lenA_tup, lenA_scr, lenA_dK, lenA_dT, addI_ap, toI, z, Int.toNat_natCast, ne_eq, not_false_eq_true]
      · simp only [wipeE, shP, seqS_ap, kSeq_nx, kSeq_rt, kSeq_bk, kSeq_ct, retS_ap, kRet_ap, retN_ap, exprS_ap, kNx_ap, ifS_ap, ifE_ap, ifO_ap, kIf_t, kIf_f, badS_ap, nextS_ap, setS_ap, kSet_v, kSet_o, cellS_ap, kCell_ap, parS_ap, kPar_2, kPar_3, kPar_4, putSl_v, putSl_o, asgS_ap, kAsg_ap, kAsg2_ap, asgT_nm, asgT_tp, asgTs_nil, asgTs_nm, augS_ap, kAug_ap, kAug1_ap, kAug2_ap, nameE_ap, kNm_v, kNm_o, nameB_ap, kNb_o, kNb_v, kNc_cell, kNd_ap, kNc_int, kNc_bl, kNc_non, kNc_str, kNc_tup, kNc_lst, kNc_scr, kNc_dK, kNc_dT, kNc_ins, kMod_o, kMod_c, kMc_ap, kMo_ap, kMd_ap, appE_ap, kAp_ap, kAp2_ap, appU_ok, setIxS_ap, kSi_ap, kSi2_ap, kSi3_ap, setU_lst, augIxS_ap, kAx_ap, kAx1_ap, kAx1b_ap, kAx2_ap, kAx3_ap, kAx4_ap, lixG_ok, sharedE_ap, kSh_ap, plainE_ap, kPl_ap, constE_ap, nilA_ap, consA_ap, kCo_ap, kCo2_ap, nilL_ap, consL_ap, tupE_ap, lstE_ap, kTu_ap, kLs_ap, kOp_ap, kOp_no, binO_ap, kBi_ap, kBi2_ap, binE_ap, kBe_ap, kBe2_ap, chainE_ap, kCh_ap, kCh2_ap, kCh3_t, kCh3_f, kCh4_ap, testE_ap, toB_ap, andE_ap, orE_ap, notE_ap, kAnd_t, kAnd_f, kOr_t, kOr_f, kNot_ap, andT_ap, orT_ap, notT_ap, kAndT_t, kAndT_f, kOrT_t, kOrT_f, kNotT_ap, negE_ap, kNeg_ap, callO_ap, kCall_ap, kFr_ap, kFr_exc, un1O_ap, kUn_ap, un1E_ap, kUe_ap, lenG_lst, lenG_tup, lenG_scr, tupG_lst, tupG_tup, listG_lst, listG_tup, intG_int, intG_bl, absG_int, ixN_ap, kIx_ap, kIx2_ap, kIx3_ap, ixE_ap, kIe_ap, kIe2_ap, ixG_lst, ixG_tup, ixG_scr, noQ_ap, someQ_ap, kSq_ap, cutO_ap, kCt_ap, kCt2_ap, kCt3_ap, cutN_ap, kCn_ap, kCn2_ap, kCn3_ap, kCn4_ap, newK_ap, newT_ap, seqI_ap, seqP_lst, seqP_tup, seqP_scr, range1I_ap, kR1_ap, range2I_ap, kR2_ap, kR2b_ap, forS_ap, bodyF_ap, kBody_rt, kBody_nx, kBody_exc, yesT_ap, ix0, ix1, allG_ok, anyG_ok, sumG_ok, bind_ok, bind_bad, bind_exc, noX_ok, isi_int_int, isi_int_bool, isi_tup_tup, isi_lst_lst, isi_lst_tup, isi_tup_lst, subI_ok, addI_ok, ltI_ok, leI_ok, gtI_ok, geI_ok, cmpI_ok, max2_ok, min2_ok, eq_int, mul_modL, List.set_cons_zero, List.set_cons_succ, List.length_cons, List.length_nil, List.nil_append, List.cons_append, Nat.reduceAdd, Nat.reduceLeDiff, Nat.reduceLT, Nat.le_refl, decide_true, decide_false, Bool.not_true, Bool.not_false, Bool.true_and, Bool.false_and, Bool.and_true, Bool.and_false, Bool.true_or, Bool.false_or, Bool.or_true, Bool.or_false, Bool.false_bne, Bool.true_bne, Int.reduceLT, Int.reduceLE, Int.reducePow, Int.reduceNeg, Int.reduceToNat, if_true, if_false, frameE, List.map_cons, List.map_nil, List.replicate_succ, List.replicate_zero, Nat.reduceSub, List.replicate, ix0, ix1, and_self, true_and, and_true, pow_10_18, forL_nil, forL_ap, kFor_ap, kFor2_nx, kFor2_ct, kFor2_bk, kFor2_rt, lenA_lst, lenA_tup, lenA_scr, lenA_dK, lenA_dT, addI_ap]
    · have e : ((rangeP 0 w).filter fun p => decide (at2 sh 0 (toI p).toNat ≠ 0)).map (fun p => PV.tup false [.int 0, p]) = (grid 1 w fun a b => decide (at2 sh a b ≠ 0)).map pairP := by
        rw [rangeP0, List.filter_map, List.map_map]
        simp only [grid, List.range_one, List.flatMap_cons, List.flatMap_nil, List.append_nil, List.map_map]
        rfl
      rw [e]
      rfl
  have g0 : Low sh h w (grid 1 w fun a b => decide (at2 sh a b ≠ 0)) := by
    refine ⟨⟨?_, fun x hx => ?_⟩, fun x hx => ?_⟩
    · simp only [grid, List.range_one, List.flatMap_cons, List.flatMap_nil, List.append_nil]
      rw [List.Nodup, List.pairwise_map]
      refine List.Pairwise.imp (fun {a b} hne z => hne ?_) (List.nodup_range.filter _)
      have := congrArg Prod.snd z
      simp only at this
      omega
    · obtain ⟨a, b, ha, hb, hp, rfl⟩ := mem_grid.mp hx
      simp only
      omega
    · obtain ⟨a, b, ha, hb, hp, rfl⟩ := mem_grid.mp hx
      obtain rfl : a = 0 := by omega
      have hz : at2 sh 0 b ≠ 0 := of_decide_eq_true hp
      have := lo ((sh.getD 0 []).getD b 0) (getD_mem (by rw [r0]; exact hb))
      simp only [Int.toNat_natCast]
      unfold at2 at hz ⊢
      omega
  obtain ⟨l', at', p', q', r', hl, wl⟩ := wl0_blocked s _ g0 .no .no .no t
  have hsz := hl.1.le
  have h64 : h * w ≤ 8 * 8 := Nat.mul_le_mul h2 w2
  have c1 : cp1__law_blocked ⟨[.val (shP sh), .val (.int h), .val (.int w), .own (.lst (l'.map pairP)), at', p', q', r'], t⟩ = .ok (.lst ((l'.map fun _ => false).map .bl), true) ⟨[.val (shP sh), .val (.int h), .val (.int w), .val (.lst (l'.map pairP)), at', rest1 p', rest1 q', r'], t⟩ := by
    refine (lcO_map0 (s1 := ⟨[.val (shP sh), .val (.int h), .val (.int w), .val (.lst (l'.map pairP)), at', p', q', r'], t⟩) (ps := l'.map pairP) (fun _ => .bl false) ?_ (fun p hp => ?_) (by rw [List.length_map]; exact small (by omega))).trans ?_
    · simp only [shP, seqS_ap, kSeq_nx, kSeq_rt, kSeq_bk, kSeq_ct, retS_ap, kRet_ap, retN_ap, exprS_ap, kNx_ap, ifS_ap, ifE_ap, ifO_ap, kIf_t, kIf_f, badS_ap, nextS_ap, setS_ap, kSet_v, kSet_o, cellS_ap, kCell_ap, parS_ap, kPar_2, kPar_3, kPar_4, putSl_v, putSl_o, asgS_ap, kAsg_ap, kAsg2_ap, asgT_nm, asgT_tp, asgTs_nil, asgTs_nm, augS_ap, kAug_ap, kAug1_ap, kAug2_ap, nameE_ap, kNm_v, kNm_o, nameB_ap, kNb_o, kNb_v, kNc_cell, kNd_ap, kNc_int, kNc_bl, kNc_non, kNc_str, kNc_tup, kNc_lst, kNc_scr, kNc_dK, kNc_dT, kNc_ins, kMod_o, kMod_c, kMc_ap, kMo_ap, kMd_ap, appE_ap, kAp_ap, kAp2_ap, appU_ok, setIxS_ap, kSi_ap, kSi2_ap, kSi3_ap, setU_lst, augIxS_ap, kAx_ap, kAx1_ap, kAx1b_ap, kAx2_ap, kAx3_ap, kAx4_ap, lixG_ok, sharedE_ap, kSh_ap, plainE_ap, kPl_ap, constE_ap, nilA_ap, consA_ap, kCo_ap, kCo2_ap, nilL_ap, consL_ap, tupE_ap, lstE_ap, kTu_ap, kLs_ap, kOp_ap, kOp_no, binO_ap, kBi_ap, kBi2_ap, binE_ap, kBe_ap, kBe2_ap, chainE_ap, kCh_ap, kCh2_ap, kCh3_t, kCh3_f, kCh4_ap, testE_ap, toB_ap, andE_ap, orE_ap, notE_ap, kAnd_t, kAnd_f, kOr_t, kOr_f, kNot_ap, andT_ap, orT_ap, notT_ap, kAndT_t, kAndT_f, kOrT_t, kOrT_f, kNotT_ap, negE_ap, kNeg_ap, callO_ap, kCall_ap, kFr_ap, kFr_exc, un1O_ap, kUn_ap, un1E_ap, kUe_ap, lenG_lst, lenG_tup, lenG_scr, tupG_lst, tupG_tup, listG_lst, listG_tup, intG_int, intG_bl, absG_int, ixN_ap, kIx_ap, kIx2_ap, kIx3_ap, ixE_ap, kIe_ap, kIe2_ap, ixG_lst, ixG_tup, ixG_scr, noQ_ap, someQ_ap, kSq_ap, cutO_ap, kCt_ap, kCt2_ap, kCt3_ap, cutN_ap, kCn_ap, kCn2_ap, kCn3_ap, kCn4_ap, newK_ap, newT_ap, seqI_ap, seqP_lst, seqP_tup, seqP_scr, range1I_ap, kR1_ap, range2I_ap, kR2_ap, kR2b_ap, forS_ap, bodyF_ap, kBody_rt, kBody_nx, kBody_exc, yesT_ap, ix0, ix1, allG_ok, anyG_ok, sumG_ok, bind_ok, bind_bad, bind_exc, noX_ok, isi_int_int, isi_int_bool, isi_tup_tup, isi_lst_lst, isi_lst_tup, isi_tup_lst, subI_ok, addI_ok, ltI_ok, leI_ok, gtI_ok, geI_ok, cmpI_ok, max2_ok, min2_ok, eq_int, mul_modL, List.set_cons_zero, List.set_cons_succ, List.length_cons, List.length_nil, List.nil_append, List.cons_append, Nat.reduceAdd, Nat.reduceLeDiff, Nat.reduceLT, Nat.le_refl, decide_true, decide_false, Bool.not_true, Bool.not_false, Bool.true_and, Bool.false_and, Bool.and_true, Bool.and_false, Bool.true_or, Bool.false_or, Bool.or_true, Bool.or_false, Bool.false_bne, Bool.true_bne, Int.reduceLT, Int.reduceLE, Int.reducePow, Int.reduceNeg, Int.reduceToNat, if_true, if_false, frameE, List.map_cons, List.map_nil, List.replicate_succ, List.replicate_zero, Nat.reduceSub, List.replicate, ix0, ix1, and_self, true_and, and_true, pow_10_18, forL_nil, forL_ap, kFor_ap, kFor2_nx, kFor2_ct, kFor2_bk, kFor2_rt, lenA_lst, lenA_tup, lenA_scr, lenA_dK, lenA_dT, addI_ap]
    · obtain ⟨x, hx, rfl⟩ := List.mem_map.mp hp
      refine ⟨_, rfl, ?_⟩
      have hb := hl.1.2 x hx
      have hn := hl.2 x hx
      have hne : ¬ x.1 = (h : Int) - 1 := fun e => by
        have e2 : x.1.toNat = h - 1 := by omega
        rw [e2] at hn
        have := hi ((sh.getD (h - 1) []).getD x.2.toNat 0) (getD_mem (by rw [s.rowLen (by omega)]; omega))
        unfold at2 at hn
        omega
      simp only [wipeE, shP, seqS_ap, kSeq_nx, kSeq_rt, kSeq_bk, kSeq_ct, retS_ap, kRet_ap, retN_ap, exprS_ap, kNx_ap, ifS_ap, ifE_ap, ifO_ap, kIf_t, kIf_f, badS_ap, nextS_ap, setS_ap, kSet_v, kSet_o, cellS_ap, kCell_ap, parS_ap, kPar_2, kPar_3, kPar_4, putSl_v, putSl_o, asgS_ap, kAsg_ap, kAsg2_ap, asgT_nm, asgT_tp, asgTs_nil, asgTs_nm, augS_ap, kAug_ap, kAug1_ap, kAug2_ap, nameE_ap, kNm_v, kNm_o, nameB_ap, kNb_o, kNb_v, kNc_cell, kNd_ap, kNc_int, kNc_bl, kNc_non, kNc_str, kNc_tup, kNc_lst, kNc_scr, kNc_dK, kNc_dT, kNc_ins, kMod_o, kMod_c, kMc_ap, kMo_ap, kMd_ap, appE_ap, kAp_ap, kAp2_ap, appU_ok, setIxS_ap, kSi_ap, kSi2_ap, kSi3_ap, setU_lst, augIxS_ap, kAx_ap, kAx1_ap, kAx1b_ap, kAx2_ap, kAx3_ap, kAx4_ap, lixG_ok, sharedE_ap, kSh_ap, plainE_ap, kPl_ap, constE_ap, nilA_ap, consA_ap, kCo_ap, kCo2_ap, nilL_ap, consL_ap, tupE_ap, lstE_ap, kTu_ap, kLs_ap, kOp_ap, kOp_no, binO_ap, kBi_ap, kBi2_ap, binE_ap, kBe_ap, kBe2_ap, chainE_ap, kCh_ap, kCh2_ap, kCh3_t, kCh3_f, kCh4_ap, testE_ap, toB_ap, andE_ap, orE_ap, notE_ap, kAnd_t, kAnd_f, kOr_t, kOr_f, kNot_ap, andT_ap, orT_ap, notT_ap, kAndT_t, kAndT_f, kOrT_t, kOrT_f, kNotT_ap, negE_ap, kNeg_ap, callO_ap, kCall_ap, kFr_ap, kFr_exc, un1O_ap, kUn_ap, un1E_ap, kUe_ap, lenG_lst, lenG_tup, lenG_scr, tupG_lst, tupG_tup, listG_lst, listG_tup, intG_int, intG_bl, absG_int, ixN_ap, kIx_ap, kIx2_ap, kIx3_ap, ixE_ap, kIe_ap, kIe2_ap, ixG_lst, ixG_tup, ixG_scr, noQ_ap, someQ_ap, kSq_ap, cutO_ap, kCt_ap, kCt2_ap, kCt3_ap, cutN_ap, kCn_ap, kCn2_ap, kCn3_ap, kCn4_ap, newK_ap, newT_ap, seqI_ap, seqP_lst, seqP_tup, seqP_scr, range1I_ap, kR1_ap, range2I_ap, kR2_ap, kR2b_ap, forS_ap, bodyF_ap, kBody_rt, kBody_nx, kBody_exc, yesT_ap, ix0, ix1, allG_ok, anyG_ok, sumG_ok, bind_ok, bind_bad, bind_exc, noX_ok, isi_int_int, isi_int_bool, isi_tup_tup, isi_lst_lst, isi_lst_tup, isi_tup_lst, subI_ok, addI_ok, ltI_ok, leI_ok, gtI_ok, geI_ok, cmpI_ok, max2_ok, min2_ok, eq_int, mul_modL, List.set_cons_zero, List.set_cons_succ, List.length_cons, List.length_nil, List.nil_append, List.cons_append, Nat.reduceAdd, Nat.reduceLeDiff, Nat.reduceLT, Nat.le_refl, decide_true, decide_false, Bool.not_true, Bool.not_false, Bool.true_and, Bool.false_and, Bool.and_true, Bool.and_false, Bool.true_or, Bool.false_or, Bool.or_true, Bool.or_false, Bool.false_bne, Bool.true_bne, Int.reduceLT, Int.reduceLE, Int.reducePow, Int.reduceNeg, Int.reduceToNat, if_true, if_false, frameE, List.map_cons, List.map_nil, List.replicate_succ, List.replicate_zero, Nat.reduceSub, List.replicate, ix0, ix1, and_self, true_and, and_true, pow_10_18, forL_nil, forL_ap, kFor_ap, kFor2_nx, kFor2_ct, kFor2_bk, kFor2_rt, lenA_lst, lenA_tup, lenA_scr, lenA_dK, lenA_dT, addI_ap, hne]
    · have e : (l'.map pairP).map (fun _ => PV.bl false) = (l'.map fun _ => false).map .bl := by simp
      rw [e]
      rfl
  have an : ((l'.map fun _ => false).any id) = false := by
    induction l' with
    | nil => rfl
    | cons a b ih => simp
  simp only [shP] at c0 c1 wl
  simp only [F__law_blocked, b__law_blocked, shP, i0, rowP, r0, s.len, seqS_ap, kSeq_nx, kSeq_rt, kSeq_bk, kSeq_ct, retS_ap, kRet_ap, retN_ap, exprS_ap, kNx_ap, ifS_ap, ifE_ap, ifO_ap, kIf_t, kIf_f, badS_ap, nextS_ap, setS_ap, kSet_v, kSet_o, cellS_ap, kCell_ap, parS_ap, kPar_2, kPar_3, kPar_4, putSl_v, putSl_o, asgS_ap, kAsg_ap, kAsg2_ap, asgT_nm, asgT_tp, asgTs_nil, asgTs_nm, augS_ap, kAug_ap, kAug1_ap, kAug2_ap, nameE_ap, kNm_v, kNm_o, nameB_ap, kNb_o, kNb_v, kNc_cell, kNd_ap, kNc_int, kNc_bl, kNc_non, kNc_str, kNc_tup, kNc_lst, kNc_scr, kNc_dK, kNc_dT, kNc_ins, kMod_o, kMod_c, kMc_ap, kMo_ap, kMd_ap, appE_ap, kAp_ap, kAp2_ap, appU_ok, setIxS_ap, kSi_ap, kSi2_ap, kSi3_ap, setU_lst, augIxS_ap, kAx_ap, kAx1_ap, kAx1b_ap, kAx2_ap, kAx3_ap, kAx4_ap, lixG_ok, sharedE_ap, kSh_ap, plainE_ap, kPl_ap, constE_ap, nilA_ap, consA_ap, kCo_ap, kCo2_ap, nilL_ap, consL_ap, tupE_ap, lstE_ap, kTu_ap, kLs_ap, kOp_ap, kOp_no, binO_ap, kBi_ap, kBi2_ap, binE_ap, kBe_ap, kBe2_ap, chainE_ap, kCh_ap, kCh2_ap, kCh3_t, kCh3_f, kCh4_ap, testE_ap, toB_ap, andE_ap, orE_ap, notE_ap, kAnd_t, kAnd_f, kOr_t, kOr_f, kNot_ap, andT_ap, orT_ap, notT_ap, kAndT_t, kAndT_f, kOrT_t, kOrT_f, kNotT_ap, negE_ap, kNeg_ap, callO_ap, kCall_ap, kFr_ap, kFr_exc, un1O_ap, kUn_ap, un1E_ap, kUe_ap, lenG_lst, lenG_tup, lenG_scr, tupG_lst, tupG_tup, listG_lst, listG_tup, intG_int, intG_bl, absG_int, ixN_ap, kIx_ap, kIx2_ap, kIx3_ap, ixE_ap, kIe_ap, kIe2_ap, ixG_lst, ixG_tup, ixG_scr, noQ_ap, someQ_ap, kSq_ap, cutO_ap, kCt_ap, kCt2_ap, kCt3_ap, cutN_ap, kCn_ap, kCn2_ap, kCn3_ap, kCn4_ap, newK_ap, newT_ap, seqI_ap, seqP_lst, seqP_tup, seqP_scr, range1I_ap, kR1_ap, range2I_ap, kR2_ap, kR2b_ap, forS_ap, bodyF_ap, kBody_rt, kBody_nx, kBody_exc, yesT_ap, ix0, ix1, allG_ok, anyG_ok, sumG_ok, bind_ok, bind_bad, bind_exc, noX_ok, isi_int_int, isi_int_bool, isi_tup_tup, isi_lst_lst, isi_lst_tup, isi_tup_lst, subI_ok, addI_ok, ltI_ok, leI_ok, gtI_ok, geI_ok, cmpI_ok, max2_ok, min2_ok, eq_int, mul_modL, List.set_cons_zero, List.set_cons_succ, List.length_cons, List.length_nil, List.nil_append, List.cons_append, Nat.reduceAdd, Nat.reduceLeDiff, Nat.reduceLT, Nat.le_refl, decide_true, decide_false, Bool.not_true, Bool.not_false, Bool.true_and, Bool.false_and, Bool.and_true, Bool.and_false, Bool.true_or, Bool.false_or, Bool.or_true, Bool.or_false, Bool.false_bne, Bool.true_bne, Int.reduceLT, Int.reduceLE, Int.reducePow, Int.reduceNeg, Int.reduceToNat, if_true, if_false, frameE, List.map_cons, List.map_nil, List.replicate_succ, List.replicate_zero, Nat.reduceSub, List.replicate, ix0, ix1, and_self, true_and, and_true, pow_10_18, forL_nil, forL_ap, kFor_ap, kFor2_nx, kFor2_ct, kFor2_bk, kFor2_rt, lenA_lst, lenA_tup, lenA_scr, lenA_dK, lenA_dT, addI_ap, List.length_map, c0, wl, c1, an]
end K63
namespace K63
open PySem DR
/-! ### the places around -/
def nb8 (x : Int × Int) : List (Int × Int) := [(x.1 + -1, x.2 + -1), (x.1 + -1, x.2 + 0), (x.1 + -1, x.2 + 1), (x.1 + 0, x.2 + -1), (x.1 + 0, x.2 + 1), (x.1 + 1, x.2 + -1), (x.1 + 1, x.2 + 0), (x.1 + 1, x.2 + 1)]
def inB (h w : Nat) (x : Int × Int) : Bool := decide (0 ≤ x.1 ∧ x.1 < h ∧ 0 ≤ x.2 ∧ x.2 < w)
theorem eq00 (i j : Int) (b : Bool) (h : decide ((i, j) = ((0 : Int), (0 : Int))) = b) : eqG true (.tup false [.int i, .int j]) (.tup false [.int 0, .int 0]) = some (.bl (!b)) := by
  have := eqG_pair true (i, j) (0, 0)
  rw [h] at this
  rw [show (true != b) = !b by cases b <;> rfl] at this
  exact this
theorem v_around {h w : Nat} (x : Int × Int) (t : DT) : F_around [.int h, .int w, pairP x] t = .ok (.lst (((nb8 x).filter (inB h w)).map pairP)) true t := by
  have c0 : cp0_around ⟨[.val (.int h), .val (.int w), .val (pairP x), .no, .no, .no, .no], t⟩ = .ok (.lst ((nb8 x).map pairP), true) ⟨[.val (.int h), .val (.int w), .val (pairP x), .no, .no, .no, .no], t⟩ := by
    refine (lc2O_0 (s1 := ⟨[.val (.int h), .val (.int w), .val (pairP x), .no, .no, .no, .no], t⟩) (ps := [.int (-1), .int 0, .int 1]) (fun _ => [.int (-1), .int 0, .int 1]) (fun p q => !decide ((toI p, toI q) = ((0 : Int), (0 : Int)))) (fun p q => pairP (x.1 + toI p, x.2 + toI q)) ?_ (fun p hp => ?_) ?_).trans ?_
    · simp only [pairP, seqS_ap, kSeq_nx, kSeq_rt, kSeq_bk, kSeq_ct, retS_ap, kRet_ap, retN_ap, exprS_ap, kNx_ap, ifS_ap, ifE_ap, ifO_ap, kIf_t, kIf_f, badS_ap, nextS_ap, setS_ap, kSet_v, kSet_o, cellS_ap, kCell_ap, parS_ap, kPar_2, kPar_3, kPar_4, putSl_v, putSl_o, asgS_ap, kAsg_ap, kAsg2_ap, asgT_nm, asgT_tp, asgTs_nil, asgTs_nm, augS_ap, kAug_ap, kAug1_ap, kAug2_ap, nameE_ap, kNm_v, kNm_o, nameB_ap, kNb_o, kNb_v, kNc_cell, kNd_ap, kNc_int, kNc_bl, kNc_non, kNc_str, kNc_tup, kNc_lst, kNc_scr, kNc_dK, kNc_dT, kNc_ins, kMod_o, kMod_c, kMc_ap, kMo_ap, kMd_ap, appE_ap, kAp_ap, kAp2_ap, appU_ok, setIxS_ap, kSi_ap, kSi2_ap, kSi3_ap, setU_lst, augIxS_ap, kAx_ap, kAx1_ap, kAx1b_ap, kAx2_ap, kAx3_ap, kAx4_ap, lixG_ok, sharedE_ap, kSh_ap, plainE_ap, kPl_ap, constE_ap, nilA_ap, consA_ap, kCo_ap, kCo2_ap, nilL_ap, consL_ap, tupE_ap, lstE_ap, kTu_ap, kLs_ap, kOp_ap, kOp_no, binO_ap, kBi_ap, kBi2_ap, binE_ap, kBe_ap, kBe2_ap, chainE_ap, kCh_ap, kCh2_ap, kCh3_t, kCh3_f, kCh4_ap, testE_ap, toB_ap, andE_ap, orE_ap, notE_ap, kAnd_t, kAnd_f, kOr_t, kOr_f, kNot_ap, andT_ap, orT_ap, notT_ap, kAndT_t, kAndT_f, kOrT_t, kOrT_f, kNotT_ap, negE_ap, kNeg_ap, callO_ap, kCall_ap, kFr_ap, kFr_exc, un1O_ap, kUn_ap, un1E_ap, kUe_ap, lenG_lst, lenG_tup, lenG_scr, tupG_lst, tupG_tup, listG_lst, listG_tup, intG_int, intG_bl, absG_int, ixN_ap, kIx_ap, kIx2_ap, kIx3_ap, ixE_ap, kIe_ap, kIe2_ap, ixG_lst, ixG_tup, ixG_scr, noQ_ap, someQ_ap, kSq_ap, cutO_ap, kCt_ap, kCt2_ap, kCt3_ap, cutN_ap, kCn_ap, kCn2_ap, kCn3_ap, kCn4_ap, newK_ap, newT_ap, seqI_ap, seqP_lst, seqP_tup, seqP_scr, range1I_ap, kR1_ap, range2I_ap, kR2_ap, kR2b_ap, forS_ap, bodyF_ap, kBody_rt, kBody_nx, kBody_exc, yesT_ap, ix0, ix1, allG_ok, anyG_ok, sumG_ok, bind_ok, bind_bad, bind_exc, noX_ok, isi_int_int, isi_int_bool, isi_tup_tup, isi_lst_lst, isi_lst_tup, isi_tup_lst, subI_ok, addI_ok, ltI_ok, leI_ok, gtI_ok, geI_ok, cmpI_ok, max2_ok, min2_ok, eq_int, mul_modL, List.set_cons_zero, List.set_cons_succ, List.length_cons, List.length_nil, List.nil_append, List.cons_append, Nat.reduceAdd, Nat.reduceLeDiff, Nat.reduceLT, Nat.le_refl, decide_true, decide_false, Bool.not_true, Bool.not_false, Bool.true_and, Bool.false_and, Bool.and_true, Bool.and_false, Bool.true_or, Bool.false_or, Bool.or_true, Bool.or_false, Bool.false_bne, Bool.true_bne, Int.reduceLT, Int.reduceLE, Int.reducePow, Int.reduceNeg, Int.reduceToNat, if_true, if_false, frameE, List.map_cons, List.map_nil, List.replicate_succ, List.replicate_zero, Nat.reduceSub, List.replicate, ix0, ix1, and_self, true_and, and_true, pow_10_18, forL_nil, forL_ap, kFor_ap, kFor2_nx, kFor2_ct, kFor2_bk, kFor2_rt, lenA_lst, lenA_tup, lenA_scr, lenA_dK, lenA_dT, addI_ap]
    · obtain ⟨i, rfl⟩ : ∃ i, p = .int i := by
        simp only [List.mem_cons, List.not_mem_nil, or_false] at hp
        rcases hp with rfl | rfl | rfl <;> exact ⟨_, rfl⟩
      refine ⟨_, rfl, ?_, fun q hq => ?_⟩
      · simp only [wipeE, pairP, seqS_ap, kSeq_nx, kSeq_rt, kSeq_bk, kSeq_ct, retS_ap, kRet_ap, retN_ap, exprS_ap, kNx_ap, ifS_ap, ifE_ap, ifO_ap, kIf_t, kIf_f, badS_ap, nextS_ap, setS_ap, kSet_v, kSet_o, cellS_ap, kCell_ap, parS_ap, kPar_2, kPar_3, kPar_4, putSl_v, putSl_o, asgS_ap, kAsg_ap, kAsg2_ap, asgT_nm, asgT_tp, asgTs_nil, asgTs_nm, augS_ap, kAug_ap, kAug1_ap, kAug2_ap, nameE_ap, kNm_v, kNm_o, nameB_ap, kNb_o, kNb_v, kNc_cell, kNd_ap, kNc_int, kNc_bl, kNc_non, kNc_str, kNc_tup, kNc_lst, kNc_scr, kNc_dK, kNc_dT, kNc_ins, kMod_o, kMod_c, kMc_ap, kMo_ap, kMd_ap, appE_ap, kAp_ap, kAp2_ap, appU_ok, setIxS_ap, kSi_ap, kSi2_ap, kSi3_ap, setU_lst, augIxS_ap, kAx_ap, kAx1_ap, kAx1b_ap, kAx2_ap, kAx3_ap, kAx4_ap, lixG_ok, sharedE_ap, kSh_ap, plainE_ap, kPl_ap, constE_ap, nilA_ap, consA_ap, kCo_ap, kCo2_ap, nilL_ap, consL_ap, tupE_ap, lstE_ap, kTu_ap, kLs_ap, kOp_ap, kOp_no, binO_ap, kBi_ap, kBi2_ap, binE_ap, kBe_ap, kBe2_ap, chainE_ap, kCh_ap, kCh2_ap, kCh3_t, kCh3_f, kCh4_ap, testE_ap, toB_ap, andE_ap, orE_ap, notE_ap, kAnd_t, kAnd_f, kOr_t, kOr_f, kNot_ap, andT_ap, orT_ap, notT_ap, kAndT_t, kAndT_f, kOrT_t, kOrT_f, kNotT_ap, negE_ap, kNeg_ap, callO_ap, kCall_ap, kFr_ap, kFr_exc, un1O_ap, kUn_ap, un1E_ap, kUe_ap, lenG_lst, lenG_tup, lenG_scr, tupG_lst, tupG_tup, listG_lst, listG_tup, intG_int, intG_bl, absG_int, ixN_ap, kIx_ap, kIx2_ap, kIx3_ap, ixE_ap, kIe_ap, kIe2_ap, ixG_lst, ixG_tup, ixG_scr, noQ_ap, someQ_ap, kSq_ap, cutO_ap, kCt_ap, kCt2_ap, kCt3_ap, cutN_ap, kCn_ap, kCn2_ap, kCn3_ap, kCn4_ap, newK_ap, newT_ap, seqI_ap, seqP_lst, seqP_tup, seqP_scr, range1I_ap, kR1_ap, range2I_ap, kR2_ap, kR2b_ap, forS_ap, bodyF_ap, kBody_rt, kBody_nx, kBody_exc, yesT_ap, ix0, ix1, allG_ok, anyG_ok, sumG_ok, bind_ok, bind_bad, bind_exc, noX_ok, isi_int_int, isi_int_bool, isi_tup_tup, isi_lst_lst, isi_lst_tup, isi_tup_lst, subI_ok, addI_ok, ltI_ok, leI_ok, gtI_ok, geI_ok, cmpI_ok, max2_ok, min2_ok, eq_int, mul_modL, List.set_cons_zero, List.set_cons_succ, List.length_cons, List.length_nil, List.nil_append, List.cons_append, Nat.reduceAdd, Nat.reduceLeDiff, Nat.reduceLT, Nat.le_refl, decide_true, decide_false, Bool.not_true, Bool.not_false, Bool.true_and, Bool.false_and, Bool.and_true, Bool.and_false, Bool.true_or, Bool.false_or, Bool.or_true, Bool.or_false, Bool.false_bne, Bool.true_bne, Int.reduceLT, Int.reduceLE, Int.reducePow, Int.reduceNeg, Int.reduceToNat, if_true, if_false, frameE, List.map_cons, List.map_nil, List.replicate_succ, List.replicate_zero, Nat.reduceSub, List.replicate, ix0, ix1, and_self, true_and, and_true, pow_10_18, forL_nil, forL_ap, kFor_ap, kFor2_nx, kFor2_ct, kFor2_bk, kFor2_rt, lenA_lst, lenA_tup, lenA_scr, lenA_dK, lenA_dT, addI_ap]
      · obtain ⟨j, rfl⟩ : ∃ j, q = .int j := by
          simp only [List.mem_cons, List.not_mem_nil, or_false] at hq
          rcases hq with rfl | rfl | rfl <;> exact ⟨_, rfl⟩
        refine ⟨_, rfl, ?_, fun _ => ?_⟩
        · simp only [wipeE, pairP, eq00 i j _ rfl, seqS_ap, kSeq_nx, kSeq_rt, kSeq_bk, kSeq_ct, retS_ap, kRet_ap, retN_ap, exprS_ap, kNx_ap, ifS_ap, ifE_ap, ifO_ap, kIf_t, kIf_f, badS_ap, nextS_ap, setS_ap, kSet_v, kSet_o, cellS_ap, kCell_ap, parS_ap, kPar_2, kPar_3, kPar_4, putSl_v, putSl_o, asgS_ap, kAsg_ap, kAsg2_ap, asgT_nm, asgT_tp, asgTs_nil, asgTs_nm, augS_ap, kAug_ap, kAug1_ap, kAug2_ap, nameE_ap, kNm_v, kNm_o, nameB_ap, kNb_o, kNb_v, kNc_cell, kNd_ap, kNc_int, kNc_bl, kNc_non, kNc_str, kNc_tup, kNc_lst, kNc_scr, kNc_dK, kNc_dT, kNc_ins, kMod_o, kMod_c, kMc_ap, kMo_ap, kMd_ap, appE_ap, kAp_ap, kAp2_ap, appU_ok, setIxS_ap, kSi_ap, kSi2_ap, kSi3_ap, setU_lst, augIxS_ap, kAx_ap, kAx1_ap, kAx1b_ap, kAx2_ap, kAx3_ap, kAx4_ap, lixG_ok, sharedE_ap, kSh_ap, plainE_ap, kPl_ap, constE_ap, nilA_ap, consA_ap, kCo_ap, kCo2_ap, nilL_ap, consL_ap, tupE_ap, lstE_ap, kTu_ap, kLs_ap, kOp_ap, kOp_no, binO_ap, kBi_ap, kBi2_ap, binE_ap, kBe_ap, kBe2_ap, chainE_ap, kCh_ap, kCh2_ap, kCh3_t, kCh3_f, kCh4_ap, testE_ap, toB_ap, andE_ap, orE_ap, notE_ap, kAnd_t, kAnd_f, kOr_t, kOr_f, kNot_ap, andT_ap, orT_ap, notT_ap, kAndT_t, kAndT_f, kOrT_t, kOrT_f, kNotT_ap, negE_ap, kNeg_ap, callO_ap, kCall_ap, kFr_ap, kFr_exc, un1O_ap, kUn_ap, un1E_ap, kUe_ap, lenG_lst, lenG_tup, lenG_scr, tupG_lst, tupG_tup, listG_lst, listG_tup, intG_int, intG_bl, absG_int, ixN_ap, kIx_ap, kIx2_ap, kIx3_ap, ixE_ap, kIe_ap, kIe2_ap, ixG_lst, ixG_tup, ixG_scr, noQ_ap, someQ_ap, kSq_ap, cutO_ap, kCt_ap, kCt2_ap, kCt3_ap, cutN_ap, kCn_ap, kCn2_ap, kCn3_ap, kCn4_ap, newK_ap, newT_ap, seqI_ap, seqP_lst, seqP_tup, seqP_scr, range1I_ap, kR1_ap, range2I_ap, kR2_ap, kR2b_ap, forS_ap, bodyF_ap, kBody_rt, kBody_nx, kBody_exc, yesT_ap, ix0, ix1, allG_ok, anyG_ok, sumG_ok, bind_ok, bind_bad, bind_exc, noX_ok, isi_int_int, isi_int_bool, isi_tup_tup, isi_lst_lst, isi_lst_tup, isi_tup_lst, subI_ok, addI_ok, ltI_ok, leI_ok, gtI_ok, geI_ok, cmpI_ok, max2_ok, min2_ok, eq_int, mul_modL, List.set_cons_zero, List.set_cons_succ, List.length_cons, List.length_nil, List.nil_append, List.cons_append, Nat.reduceAdd, Nat.reduceLeDiff, Nat.reduceLT, Nat.le_refl, decide_true, decide_false, Bool.not_true, Bool.not_false, Bool.true_and, Bool.false_and, Bool.and_true, Bool.and_false, Bool.true_or, Bool.false_or, Bool.or_true, Bool.or_false, Bool.false_bne, Bool.true_bne, Int.reduceLT, Int.reduceLE, Int.reducePow, Int.reduceNeg, Int.reduceToNat, if_true, if_false, frameE, List.map_cons, List.map_nil, List.replicate_succ, List.replicate_zero, Nat.reduceSub, List.replicate, ix0, ix1, and_self, true_and, and_true, pow_10_18, forL_nil, forL_ap, kFor_ap, kFor2_nx, kFor2_ct, kFor2_bk, kFor2_rt, lenA_lst, lenA_tup, lenA_scr, lenA_dK, lenA_dT, addI_ap, toI]
          rfl
        · simp only [wipeE, pairP, seqS_ap, kSeq_nx, kSeq_rt, kSeq_bk, kSeq_ct, retS_ap, kRet_ap, retN_ap, exprS_ap, kNx_ap, ifS_ap, ifE_ap, ifO_ap, kIf_t, kIf_f, badS_ap, nextS_ap, setS_ap, kSet_v, kSet_o, cellS_ap, kCell_ap, parS_ap, kPar_2, kPar_3, kPar_4, putSl_v, putSl_o, asgS_ap, kAsg_ap, kAsg2_ap, asgT_nm, asgT_tp, asgTs_nil, asgTs_nm, augS_ap, kAug_ap, kAug1_ap, kAug2_ap, nameE_ap, kNm_v, kNm_o, nameB_ap, kNb_o, kNb_v, kNc_cell, kNd_ap, kNc_int, kNc_bl, kNc_non, kNc_str, kNc_tup, kNc_lst, kNc_scr, kNc_dK, kNc_dT, kNc_ins, kMod_o, kMod_c, kMc_ap, kMo_ap, kMd_ap, appE_ap, kAp_ap, kAp2_ap, appU_ok, setIxS_ap, kSi_ap, kSi2_ap, kSi3_ap, setU_lst, augIxS_ap, kAx_ap, kAx1_ap, kAx1b_ap, kAx2_ap, kAx3_ap, kAx4_ap, lixG_ok, sharedE_ap, kSh_ap, plainE_ap, kPl_ap, constE_ap, nilA_ap, consA_ap, kCo_ap, kCo2_ap, nilL_ap, consL_ap, tupE_ap, lstE_ap, kTu_ap, kLs_ap, kOp_ap, kOp_no, binO_ap, kBi_ap, kBi2_ap, binE_ap, kBe_ap, kBe2_ap, chainE_ap, kCh_ap, kCh2_ap, kCh3_t, kCh3_f, kCh4_ap, testE_ap, toB_ap, andE_ap, orE_ap, notE_ap, kAnd_t, kAnd_f, kOr_t, kOr_f, kNot_ap, andT_ap, orT_ap, notT_ap, kAndT_t, kAndT_f, kOrT_t, kOrT_f, kNotT_ap, negE_ap, kNeg_ap, callO_ap, kCall_ap, kFr_ap, kFr_exc, un1O_ap, kUn_ap, un1E_ap, kUe_ap, lenG_lst, lenG_tup, lenG_scr, tupG_lst, tupG_tup, listG_lst, listG_tup, intG_int, intG_bl, absG_int, ixN_ap, kIx_ap, kIx2_ap, kIx3_ap, ixE_ap, kIe_ap, kIe2_ap, ixG_lst, ixG_tup, ixG_scr, noQ_ap, someQ_ap, kSq_ap, cutO_ap, kCt_ap, kCt2_ap, kCt3_ap, cutN_ap, kCn_ap, kCn2_ap, kCn3_ap, kCn4_ap, newK_ap, newT_ap, seqI_ap, seqP_lst, seqP_tup, seqP_scr, range1I_ap, kR1_ap, range2I_ap, kR2_ap, kR2b_ap, forS_ap, bodyF_ap, kBody_rt, kBody_nx, kBody_exc, yesT_ap, ix0, ix1, allG_ok, anyG_ok, sumG_ok, bind_ok, bind_bad, bind_exc, noX_ok, isi_int_int, isi_int_bool, isi_tup_tup, isi_lst_lst, isi_lst_tup, isi_tup_lst, subI_ok, addI_ok, ltI_ok, leI_ok, gtI_ok, geI_ok, cmpI_ok, max2_ok, min2_ok, eq_int, mul_modL, List.set_cons_zero, List.set_cons_succ, List.length_cons, List.length_nil, List.nil_append, List.cons_append, Nat.reduceAdd, Nat.reduceLeDiff, Nat.reduceLT, Nat.le_refl, decide_true, decide_false, Bool.not_true, Bool.not_false, Bool.true_and, Bool.false_and, Bool.and_true, Bool.and_false, Bool.true_or, Bool.false_or, Bool.or_true, Bool.or_false, Bool.false_bne, Bool.true_bne, Int.reduceLT, Int.reduceLE, Int.reducePow, Int.reduceNeg, Int.reduceToNat, if_true, if_false, frameE, List.map_cons, List.map_nil, List.replicate_succ, List.replicate_zero, Nat.reduceSub, List.replicate, ix0, ix1, and_self, true_and, and_true, pow_10_18, forL_nil, forL_ap, kFor_ap, kFor2_nx, kFor2_ct, kFor2_bk, kFor2_rt, lenA_lst, lenA_tup, lenA_scr, lenA_dK, lenA_dT, addI_ap, toI]
    · simp only [List.flatMap_cons, List.flatMap_nil, List.length_append, List.length_cons, List.length_nil]
      exact small (by decide)
    · rfl
  have c1 : cp1_around ⟨[.val (.int h), .val (.int w), .val (pairP x), .own (.lst ((nb8 x).map pairP)), .no, .no, .no], t⟩ = .ok (.lst (((nb8 x).filter (inB h w)).map pairP), true) ⟨[.val (.int h), .val (.int w), .val (pairP x), .val (.lst ((nb8 x).map pairP)), .no, .no, .no], t⟩ := by
    refine (lcO_flt0 (s1 := ⟨[.val (.int h), .val (.int w), .val (pairP x), .val (.lst ((nb8 x).map pairP)), .no, .no, .no], t⟩) (ps := (nb8 x).map pairP) (fun p => match p with | .tup _ [.int i, .int j] => inB h w (i, j) | _ => false) id ?_ (fun p hp => ?_) (small (by simp [nb8]))).trans ?_
    · simp only [pairP, seqS_ap, kSeq_nx, kSeq_rt, kSeq_bk, kSeq_ct, retS_ap, kRet_ap, retN_ap, exprS_ap, kNx_ap, ifS_ap, ifE_ap, ifO_ap, kIf_t, kIf_f, badS_ap, nextS_ap, setS_ap, kSet_v, kSet_o, cellS_ap, kCell_ap, parS_ap, kPar_2, kPar_3, kPar_4, putSl_v, putSl_o, asgS_ap, kAsg_ap, kAsg2_ap, asgT_nm, asgT_tp, asgTs_nil, asgTs_nm, augS_ap, kAug_ap, kAug1_ap, kAug2_ap, nameE_ap, kNm_v, kNm_o, nameB_ap, kNb_o, kNb_v, kNc_cell, kNd_ap, kNc_int, kNc_bl, kNc_non, kNc_str, kNc_tup, kNc_lst, kNc_scr, kNc_dK, kNc_dT, kNc_ins, kMod_o, kMod_c, kMc_ap, kMo_ap, kMd_ap, appE_ap, kAp_ap, kAp2_ap, appU_ok, setIxS_ap, kSi_ap, kSi2_ap, kSi3_ap, setU_lst, augIxS_ap, kAx_ap, kAx1_ap, kAx1b_ap, kAx2_ap, kAx3_ap, kAx4_ap, lixG_ok, sharedE_ap, kSh_ap, plainE_ap, kPl_ap, constE_ap, nilA_ap, consA_ap, kCo_ap, kCo2_ap, nilL_ap, consL_ap, tupE_ap, lstE_ap, kTu_ap, kLs_ap, kOp_ap, kOp_no, binO_ap, kBi_ap, kBi2_ap, binE_ap, kBe_ap, kBe2_ap, chainE_ap, kCh_ap, kCh2_ap, kCh3_t, kCh3_f, kCh4_ap, testE_ap, toB_ap, andE_ap, orE_ap, notE_ap, kAnd_t, kAnd_f, kOr_t, kOr_f, kNot_ap, andT_ap, orT_ap, notT_ap, kAndT_t, kAndT_f, kOrT_t, kOrT_f, kNotT_ap, negE_ap, kNeg_ap, callO_ap, kCall_ap, kFr_ap, kFr_exc, un1O_ap, kUn_ap, un1E_ap, kUe_ap, lenG_lst, lenG_tup, lenG_scr, tupG_lst, tupG_tup, listG_lst, listG_tup, intG_int, intG_bl, absG_int, ixN_ap, kIx_ap, kIx2_ap, kIx3_ap, ixE_ap, kIe_ap, kIe2_ap, ixG_lst, ixG_tup, ixG_scr, noQ_ap, someQ_ap, kSq_ap, cutO_ap, kCt_ap, kCt2_ap, kCt3_ap, cutN_ap, kCn_ap, kCn2_ap, kCn3_ap, kCn4_ap, newK_ap, newT_ap, seqI_ap, seqP_lst, seqP_tup, seqP_scr, range1I_ap, kR1_ap, range2I_ap, kR2_ap, kR2b_ap, forS_ap, bodyF_ap, kBody_rt, kBody_nx, kBody_exc, yesT_ap, ix0, ix1, allG_ok, anyG_ok, sumG_ok, bind_ok, bind_bad, bind_exc, noX_ok, isi_int_int, isi_int_bool, isi_tup_tup, isi_lst_lst, isi_lst_tup, isi_tup_lst, subI_ok, addI_ok, ltI_ok, leI_ok, gtI_ok, geI_ok, cmpI_ok, max2_ok, min2_ok, eq_int, mul_modL, List.set_cons_zero, List.set_cons_succ, List.length_cons, List.length_nil, List.nil_append, List.cons_append, Nat.reduceAdd, Nat.reduceLeDiff, Nat.reduceLT, Nat.le_refl, decide_true, decide_false, Bool.not_true, Bool.not_false, Bool.true_and, Bool.false_and, Bool.and_true, Bool.and_false, Bool.true_or, Bool.false_or, Bool.or_true, Bool.or_false, Bool.false_bne, Bool.true_bne, Int.reduceLT, Int.reduceLE, Int.reducePow, Int.reduceNeg, Int.reduceToNat, if_true, if_false, frameE, List.map_cons, List.map_nil, List.replicate_succ, List.replicate_zero, Nat.reduceSub, List.replicate, ix0, ix1, and_self, true_and, and_true, pow_10_18, forL_nil, forL_ap, kFor_ap, kFor2_nx, kFor2_ct, kFor2_bk, kFor2_rt, lenA_lst, lenA_tup, lenA_scr, lenA_dK, lenA_dT, addI_ap]
    · obtain ⟨y, hy, rfl⟩ := List.mem_map.mp hp
      refine ⟨_, rfl, ?_, fun _ => ?_⟩
      · simp only [pairP, inB]
        by_cases g1 : 0 ≤ y.1
        · by_cases g2 : y.1 < h
          · by_cases g3 : 0 ≤ y.2
            · by_cases g4 : y.2 < w
              · simp only [wipeE, seqS_ap, kSeq_nx, kSeq_rt, kSeq_bk, kSeq_ct, retS_ap, kRet_ap, retN_ap, exprS_ap, kNx_ap, ifS_ap, ifE_ap, ifO_ap, kIf_t, kIf_f, badS_ap, nextS_ap, setS_ap, kSet_v, kSet_o, cellS_ap, kCell_ap, parS_ap, kPar_2, kPar_3, kPar_4, putSl_v, putSl_o, asgS_ap, kAsg_ap, kAsg2_ap, asgT_nm, asgT_tp, asgTs_nil, asgTs_nm, augS_ap, kAug_ap, kAug1_ap, kAug2_ap, nameE_ap, kNm_v, kNm_o, nameB_ap, kNb_o, kNb_v, kNc_cell, kNd_ap, kNc_int, kNc_bl, kNc_non, kNc_str, kNc_tup, kNc_lst, kNc_scr, kNc_dK, kNc_dT, kNc_ins, kMod_o, kMod_c, kMc_ap, kMo_ap, kMd_ap, appE_ap, kAp_ap, kAp2_ap, appU_ok, setIxS_ap, kSi_ap, kSi2_ap, kSi3_ap, setU_lst, augIxS_ap, kAx_ap, kAx1_ap, kAx1b_ap, kAx2_ap, kAx3_ap, kAx4_ap, lixG_ok, sharedE_ap, kSh_ap, plainE_ap, kPl_ap, constE_ap, nilA_ap, consA_ap, kCo_ap, kCo2_ap, nilL_ap, consL_ap, tupE_ap, lstE_ap, kTu_ap, kLs_ap, kOp_ap, kOp_no, binO_ap, kBi_ap, kBi2_ap, binE_ap, kBe_ap, kBe2_ap, chainE_ap, kCh_ap, kCh2_ap, kCh3_t, kCh3_f, kCh4_ap, testE_ap, toB_ap, andE_ap, orE_ap, notE_ap, kAnd_t, kAnd_f, kOr_t, kOr_f, kNot_ap, andT_ap, orT_ap, notT_ap, kAndT_t, kAndT_f, kOrT_t, kOrT_f, kNotT_ap, negE_ap, kNeg_ap, callO_ap, kCall_ap, kFr_ap, kFr_exc, un1O_ap, kUn_ap, un1E_ap, kUe_ap, lenG_lst, lenG_tup, lenG_scr, tupG_lst, tupG_tup, listG_lst, listG_tup, intG_int, intG_bl, absG_int, ixN_ap, kIx_ap, kIx2_ap, kIx3_ap, ixE_ap, kIe_ap, kIe2_ap, ixG_lst, ixG_tup, ixG_scr, noQ_ap, someQ_ap, kSq_ap, cutO_ap, kCt_ap, kCt2_ap, kCt3_ap, cutN_ap, kCn_ap, kCn2_ap, kCn3_ap, kCn4_ap, newK_ap, newT_ap, seqI_ap, seqP_lst, seqP_tup, seqP_scr, range1I_ap, kR1_ap, range2I_ap, kR2_ap, kR2b_ap, forS_ap, bodyF_ap, kBody_rt, kBody_nx, kBody_exc, yesT_ap, ix0, ix1, allG_ok, anyG_ok, sumG_ok, bind_ok, bind_bad, bind_exc, noX_ok, isi_int_int, isi_int_bool, isi_tup_tup, isi_lst_lst, isi_lst_tup, isi_tup_lst, subI_ok, addI_ok, ltI_ok, leI_ok, gtI_ok, geI_ok, cmpI_ok, max2_ok, min2_ok, eq_int, mul_modL, List.set_cons_zero, List.set_cons_succ, List.length_cons, List.length_nil, List.nil_append, List.cons_append, Nat.reduceAdd, Nat.reduceLeDiff, Nat.reduceLT, Nat.le_refl, decide_true, decide_false, Bool.not_true, Bool.not_false, Bool.true_and, Bool.false_and, Bool.and_true, Bool.and_false, Bool.true_or, Bool.false_or, Bool.or_true, Bool.or_false, Bool.false_bne, Bool.true_bne, Int.reduceLT, Int.reduceLE, Int.reducePow, Int.reduceNeg, Int.reduceToNat, if_true, if_false, frameE, List.map_cons, List.map_nil, List.replicate_succ, List.replicate_zero, Nat.reduceSub, List.replicate, ix0, ix1, and_self, true_and, and_true, pow_10_18, forL_nil, forL_ap, kFor_ap, kFor2_nx, kFor2_ct, kFor2_bk, kFor2_rt, lenA_lst, lenA_tup, lenA_scr, lenA_dK, lenA_dT, addI_ap, g1, g2, g3, g4]
              · simp only [wipeE, seqS_ap, kSeq_nx, kSeq_rt, kSeq_bk, kSeq_ct, retS_ap, kRet_ap, retN_ap, exprS_ap, kNx_ap, ifS_ap, ifE_ap, ifO_ap, kIf_t, kIf_f, badS_ap, nextS_ap, setS_ap, kSet_v, kSet_o, cellS_ap, kCell_ap, parS_ap, kPar_2, kPar_3, kPar_4, putSl_v, putSl_o, asgS_ap, kAsg_ap, kAsg2_ap, asgT_nm, asgT_tp, asgTs_nil, asgTs_nm, augS_ap, kAug_ap, kAug1_ap, kAug2_ap, nameE_ap, kNm_v, kNm_o, nameB_ap, kNb_o, kNb_v, kNc_cell, kNd_ap, kNc_int, kNc_bl, kNc_non, kNc_str, kNc_tup, kNc_lst, kNc_scr, kNc_dK, kNc_dT, kNc_ins, kMod_o, kMod_c, kMc_ap, kMo_ap, kMd_ap, appE_ap, kAp_ap, kAp2_ap, appU_ok, setIxS_ap, kSi_ap, kSi2_ap, kSi3_ap, setU_lst, augIxS_ap, kAx_ap, kAx1_ap, kAx1b_ap, kAx2_ap, kAx3_ap, kAx4_ap, lixG_ok, sharedE_ap, kSh_ap, plainE_ap, kPl_ap, constE_ap, nilA_ap, consA_ap, kCo_ap, kCo2_ap, nilL_ap, consL_ap, tupE_ap, lstE_ap, kTu_ap, kLs_ap, kOp_ap, kOp_no, binO_ap, kBi_ap, kBi2_ap, binE_ap, kBe_ap, kBe2_ap, chainE_ap, kCh_ap, kCh2_ap, kCh3_t, kCh3_f, kCh4_ap, testE_ap, toB_ap, andE_ap, orE_ap, notE_ap, kAnd_t, kAnd_f, kOr_t, kOr_f, kNot_ap, andT_ap, orT_ap, notT_ap, kAndT_t, kAndT_f, kOrT_t, kOrT_f, kNotT_ap, negE_ap, kNeg_ap, callO_ap, kCall_ap, kFr_ap, kFr_exc, un1O_ap, kUn_ap, un1E_ap, kUe_ap, lenG_lst, lenG_tup, lenG_scr, tupG_lst, tupG_tup, listG_lst, listG_tup, intG_int, intG_bl, absG_int, ixN_ap, kIx_ap, kIx2_ap, kIx3_ap, ixE_ap, kIe_ap, kIe2_ap, ixG_lst, ixG_tup, ixG_scr, noQ_ap, someQ_ap, kSq_ap, cutO_ap, kCt_ap, kCt2_ap, kCt3_ap, cutN_ap, kCn_ap, kCn2_ap, kCn3_ap, kCn4_ap, newK_ap, newT_ap, seqI_ap, seqP_lst, seqP_tup, seqP_scr, range1I_ap, kR1_ap, range2I_ap, kR2_ap, kR2b_ap, forS_ap, bodyF_ap, kBody_rt, kBody_nx, kBody_exc, yesT_ap, ix0, ix1, allG_ok, anyG_ok, sumG_ok, bind_ok, bind_bad, bind_exc, noX_ok, isi_int_int, isi_int_bool, isi_tup_tup, isi_lst_lst, isi_lst_tup, isi_tup_lst, subI_ok, addI_ok, ltI_ok, leI_ok, gtI_ok, geI_ok, cmpI_ok, max2_ok, min2_ok, eq_int, mul_modL, List.set_cons_zero, List.set_cons_succ, List.length_cons, List.length_nil, List.nil_append, List.cons_append, Nat.reduceAdd, Nat.reduceLeDiff, Nat.reduceLT, Nat.le_refl, decide_true, decide_false, Bool.not_true, Bool.not_false, Bool.true_and, Bool.false_and, Bool.and_true, Bool.and_false, Bool.true_or, Bool.false_or, Bool.or_true, Bool.or_false, Bool.false_bne, Bool.true_bne, Int.reduceLT, Int.reduceLE, Int.reducePow, Int.reduceNeg, Int.reduceToNat, if_true, if_false, frameE, List.map_cons, List.map_nil, List.replicate_succ, List.replicate_zero, Nat.reduceSub, List.replicate, ix0, ix1, and_self, true_and, and_true, pow_10_18, forL_nil, forL_ap, kFor_ap, kFor2_nx, kFor2_ct, kFor2_bk, kFor2_rt, lenA_lst, lenA_tup, lenA_scr, lenA_dK, lenA_dT, addI_ap, g1, g2, g3, g4, and_false]
            · simp only [wipeE, seqS_ap, kSeq_nx, kSeq_rt, kSeq_bk, kSeq_ct, retS_ap, kRet_ap, retN_ap, exprS_ap, kNx_ap, ifS_ap, ifE_ap, ifO_ap, kIf_t, kIf_f, badS_ap, nextS_ap, setS_ap, kSet_v, kSet_o, cellS_ap, kCell_ap, parS_ap, kPar_2, kPar_3, kPar_4, putSl_v, putSl_o, asgS_ap, kAsg_ap, kAsg2_ap, asgT_nm, asgT_tp, asgTs_nil, asgTs_nm, augS_ap, kAug_ap, kAug1_ap, kAug2_ap, nameE_ap, kNm_v, kNm_o, nameB_ap, kNb_o, kNb_v, kNc_cell, kNd_ap, kNc_int, kNc_bl, kNc_non, kNc_str, kNc_tup, kNc_lst, kNc_scr, kNc_dK, kNc_dT, kNc_ins, kMod_o, kMod_c, kMc_ap, kMo_ap, kMd_ap, appE_ap, kAp_ap, kAp2_ap, appU_ok, setIxS_ap, kSi_ap, kSi2_ap, kSi3_ap, setU_lst, augIxS_ap, kAx_ap, kAx1_ap, kAx1b_ap, kAx2_ap, kAx3_ap, kAx4_ap, lixG_ok, sharedE_ap, kSh_ap, plainE_ap, kPl_ap, constE_ap, nilA_ap, consA_ap, kCo_ap, kCo2_ap, nilL_ap, consL_ap, tupE_ap, lstE_ap, kTu_ap, kLs_ap, kOp_ap, kOp_no, binO_ap, kBi_ap, kBi2_ap, binE_ap, kBe_ap, kBe2_ap, chainE_ap, kCh_ap, kCh2_ap, kCh3_t, kCh3_f, kCh4_ap, testE_ap, toB_ap, andE_ap, orE_ap, notE_ap, kAnd_t, kAnd_f, kOr_t, kOr_f, kNot_ap, andT_ap, orT_ap, notT_ap, kAndT_t, kAndT_f, kOrT_t, kOrT_f, kNotT_ap, negE_ap, kNeg_ap, callO_ap, kCall_ap, kFr_ap, kFr_exc, un1O_ap, kUn_ap, un1E_ap, kUe_ap, lenG_lst, lenG_tup, lenG_scr, tupG_lst, tupG_tup, listG_lst, listG_tup, intG_int, intG_bl, absG_int, ixN_ap, kIx_ap, kIx2_ap, kIx3_ap, ixE_ap, kIe_ap, kIe2_ap, ixG_lst, ixG_tup, ixG_scr, noQ_ap, someQ_ap, kSq_ap, cutO_ap, kCt_ap, kCt2_ap, kCt3_ap, cutN_ap, kCn_ap, kCn2_ap, kCn3_ap, kCn4_ap, newK_ap, newT_ap, seqI_ap, seqP_lst, seqP_tup, seqP_scr, range1I_ap, kR1_ap, range2I_ap, kR2_ap, kR2b_ap, forS_ap, bodyF_ap, kBody_rt, kBody_nx, kBody_exc, yesT_ap, ix0, ix1, allG_ok, anyG_ok, sumG_ok, bind_ok, bind_bad, bind_exc, noX_ok, isi_int_int, isi_int_bool, isi_tup_tup, isi_lst_lst, isi_lst_tup, isi_tup_lst, subI_ok, addI_ok, ltI_ok, leI_ok, gtI_ok, geI_ok, cmpI_ok, max2_ok, min2_ok, eq_int, mul_modL, List.set_cons_zero, List.set_cons_succ, List.length_cons, List.length_nil, List.nil_append, List.cons_append, Nat.reduceAdd, Nat.reduceLeDiff, Nat.reduceLT, Nat.le_refl, decide_true, decide_false, Bool.not_true, Bool.not_false, Bool.true_and, Bool.false_and, Bool.and_true, Bool.and_false, Bool.true_or, Bool.false_or, Bool.or_true, Bool.or_false, Bool.false_bne, Bool.true_bne, Int.reduceLT, Int.reduceLE, Int.reducePow, Int.reduceNeg, Int.reduceToNat, if_true, if_false, frameE, List.map_cons, List.map_nil, List.replicate_succ, List.replicate_zero, Nat.reduceSub, List.replicate, ix0, ix1, and_self, true_and, and_true, pow_10_18, forL_nil, forL_ap, kFor_ap, kFor2_nx, kFor2_ct, kFor2_bk, kFor2_rt, lenA_lst, lenA_tup, lenA_scr, lenA_dK, lenA_dT, addI_ap, g1, g2, g3, false_and, and_false]
          · simp only [wipeE, seqS_ap, kSeq_nx, kSeq_rt, kSeq_bk, kSeq_ct, retS_ap, kRet_ap, retN_ap, exprS_ap, kNx_ap, ifS_ap, ifE_ap, ifO_ap, kIf_t, kIf_f, badS_ap, nextS_ap, setS_ap, kSet_v, kSet_o, cellS_ap, kCell_ap, parS_ap, kPar_2, kPar_3, kPar_4, putSl_v, putSl_o, asgS_ap, kAsg_ap, kAsg2_ap, asgT_nm, asgT_tp, asgTs_nil, asgTs_nm, augS_ap, kAug_ap, kAug1_ap, kAug2_ap, nameE_ap, kNm_v, kNm_o, nameB_ap, kNb_o, kNb_v, kNc_cell, kNd_ap, kNc_int, kNc_bl, kNc_non, kNc_str, kNc_tup, kNc_lst, kNc_scr, kNc_dK, kNc_dT, kNc_ins, kMod_o, kMod_c, kMc_ap, kMo_ap, kMd_ap, appE_ap, kAp_ap, kAp2_ap, appU_ok, setIxS_ap, kSi_ap, kSi2_ap, kSi3_ap, setU_lst, augIxS_ap, kAx_ap, kAx1_ap, kAx1b_ap, kAx2_ap, kAx3_ap, kAx4_ap, lixG_ok, sharedE_ap, kSh_ap, plainE_ap, kPl_ap, constE_ap, nilA_ap, consA_ap, kCo_ap, kCo2_ap, nilL_ap, consL_ap, tupE_ap, lstE_ap, kTu_ap, kLs_ap, kOp_ap, kOp_no, binO_ap, kBi_ap, kBi2_ap, binE_ap, kBe_ap, kBe2_ap, chainE_ap, kCh_ap, kCh2_ap, kCh3_t, kCh3_f, kCh4_ap, testE_ap, toB_ap, andE_ap, orE_ap, notE_ap, kAnd_t, kAnd_f, kOr_t, kOr_f, kNot_ap, andT_ap, orT_ap, notT_ap, kAndT_t, kAndT_f, kOrT_t, kOrT_f, kNotT_ap, negE_ap, kNeg_ap, callO_ap, kCall_ap, kFr_ap, kFr_exc, un1O_ap, kUn_ap, un1E_ap, kUe_ap, lenG_lst, lenG_tup, lenG_scr, tupG_lst, tupG_tup, listG_lst, listG_tup, intG_int, intG_bl, absG_int, ixN_ap, kIx_ap, kIx2_ap, kIx3_ap, ixE_ap, kIe_ap, kIe2_ap, ixG_lst, ixG_tup, ixG_scr, noQ_ap, someQ_ap, kSq_ap, cutO_ap, kCt_ap, kCt2_ap, kCt3_ap, cutN_ap, kCn_ap, kCn2_ap, kCn3_ap, kCn4_ap, newK_ap, newT_ap, seqI_ap, seqP_lst, seqP_tup, seqP_scr, range1I_ap, kR1_ap, range2I_ap, kR2_ap, kR2b_ap, forS_ap, bodyF_ap, kBody_rt, kBody_nx, kBody_exc, yesT_ap, ix0, ix1, allG_ok, anyG_ok, sumG_ok, bind_ok, bind_bad, bind_exc, noX_ok, isi_int_int, isi_int_bool, isi_tup_tup, isi_lst_lst, isi_lst_tup, isi_tup_lst, subI_ok, addI_ok, ltI_ok, leI_ok, gtI_ok, geI_ok, cmpI_ok, max2_ok, min2_ok, eq_int, mul_modL, List.set_cons_zero, List.set_cons_succ, List.length_cons, List.length_nil, List.nil_append, List.cons_append, Nat.reduceAdd, Nat.reduceLeDiff, Nat.reduceLT, Nat.le_refl, decide_true, decide_false, Bool.not_true, Bool.not_false, Bool.true_and, Bool.false_and, Bool.and_true, Bool.and_false, Bool.true_or, Bool.false_or, Bool.or_true, Bool.or_false, Bool.false_bne, Bool.true_bne, Int.reduceLT, Int.reduceLE, Int.reducePow, Int.reduceNeg, Int.reduceToNat, if_true, if_false, frameE, List.map_cons, List.map_nil, List.replicate_succ, List.replicate_zero, Nat.reduceSub, List.replicate, ix0, ix1, and_self, true_and, and_true, pow_10_18, forL_nil, forL_ap, kFor_ap, kFor2_nx, kFor2_ct, kFor2_bk, kFor2_rt, lenA_lst, lenA_tup, lenA_scr, lenA_dK, lenA_dT, addI_ap, g1, g2, false_and, and_false]
        · simp only [wipeE, seqS_ap, kSeq_nx, kSeq_rt, kSeq_bk, kSeq_ct, retS_ap, kRet_ap, retN_ap, exprS_ap, kNx_ap, ifS_ap, ifE_ap, ifO_ap, kIf_t, kIf_f, badS_ap, nextS_ap, setS_ap, kSet_v, kSet_o, cellS_ap, kCell_ap, parS_ap, kPar_2, kPar_3, kPar_4, putSl_v, putSl_o, asgS_ap, kAsg_ap, kAsg2_ap, asgT_nm, asgT_tp, asgTs_nil, asgTs_nm, augS_ap, kAug_ap, kAug1_ap, kAug2_ap, nameE_ap, kNm_v, kNm_o, nameB_ap, kNb_o, kNb_v, kNc_cell, kNd_ap, kNc_int, kNc_bl, kNc_non, kNc_str, kNc_tup, kNc_lst, kNc_scr, kNc_dK, kNc_dT, kNc_ins, kMod_o, kMod_c, kMc_ap, kMo_ap, kMd_ap, appE_ap, kAp_ap, kAp2_ap, appU_ok, setIxS_ap, kSi_ap, kSi2_ap, kSi3_ap, setU_lst, augIxS_ap, kAx_ap, kAx1_ap, kAx1b_ap, kAx2_ap, kAx3_ap, kAx4_ap, lixG_ok, sharedE_ap, kSh_ap, plainE_ap, kPl_ap, constE_ap, nilA_ap, consA_ap, kCo_ap, kCo2_ap, nilL_ap, consL_ap, tupE_ap, lstE_ap, kTu_ap, kLs_ap, kOp_ap, kOp_no, binO_ap, kBi_ap, kBi2_ap, binE_ap, kBe_ap, kBe2_ap, chainE_ap, kCh_ap, kCh2_ap, kCh3_t, kCh3_f, kCh4_ap, testE_ap, toB_ap, andE_ap, orE_ap, notE_ap, kAnd_t, kAnd_f, kOr_t, kOr_f, kNot_ap, andT_ap, orT_ap, notT_ap, kAndT_t, kAndT_f, kOrT_t, kOrT_f, kNotT_ap, negE_ap, kNeg_ap, callO_ap, kCall_ap, kFr_ap, kFr_exc, un1O_ap, kUn_ap, un1E_ap, kUe_ap, lenG_lst, lenG_tup, lenG_scr, tupG_lst, tupG_tup, listG_lst, listG_tup, intG_int, intG_bl, absG_int, ixN_ap, kIx_ap, kIx2_ap, kIx3_ap, ixE_ap, kIe_ap, kIe2_ap, ixG_lst, ixG_tup, ixG_scr, noQ_ap, someQ_ap, kSq_ap, cutO_ap, kCt_ap, kCt2_ap, kCt3_ap, cutN_ap, kCn_ap, kCn2_ap, kCn3_ap, kCn4_ap, newK_ap, newT_ap, seqI_ap, seqP_lst, seqP_tup, seqP_scr, range1I_ap, kR1_ap, range2I_ap, kR2_ap, kR2b_ap, forS_ap, bodyF_ap, kBody_rt, kBody_nx, kBody_exc, yesT_ap, ix0, ix1, allG_ok, anyG_ok, sumG_ok, bind_ok, bind_bad, bind_exc, noX_ok, isi_int_int, isi_int_bool, isi_tup_tup, isi_lst_lst, isi_lst_tup, isi_tup_lst, subI_ok, addI_ok, ltI_ok, leI_ok, gtI_ok, geI_ok, cmpI_ok, max2_ok, min2_ok, eq_int, mul_modL, List.set_cons_zero, List.set_cons_succ, List.length_cons, List.length_nil, List.nil_append, List.cons_append, Nat.reduceAdd, Nat.reduceLeDiff, Nat.reduceLT, Nat.le_refl, decide_true, decide_false, Bool.not_true, Bool.not_false, Bool.true_and, Bool.false_and, Bool.and_true, Bool.and_false, Bool.true_or, Bool.false_or, Bool.or_true, Bool.or_false, Bool.false_bne, Bool.true_bne, Int.reduceLT, Int.reduceLE, Int.reducePow, Int.reduceNeg, Int.reduceToNat, if_true, if_false, frameE, List.map_cons, List.map_nil, List.replicate_succ, List.replicate_zero, Nat.reduceSub, List.replicate, ix0, ix1, and_self, true_and, and_true, pow_10_18, forL_nil, forL_ap, kFor_ap, kFor2_nx, kFor2_ct, kFor2_bk, kFor2_rt, lenA_lst, lenA_tup, lenA_scr, lenA_dK, lenA_dT, addI_ap, g1, false_and]
      · simp only [wipeE, seqS_ap, kSeq_nx, kSeq_rt, kSeq_bk, kSeq_ct, retS_ap, kRet_ap, retN_ap, exprS_ap, kNx_ap, ifS_ap, ifE_ap, ifO_ap, kIf_t, kIf_f, badS_ap, nextS_ap, setS_ap, kSet_v, kSet_o, cellS_ap, kCell_ap, parS_ap, kPar_2, kPar_3, kPar_4, putSl_v, putSl_o, asgS_ap, kAsg_ap, kAsg2_ap, asgT_nm, asgT_tp, asgTs_nil, asgTs_nm, augS_ap, kAug_ap, kAug1_ap, kAug2_ap, nameE_ap, kNm_v, kNm_o, nameB_ap, kNb_o, kNb_v, kNc_cell, kNd_ap, kNc_int, kNc_bl, kNc_non, kNc_str, kNc_tup, kNc_lst, kNc_scr, kNc_dK, kNc_dT, kNc_ins, kMod_o, kMod_c, kMc_ap, kMo_ap, kMd_ap, appE_ap, kAp_ap, kAp2_ap, appU_ok, setIxS_ap, kSi_ap, kSi2_ap, kSi3_ap, setU_lst, augIxS_ap, kAx_ap, kAx1_ap, kAx1b_ap, kAx2_ap, kAx3_ap, kAx4_ap, lixG_ok, sharedE_ap, kSh_ap, plainE_ap, kPl_ap, constE_ap, nilA_ap, consA_ap, kCo_ap, kCo2_ap, nilL_ap, consL_ap, tupE_ap, lstE_ap, kTu_ap, kLs_ap, kOp_ap, kOp_no, binO_ap, kBi_ap, kBi2_ap, binE_ap, kBe_ap, kBe2_ap, chainE_ap, kCh_ap, kCh2_ap, kCh3_t, kCh3_f, kCh4_ap, testE_ap, toB_ap, andE_ap, orE_ap, notE_ap, kAnd_t, kAnd_f, kOr_t, kOr_f, kNot_ap, andT_ap, orT_ap, notT_ap, kAndT_t, kAndT_f, kOrT_t, kOrT_f, kNotT_ap, negE_ap, kNeg_ap, callO_ap, kCall_ap, kFr_ap, kFr_exc, un1O_ap, kUn_ap, un1E_ap, kUe_ap, lenG_lst, lenG_tup, lenG_scr, tupG_lst, tupG_tup, listG_lst, listG_tup, intG_int, intG_bl, absG_int, ixN_ap, kIx_ap, kIx2_ap, kIx3_ap, ixE_ap, kIe_ap, kIe2_ap, ixG_lst, ixG_tup, ixG_scr, noQ_ap, someQ_ap, kSq_ap, cutO_ap, kCt_ap, kCt2_ap, kCt3_ap, cutN_ap, kCn_ap, kCn2_ap, kCn3_ap, kCn4_ap, newK_ap, newT_ap, seqI_ap, seqP_lst, seqP_tup, seqP_scr, range1I_ap, kR1_ap, range2I_ap, kR2_ap, kR2b_ap, forS_ap, bodyF_ap, kBody_rt, kBody_nx, kBody_exc, yesT_ap, ix0, ix1, allG_ok, anyG_ok, sumG_ok, bind_ok, bind_bad, bind_exc, noX_ok, isi_int_int, isi_int_bool, isi_tup_tup, isi_lst_lst, isi_lst_tup, isi_tup_lst, subI_ok, addI_ok, ltI_ok, leI_ok, gtI_ok, geI_ok, cmpI_ok, max2_ok, min2_ok, eq_int, mul_modL, List.set_cons_zero, List.set_cons_succ, List.length_cons, List.length_nil, List.nil_append, List.cons_append, Nat.reduceAdd, Nat.reduceLeDiff, Nat.reduceLT, Nat.le_refl, decide_true, decide_false, Bool.not_true, Bool.not_false, Bool.true_and, Bool.false_and, Bool.and_true, Bool.and_false, Bool.true_or, Bool.false_or, Bool.or_true, Bool.or_false, Bool.false_bne, Bool.true_bne, Int.reduceLT, Int.reduceLE, Int.reducePow, Int.reduceNeg, Int.reduceToNat, if_true, if_false, frameE, List.map_cons, List.map_nil, List.replicate_succ, List.replicate_zero, Nat.reduceSub, List.replicate, ix0, ix1, and_self, true_and, and_true, pow_10_18, forL_nil, forL_ap, kFor_ap, kFor2_nx, kFor2_ct, kFor2_bk, kFor2_rt, lenA_lst, lenA_tup, lenA_scr, lenA_dK, lenA_dT, addI_ap, id]
    · have e : ∀ l : List (Int × Int), ((l.map pairP).filter fun p => match p with | .tup _ [.int i, .int j] => inB h w (i, j) | _ => false).map id = (l.filter (inB h w)).map pairP := fun l => by
        induction l with
        | nil => rfl
        | cons y l ih =>
          simp only [List.map_id] at ih
          by_cases g : inB h w y = true
          · have g' : inB h w (y.1, y.2) = true := g
            simp [g, g', ih]
          · have g' : ¬ inB h w (y.1, y.2) = true := g
            simp [g, g', ih]
      rw [e]
      rfl
  simp only [pairP] at c0 c1
  simp only [F_around, b_around, pairP, seqS_ap, kSeq_nx, kSeq_rt, kSeq_bk, kSeq_ct, retS_ap, kRet_ap, retN_ap, exprS_ap, kNx_ap, ifS_ap, ifE_ap, ifO_ap, kIf_t, kIf_f, badS_ap, nextS_ap, setS_ap, kSet_v, kSet_o, cellS_ap, kCell_ap, parS_ap, kPar_2, kPar_3, kPar_4, putSl_v, putSl_o, asgS_ap, kAsg_ap, kAsg2_ap, asgT_nm, asgT_tp, asgTs_nil, asgTs_nm, augS_ap, kAug_ap, kAug1_ap, kAug2_ap, nameE_ap, kNm_v, kNm_o, nameB_ap, kNb_o, kNb_v, kNc_cell, kNd_ap, kNc_int, kNc_bl, kNc_non, kNc_str, kNc_tup, kNc_lst, kNc_scr, kNc_dK, kNc_dT, kNc_ins, kMod_o, kMod_c, kMc_ap, kMo_ap, kMd_ap, appE_ap, kAp_ap, kAp2_ap, appU_ok, setIxS_ap, kSi_ap, kSi2_ap, kSi3_ap, setU_lst, augIxS_ap, kAx_ap, kAx1_ap, kAx1b_ap, kAx2_ap, kAx3_ap, kAx4_ap, lixG_ok, sharedE_ap, kSh_ap, plainE_ap, kPl_ap, constE_ap, nilA_ap, consA_ap, kCo_ap, kCo2_ap, nilL_ap, consL_ap, tupE_ap, lstE_ap, kTu_ap, kLs_ap, kOp_ap, kOp_no, binO_ap, kBi_ap, kBi2_ap, binE_ap, kBe_ap, kBe2_ap, chainE_ap, kCh_ap, kCh2_ap, kCh3_t, kCh3_f, kCh4_ap, testE_ap, toB_ap, andE_ap, orE_ap, notE_ap, kAnd_t, kAnd_f, kOr_t, kOr_f, kNot_ap, andT_ap, orT_ap, notT_ap, kAndT_t, kAndT_f, kOrT_t, kOrT_f, kNotT_ap, negE_ap, kNeg_ap, callO_ap, kCall_ap, kFr_ap, kFr_exc, un1O_ap, kUn_ap, un1E_ap, kUe_ap, lenG_lst, lenG_tup, lenG_scr, tupG_lst, tupG_tup, listG_lst, listG_tup, intG_int, intG_bl, absG_int, ixN_ap, kIx_ap, kIx2_ap, kIx3_ap, ixE_ap, kIe_ap, kIe2_ap, ixG_lst, ixG_tup, ixG_scr, noQ_ap, someQ_ap, kSq_ap, cutO_ap, kCt_ap, kCt2_ap, kCt3_ap, cutN_ap, kCn_ap, kCn2_ap, kCn3_ap, kCn4_ap, newK_ap, newT_ap, seqI_ap, seqP_lst, seqP_tup, seqP_scr, range1I_ap, kR1_ap, range2I_ap, kR2_ap, kR2b_ap, forS_ap, bodyF_ap, kBody_rt, kBody_nx, kBody_exc, yesT_ap, ix0, ix1, allG_ok, anyG_ok, sumG_ok, bind_ok, bind_bad, bind_exc, noX_ok, isi_int_int, isi_int_bool, isi_tup_tup, isi_lst_lst, isi_lst_tup, isi_tup_lst, subI_ok, addI_ok, ltI_ok, leI_ok, gtI_ok, geI_ok, cmpI_ok, max2_ok, min2_ok, eq_int, mul_modL, List.set_cons_zero, List.set_cons_succ, List.length_cons, List.length_nil, List.nil_append, List.cons_append, Nat.reduceAdd, Nat.reduceLeDiff, Nat.reduceLT, Nat.le_refl, decide_true, decide_false, Bool.not_true, Bool.not_false, Bool.true_and, Bool.false_and, Bool.and_true, Bool.and_false, Bool.true_or, Bool.false_or, Bool.or_true, Bool.or_false, Bool.false_bne, Bool.true_bne, Int.reduceLT, Int.reduceLE, Int.reducePow, Int.reduceNeg, Int.reduceToNat, if_true, if_false, frameE, List.map_cons, List.map_nil, List.replicate_succ, List.replicate_zero, Nat.reduceSub, List.replicate, ix0, ix1, and_self, true_and, and_true, pow_10_18, forL_nil, forL_ap, kFor_ap, kFor2_nx, kFor2_ct, kFor2_bk, kFor2_rt, lenA_lst, lenA_tup, lenA_scr, lenA_dK, lenA_dT, addI_ap, c0, c1]
/-! ### what the search keeps -/
abbrev En := (Int × Int) × Option (Int × Int)
abbrev keyOf (x : Int × Int) : List L2.Key := [.inl x.1, .inl x.2]
def valOf : Option (Int × Int) → PV
  | none => .non
  | some p => pairP p
abbrev kv (e : En) : List L2.Key × PV := (keyOf e.1, valOf e.2)
def look : List En → Int × Int → Option (Option (Int × Int))
  | [], _ => none
  | e :: E, c => if e.1 = c then some e.2 else look E c
theorem key_inj {x y : Int × Int} : keyOf x = keyOf y ↔ x = y := by
  constructor
  · intro h
    simp only [keyOf, List.cons.injEq, Sum.inl.injEq, and_true] at h
    exact Prod.ext h.1 h.2
  · rintro rfl; rfl
theorem atP_look (c : Int × Int) : ∀ E : List En, atP (E.map kv) (keyOf c) = (look E c).map valOf
  | [] => rfl
  | e :: E => by
    simp only [List.map_cons, atP, look]
    by_cases h : e.1 = c
    · rw [if_pos h, if_pos (by rw [h])]
      rfl
    · rw [if_neg h, if_neg fun z => h (key_inj.mp z)]
      exact atP_look c E
theorem look_none {c : Int × Int} : ∀ {E : List En}, look E c = none ↔ c ∉ E.map (·.1)
  | [] => by simp [look]
  | e :: E => by
    simp only [look, List.map_cons, List.mem_cons, not_or]
    by_cases h : e.1 = c
    · simp [h]
    · rw [if_neg h, look_none]
      simp [Ne.symm h]
theorem look_some {c : Int × Int} {o : Option (Int × Int)} : ∀ {E : List En}, look E c = some o → ∃ i : Nat, E[i]? = some (c, o)
  | [], h => by simp [look] at h
  | e :: E, h => by
    simp only [look] at h
    by_cases k : e.1 = c
    · rw [if_pos k] at h
      exact ⟨0, by rw [← k, ← Option.some.inj h]; rfl⟩
    · rw [if_neg k] at h
      obtain ⟨i, hi⟩ := look_some h
      exact ⟨i + 1, by simpa using hi⟩
theorem put_new {E : List En} {c : Int × Int} (o : Option (Int × Int)) (h : look E c = none) : putP (E.map kv) (keyOf c) (valOf o) = (E ++ [(c, o)]).map kv := by
  unfold putP
  rw [atP_look, h]
  simp
structure Tree (sh : List (List Int)) (h w : Nat) (E : List En) : Prop where
  bd : Board h w (E.map (·.1))
  zr : ∀ e ∈ E, at2 sh e.1.1.toNat e.1.2.toNat = 0
  rt : ∀ e ∈ E, e.2 = none → e.1.2 = 0
  up : ∀ (i : Nat) (e : En) (p : Int × Int), E[i]? = some e → e.2 = some p → ∃ (j : Nat) (e' : En), j < i ∧ E[j]? = some e' ∧ e'.1 = p ∧ e.1.2 ≤ p.2 + 1
theorem Tree.snoc {sh : List (List Int)} {h w : Nat} {E : List En} (T : Tree sh h w E) {c : Int × Int} {o : Option (Int × Int)} (hn : look E c = none) (hb : 0 ≤ c.1 ∧ c.1 < h ∧ 0 ≤ c.2 ∧ c.2 < w) (hz : at2 sh c.1.toNat c.2.toNat = 0) (hr : o = none → c.2 = 0) (hu : ∀ p, o = some p → p ∈ E.map (·.1) ∧ c.2 ≤ p.2 + 1) : Tree sh h w (E ++ [(c, o)]) := by
  refine ⟨?_, fun e he => ?_, fun e he => ?_, fun i e p hi hp => ?_⟩
  · rw [List.map_append]
    exact T.bd.snoc (look_none.mp hn) hb
  · rcases List.mem_append.mp he with z | z
    · exact T.zr e z
    · rw [List.mem_singleton.mp z]; exact hz
  · rcases List.mem_append.mp he with z | z
    · exact T.rt e z
    · rw [List.mem_singleton.mp z]; exact hr
  · by_cases hl : i < E.length
    · rw [List.getElem?_append_left hl] at hi
      obtain ⟨j, e', h1, h2, h3⟩ := T.up i e p hi hp
      exact ⟨j, e', h1, by rw [List.getElem?_append_left (by omega)]; exact h2, h3⟩
    · rw [List.getElem?_append_right (by omega)] at hi
      have hi0 : i = E.length := by
        have := (List.getElem?_eq_some_iff.mp hi).1
        simp at this
        omega
      subst hi0
      rw [Nat.sub_self] at hi
      cases hi
      obtain ⟨m1, m2⟩ := hu p hp
      obtain ⟨e', he', rfl⟩ := List.mem_map.mp m1
      obtain ⟨j, hj, rfl⟩ := List.mem_iff_getElem.mp he'
      exact ⟨j, E[j], hj, by rw [List.getElem?_append_left hj, List.getElem?_eq_getElem hj], rfl, m2⟩
theorem Tree.le {sh : List (List Int)} {h w : Nat} {E : List En} (T : Tree sh h w E) : E.length ≤ h * w := by
  have := T.bd.le
  rwa [List.length_map] at this
/-! the state -/
abbrev st (sh : List (List Int)) (h w : Nat) (E : List En) (a b c d : Sl) (at_ : Int) : DE := [.val (shP sh), .val (.int h), .val (.int w), .own (.dT (E.map kv)), .own (.lst (E.map fun e => pairP e.1)), .val (.int at_), a, b, c, d]
theorem ixG_dT {l : List (List L2.Key × PV)} {x : Int × Int} : ixG (.dT l) (.tup false [.int x.1, .int x.2]) = atP l (keyOf x) := by
  show ((some (atP l (keyOf x))).bind id) = _
  rfl
theorem inG_dT {l : List (List L2.Key × PV)} {x : Int × Int} (n : Bool) : inG n (.tup false [.int x.1, .int x.2]) (.dT l) = some (.bl (n != (atP l (keyOf x)).isSome)) := rfl
theorem setU_dT {l : List (List L2.Key × PV)} {i j : Int} {q : PV} (hl : l.length < sizeLine) : setU (.tup false [.int i, .int j]) q (.dT l) = some (.dT (putP l [.inl i, .inl j] q), .non) := by
  simp [setU, hl, keysP, keyP]
theorem is_non : isG true .non .non = some (.bl false) := rfl
theorem is_tup {c : Bool} {ps : List PV} : isG true (.tup c ps) .non = some (.bl true) := rfl
end K63
namespace K63
open PySem DR
theorem look_at : ∀ {E : List En} {i : Nat} {e : En}, (E.map (·.1)).Nodup → E[i]? = some e → look E e.1 = some e.2
  | [], _, _, _, h => by simp at h
  | a :: E, 0, e, _, h => by
    simp at h
    subst h
    simp [look]
  | a :: E, i + 1, e, hd, h => by
    simp only [List.map_cons, List.nodup_cons] at hd
    have hm : e ∈ E := List.mem_of_getElem? (by simpa using h)
    have hne : ¬ a.1 = e.1 := fun z => hd.1 (by rw [z]; exact List.mem_map.mpr ⟨e, hm, rfl⟩)
    simp only [look]
    rw [if_neg hne]
    exact look_at hd.2 (by simpa using h)
section
variable {h w : Nat} {sh : List (List Int)}
theorem bd2_ok (s : Sheet h w sh) {E : List En} (T : Tree sh h w E) {o c : Int × Int} (ho : o ∈ E.map (·.1)) (hc : 0 ≤ c.1 ∧ c.1 < h ∧ 0 ≤ c.2 ∧ c.2 < w) (hco : c.2 ≤ o.2 + 1) (a f : Sl) (at_ : Int) (t : DT) :
    ∃ E', Tree sh h w E' ∧ E <+: E' ∧ (at2 sh c.1.toNat c.2.toNat = 0 → c ∈ E'.map (·.1)) ∧ bd2_line_of ⟨st sh h w E a (.val (pairP o)) f (.val (pairP c)) at_, t⟩ = .ok .nx ⟨st sh h w E' a (.val (pairP o)) f (.val (pairP c)) at_, t⟩ := by
  have h2 := s.h2
  have w2 := s.w2
  have le := T.le
  have h64 : h * w ≤ 8 * 8 := Nat.mul_le_mul h2 w2
  have big : 100 ≤ sizeLine := by decide
  have hr := s.rowLen (a := c.1.toNat) (by omega)
  have i1 := ix_shI (c := false) (sh := sh) (i := c.1) hc.1 (by rw [s.len]; omega)
  have i2 := ix_rowI (c := false) (r := sh.getD c.1.toNat []) (i := c.2) hc.2.2.1 (by rw [hr]; omega)
  cases hk : look E c with
  | some v =>
    refine ⟨E, T, List.prefix_refl _, fun _ => ?_, ?_⟩
    · obtain ⟨i, hi⟩ := look_some hk
      exact List.mem_map.mpr ⟨_, List.mem_of_getElem? hi, rfl⟩
    · have m : inG true (pairP c) (.dT (E.map kv)) = some (.bl false) := by rw [pairP, inG_dT, atP_look, hk]; rfl
      simp only [pairP] at m
      simp only [bd2_line_of, st, shP, pairP, m, seqS_ap, kSeq_nx, kSeq_rt, kSeq_bk, kSeq_ct, retS_ap, kRet_ap, retN_ap, exprS_ap, kNx_ap, ifS_ap, ifE_ap, ifO_ap, kIf_t, kIf_f, badS_ap, nextS_ap, setS_ap, kSet_v, kSet_o, cellS_ap, kCell_ap, parS_ap, kPar_2, kPar_3, kPar_4, putSl_v, putSl_o, asgS_ap, kAsg_ap, kAsg2_ap, asgT_nm, asgT_tp, asgTs_nil, asgTs_nm, augS_ap, kAug_ap, kAug1_ap, kAug2_ap, nameE_ap, kNm_v, kNm_o, nameB_ap, kNb_o, kNb_v, kNc_cell, kNd_ap, kNc_int, kNc_bl, kNc_non, kNc_str, kNc_tup, kNc_lst, kNc_scr, kNc_dK, kNc_dT, kNc_ins, kMod_o, kMod_c, kMc_ap, kMo_ap, kMd_ap, appE_ap, kAp_ap, kAp2_ap, appU_ok, setIxS_ap, kSi_ap, kSi2_ap, kSi3_ap, setU_lst, augIxS_ap, kAx_ap, kAx1_ap, kAx1b_ap, kAx2_ap, kAx3_ap, kAx4_ap, lixG_ok, sharedE_ap, kSh_ap, plainE_ap, kPl_ap, constE_ap, nilA_ap, consA_ap, kCo_ap, kCo2_ap, nilL_ap, consL_ap, tupE_ap, lstE_ap, kTu_ap, kLs_ap, kOp_ap, kOp_no, binO_ap, kBi_ap, kBi2_ap, binE_ap, kBe_ap, kBe2_ap, chainE_ap, kCh_ap, kCh2_ap, kCh3_t, kCh3_f, kCh4_ap, testE_ap, toB_ap, andE_ap, orE_ap, notE_ap, kAnd_t, kAnd_f, kOr_t, kOr_f, kNot_ap, andT_ap, orT_ap, notT_ap, kAndT_t, kAndT_f, kOrT_t, kOrT_f, kNotT_ap, negE_ap, kNeg_ap, callO_ap, kCall_ap, kFr_ap, kFr_exc, un1O_ap, kUn_ap, un1E_ap, kUe_ap, lenG_lst, lenG_tup, lenG_scr, tupG_lst, tupG_tup, listG_lst, listG_tup, intG_int, intG_bl, absG_int, ixN_ap, kIx_ap, kIx2_ap, kIx3_ap, ixE_ap, kIe_ap, kIe2_ap, ixG_lst, ixG_tup, ixG_scr, noQ_ap, someQ_ap, kSq_ap, cutO_ap, kCt_ap, kCt2_ap, kCt3_ap, cutN_ap, kCn_ap, kCn2_ap, kCn3_ap, kCn4_ap, newK_ap, newT_ap, seqI_ap, seqP_lst, seqP_tup, seqP_scr, range1I_ap, kR1_ap, range2I_ap, kR2_ap, kR2b_ap, forS_ap, bodyF_ap, kBody_rt, kBody_nx, kBody_exc, yesT_ap, ix0, ix1, allG_ok, anyG_ok, sumG_ok, bind_ok, bind_bad, bind_exc, noX_ok, isi_int_int, isi_int_bool, isi_tup_tup, isi_lst_lst, isi_lst_tup, isi_tup_lst, subI_ok, addI_ok, ltI_ok, leI_ok, gtI_ok, geI_ok, cmpI_ok, max2_ok, min2_ok, eq_int, mul_modL, List.set_cons_zero, List.set_cons_succ, List.length_cons, List.length_nil, List.nil_append, List.cons_append, Nat.reduceAdd, Nat.reduceLeDiff, Nat.reduceLT, Nat.le_refl, decide_true, decide_false, Bool.not_true, Bool.not_false, Bool.true_and, Bool.false_and, Bool.and_true, Bool.and_false, Bool.true_or, Bool.false_or, Bool.or_true, Bool.or_false, Bool.false_bne, Bool.true_bne, Int.reduceLT, Int.reduceLE, Int.reducePow, Int.reduceNeg, Int.reduceToNat, if_true, if_false, frameE, List.map_cons, List.map_nil, List.replicate_succ, List.replicate_zero, Nat.reduceSub, List.replicate, ix0, ix1, and_self, true_and, and_true, pow_10_18, forL_nil, forL_ap, kFor_ap, kFor2_nx, kFor2_ct, kFor2_bk, kFor2_rt, lenA_lst, lenA_tup, lenA_scr, lenA_dK, lenA_dT, addI_ap]
  | none =>
    have m : inG true (pairP c) (.dT (E.map kv)) = some (.bl true) := by rw [pairP, inG_dT, atP_look, hk]; rfl
    by_cases z : (sh.getD c.1.toNat []).getD c.2.toNat 0 = 0
    · refine ⟨E ++ [(c, some o)], T.snoc hk hc z (fun e => by cases e) (fun p hp => by cases hp; exact ⟨ho, hco⟩), List.prefix_append _ _, fun _ => by simp, ?_⟩
      have pn := put_new (E := E) (some o) hk
      have su := setU_dT (l := E.map kv) (i := c.1) (j := c.2) (q := pairP o) (by rw [List.length_map]; omega)
      have pe : putP (E.map kv) [.inl c.1, .inl c.2] (pairP o) = (E ++ [(c, some o)]).map kv := pn
      rw [pe] at su
      have ap : ∀ q, appU q (.lst (E.map fun e => pairP e.1)) = some (.lst ((E.map fun e => pairP e.1) ++ [q]), .non) := fun q => appU_ok (by rw [List.length_map]; omega)
      have mp : (E ++ [(c, some o)]).map (fun e => pairP e.1) = (E.map fun e => pairP e.1) ++ [pairP c] := by simp
      simp only [pairP] at m su ap mp
      simp only [bd2_line_of, st, shP, pairP, m, i1, rowP, i2, z, mp, su, ap, seqS_ap, kSeq_nx, kSeq_rt, kSeq_bk, kSeq_ct, retS_ap, kRet_ap, retN_ap, exprS_ap, kNx_ap, ifS_ap, ifE_ap, ifO_ap, kIf_t, kIf_f, badS_ap, nextS_ap, setS_ap, kSet_v, kSet_o, cellS_ap, kCell_ap, parS_ap, kPar_2, kPar_3, kPar_4, putSl_v, putSl_o, asgS_ap, kAsg_ap, kAsg2_ap, asgT_nm, asgT_tp, asgTs_nil, asgTs_nm, augS_ap, kAug_ap, kAug1_ap, kAug2_ap, nameE_ap, kNm_v, kNm_o, nameB_ap, kNb_o, kNb_v, kNc_cell, kNd_ap, kNc_int, kNc_bl, kNc_non, kNc_str, kNc_tup, kNc_lst, kNc_scr, kNc_dK, kNc_dT, kNc_ins, kMod_o, kMod_c, kMc_ap, kMo_ap, kMd_ap, appE_ap, kAp_ap, kAp2_ap, appU_ok, setIxS_ap, kSi_ap, kSi2_ap, kSi3_ap, setU_lst, augIxS_ap, kAx_ap, kAx1_ap, kAx1b_ap, kAx2_ap, kAx3_ap, kAx4_ap, lixG_ok, sharedE_ap, kSh_ap, plainE_ap, kPl_ap, constE_ap, nilA_ap, consA_ap, kCo_ap, kCo2_ap, nilL_ap, consL_ap, tupE_ap, lstE_ap, kTu_ap, kLs_ap, kOp_ap, kOp_no, binO_ap, kBi_ap, kBi2_ap, binE_ap, kBe_ap, kBe2_ap, chainE_ap, kCh_ap, kCh2_ap, kCh3_t, kCh3_f, kCh4_ap, testE_ap, toB_ap, andE_ap, orE_ap, notE_ap, kAnd_t, kAnd_f, kOr_t, kOr_f, kNot_ap, andT_ap, orT_ap, notT_ap, kAndT_t, kAndT_f, kOrT_t, kOrT_f, kNotT_ap, negE_ap, kNeg_ap, callO_ap, kCall_ap, kFr_ap, kFr_exc, un1O_ap, kUn_ap, un1E_ap, kUe_ap, lenG_lst, lenG_tup, lenG_scr, tupG_lst, tupG_tup, listG_lst, listG_tup, intG_int, intG_bl, absG_int, ixN_ap, kIx_ap, kIx2_ap, kIx3_ap, ixE_ap, kIe_ap, kIe2_ap, ixG_lst, ixG_tup, ixG_scr, noQ_ap, someQ_ap, kSq_ap, cutO_ap, kCt_ap, kCt2_ap, kCt3_ap, cutN_ap, kCn_ap, kCn2_ap, kCn3_ap, kCn4_ap, newK_ap, newT_ap, seqI_ap, seqP_lst, seqP_tup, seqP_scr, range1I_ap, kR1_ap, range2I_ap, kR2_ap, kR2b_ap, forS_ap, bodyF_ap, kBody_rt, kBody_nx, kBody_exc, yesT_ap, ix0, ix1, allG_ok, anyG_ok, sumG_ok, bind_ok, bind_bad, bind_exc, noX_ok, isi_int_int, isi_int_bool, isi_tup_tup, isi_lst_lst, isi_lst_tup, isi_tup_lst, subI_ok, addI_ok, ltI_ok, leI_ok, gtI_ok, geI_ok, cmpI_ok, max2_ok, min2_ok, eq_int, mul_modL, List.set_cons_zero, List.set_cons_succ, List.length_cons, List.length_nil, List.nil_append, List.cons_append, Nat.reduceAdd, Nat.reduceLeDiff, Nat.reduceLT, Nat.le_refl, decide_true, decide_false, Bool.not_true, Bool.not_false, Bool.true_and, Bool.false_and, Bool.and_true, Bool.and_false, Bool.true_or, Bool.false_or, Bool.or_true, Bool.or_false, Bool.false_bne, Bool.true_bne, Int.reduceLT, Int.reduceLE, Int.reducePow, Int.reduceNeg, Int.reduceToNat, if_true, if_false, frameE, List.map_cons, List.map_nil, List.replicate_succ, List.replicate_zero, Nat.reduceSub, List.replicate, ix0, ix1, and_self, true_and, and_true, pow_10_18, forL_nil, forL_ap, kFor_ap, kFor2_nx, kFor2_ct, kFor2_bk, kFor2_rt, lenA_lst, lenA_tup, lenA_scr, lenA_dK, lenA_dT, addI_ap]
    · refine ⟨E, T, List.prefix_refl _, fun y => absurd y z, ?_⟩
      simp only [pairP] at m
      simp only [bd2_line_of, st, shP, pairP, m, i1, rowP, i2, z, seqS_ap, kSeq_nx, kSeq_rt, kSeq_bk, kSeq_ct, retS_ap, kRet_ap, retN_ap, exprS_ap, kNx_ap, ifS_ap, ifE_ap, ifO_ap, kIf_t, kIf_f, badS_ap, nextS_ap, setS_ap, kSet_v, kSet_o, cellS_ap, kCell_ap, parS_ap, kPar_2, kPar_3, kPar_4, putSl_v, putSl_o, asgS_ap, kAsg_ap, kAsg2_ap, asgT_nm, asgT_tp, asgTs_nil, asgTs_nm, augS_ap, kAug_ap, kAug1_ap, kAug2_ap, nameE_ap, kNm_v, kNm_o, nameB_ap, kNb_o, kNb_v, kNc_cell, kNd_ap, kNc_int, kNc_bl, kNc_non, kNc_str, kNc_tup, kNc_lst, kNc_scr, kNc_dK, kNc_dT, kNc_ins, kMod_o, kMod_c, kMc_ap, kMo_ap, kMd_ap, appE_ap, kAp_ap, kAp2_ap, appU_ok, setIxS_ap, kSi_ap, kSi2_ap, kSi3_ap, setU_lst, augIxS_ap, kAx_ap, kAx1_ap, kAx1b_ap, kAx2_ap, kAx3_ap, kAx4_ap, lixG_ok, sharedE_ap, kSh_ap, plainE_ap, kPl_ap, constE_ap, nilA_ap, consA_ap, kCo_ap, kCo2_ap, nilL_ap, consL_ap, tupE_ap, lstE_ap, kTu_ap, kLs_ap, kOp_ap, kOp_no, binO_ap, kBi_ap, kBi2_ap, binE_ap, kBe_ap, kBe2_ap, chainE_ap, kCh_ap, kCh2_ap, kCh3_t, kCh3_f, kCh4_ap, testE_ap, toB_ap, andE_ap, orE_ap, notE_ap, kAnd_t, kAnd_f, kOr_t, kOr_f, kNot_ap, andT_ap, orT_ap, notT_ap, kAndT_t, kAndT_f, kOrT_t, kOrT_f, kNotT_ap, negE_ap, kNeg_ap, callO_ap, kCall_ap, kFr_ap, kFr_exc, un1O_ap, kUn_ap, un1E_ap, kUe_ap, lenG_lst, lenG_tup, lenG_scr, tupG_lst, tupG_tup, listG_lst, listG_tup, intG_int, intG_bl, absG_int, ixN_ap, kIx_ap, kIx2_ap, kIx3_ap, ixE_ap, kIe_ap, kIe2_ap, ixG_lst, ixG_tup, ixG_scr, noQ_ap, someQ_ap, kSq_ap, cutO_ap, kCt_ap, kCt2_ap, kCt3_ap, cutN_ap, kCn_ap, kCn2_ap, kCn3_ap, kCn4_ap, newK_ap, newT_ap, seqI_ap, seqP_lst, seqP_tup, seqP_scr, range1I_ap, kR1_ap, range2I_ap, kR2_ap, kR2b_ap, forS_ap, bodyF_ap, kBody_rt, kBody_nx, kBody_exc, yesT_ap, ix0, ix1, allG_ok, anyG_ok, sumG_ok, bind_ok, bind_bad, bind_exc, noX_ok, isi_int_int, isi_int_bool, isi_tup_tup, isi_lst_lst, isi_lst_tup, isi_tup_lst, subI_ok, addI_ok, ltI_ok, leI_ok, gtI_ok, geI_ok, cmpI_ok, max2_ok, min2_ok, eq_int, mul_modL, List.set_cons_zero, List.set_cons_succ, List.length_cons, List.length_nil, List.nil_append, List.cons_append, Nat.reduceAdd, Nat.reduceLeDiff, Nat.reduceLT, Nat.le_refl, decide_true, decide_false, Bool.not_true, Bool.not_false, Bool.true_and, Bool.false_and, Bool.and_true, Bool.and_false, Bool.true_or, Bool.false_or, Bool.or_true, Bool.or_false, Bool.false_bne, Bool.true_bne, Int.reduceLT, Int.reduceLE, Int.reducePow, Int.reduceNeg, Int.reduceToNat, if_true, if_false, frameE, List.map_cons, List.map_nil, List.replicate_succ, List.replicate_zero, Nat.reduceSub, List.replicate, ix0, ix1, and_self, true_and, and_true, pow_10_18, forL_nil, forL_ap, kFor_ap, kFor2_nx, kFor2_ct, kFor2_bk, kFor2_rt, lenA_lst, lenA_tup, lenA_scr, lenA_dK, lenA_dT, addI_ap]
theorem nb8_near {x y : Int × Int} (h : y ∈ nb8 x) : y.2 ≤ x.2 + 1 := by
  simp only [nb8, List.mem_cons, List.not_mem_nil, or_false] at h
  rcases h with rfl | rfl | rfl | rfl | rfl | rfl | rfl | rfl <;> simp only <;> omega
theorem lp1_ok (s : Sheet h w sh) {E : List En} (T : Tree sh h w E) {o : Int × Int} (ho : o ∈ E.map (·.1)) (a f d : Sl) (at_ : Int) (t : DT) :
    ∃ E' d', Tree sh h w E' ∧ E <+: E' ∧ (∀ c ∈ (nb8 o).filter (inB h w), at2 sh c.1.toNat c.2.toNat = 0 → c ∈ E'.map (·.1)) ∧ lp1_line_of ⟨st sh h w E a (.val (pairP o)) f d at_, t⟩ = .ok .nx ⟨st sh h w E' a (.val (pairP o)) f d' at_, t⟩ := by
  obtain ⟨s', h1, E', d', h2, h3, h4, h5, h6⟩ := forL_inv (tg := .nm 9) (b := bd2_line_of) (Inv := fun i e t' => ∃ E1 d1, e = st sh h w E1 a (.val (pairP o)) f d1 at_ ∧ t' = t ∧ Tree sh h w E1 ∧ E <+: E1 ∧ ∀ j c, j < i → ((nb8 o).filter (inB h w))[j]? = some c → at2 sh c.1.toNat c.2.toNat = 0 → c ∈ E1.map (·.1)) (((nb8 o).filter (inB h w)).map pairP) 0 ⟨st sh h w E a (.val (pairP o)) f d at_, t⟩
    (fun i p hp e t' ⟨E1, d1, he, ht, k1, k2, k3⟩ => by
      subst he ht
      rw [List.getElem?_map] at hp
      obtain ⟨c, hc, rfl⟩ := Option.map_eq_some_iff.mp hp
      have hm := List.mem_of_getElem? hc
      have hf := List.mem_filter.mp hm
      have hin : 0 ≤ c.1 ∧ c.1 < h ∧ 0 ≤ c.2 ∧ c.2 < w := of_decide_eq_true hf.2
      obtain ⟨more, rfl⟩ := k2
      obtain ⟨E2, m1, m2, m3, m4⟩ := bd2_ok s k1 (o := o) (c := c) (by rw [List.map_append]; exact List.mem_append_left _ ho) hin (nb8_near hf.1) a f at_ t'
      refine ⟨_, _, rfl, .inl m4, E2, _, rfl, rfl, m1, (List.prefix_append _ _).trans m2, fun j c' hj hc' hz => ?_⟩
      by_cases hji : j = i
      · subst hji
        rw [hc] at hc'
        cases hc'
        exact m3 hz
      · have := k3 j c' (by omega) hc' hz
        obtain ⟨more2, rfl⟩ := m2
        rw [List.map_append]
        exact List.mem_append_left _ this) (Nat.zero_le _) ⟨E, d, rfl, rfl, T, List.prefix_refl _, fun j c hj => by omega⟩
  obtain ⟨e', t'⟩ := s'
  simp only at h2 h3
  subst h2 h3
  refine ⟨E', d', h4, h5, fun c hc hz => ?_, ?_⟩
  · obtain ⟨j, hj, e⟩ := List.mem_iff_getElem.mp hc
    exact h6 j c (by rw [List.length_map]; exact hj) (by rw [List.getElem?_eq_getElem hj, e]) hz
  · rw [List.drop_zero] at h1
    have va := v_around (h := h) (w := w) o t'
    have it : it1_line_of ⟨st sh h w E a (.val (pairP o)) f d at_, t'⟩ = .ok (((nb8 o).filter (inB h w)).map pairP) ⟨st sh h w E a (.val (pairP o)) f d at_, t'⟩ := by
      simp only [pairP] at va
      simp only [it1_line_of, st, shP, pairP, va, seqS_ap, kSeq_nx, kSeq_rt, kSeq_bk, kSeq_ct, retS_ap, kRet_ap, retN_ap, exprS_ap, kNx_ap, ifS_ap, ifE_ap, ifO_ap, kIf_t, kIf_f, badS_ap, nextS_ap, setS_ap, kSet_v, kSet_o, cellS_ap, kCell_ap, parS_ap, kPar_2, kPar_3, kPar_4, putSl_v, putSl_o, asgS_ap, kAsg_ap, kAsg2_ap, asgT_nm, asgT_tp, asgTs_nil, asgTs_nm, augS_ap, kAug_ap, kAug1_ap, kAug2_ap, nameE_ap, kNm_v, kNm_o, nameB_ap, kNb_o, kNb_v, kNc_cell, kNd_ap, kNc_int, kNc_bl, kNc_non, kNc_str, kNc_tup, kNc_lst, kNc_scr, kNc_dK, kNc_dT, kNc_ins, kMod_o, kMod_c, kMc_ap, kMo_ap, kMd_ap, appE_ap, kAp_ap, kAp2_ap, appU_ok, setIxS_ap, kSi_ap, kSi2_ap, kSi3_ap, setU_lst, augIxS_ap, kAx_ap, kAx1_ap, kAx1b_ap, kAx2_ap, kAx3_ap, kAx4_ap, lixG_ok, sharedE_ap, kSh_ap, plainE_ap, kPl_ap, constE_ap, nilA_ap, consA_ap, kCo_ap, kCo2_ap, nilL_ap, consL_ap, tupE_ap, lstE_ap, kTu_ap, kLs_ap, kOp_ap, kOp_no, binO_ap, kBi_ap, kBi2_ap, binE_ap, kBe_ap, kBe2_ap, chainE_ap, kCh_ap, kCh2_ap, kCh3_t, kCh3_f, kCh4_ap, testE_ap, toB_ap, andE_ap, orE_ap, notE_ap, kAnd_t, kAnd_f, kOr_t, kOr_f, kNot_ap, andT_ap, orT_ap, notT_ap, kAndT_t, kAndT_f, kOrT_t, kOrT_f, kNotT_ap, negE_ap, kNeg_ap, callO_ap, kCall_ap, kFr_ap, kFr_exc, un1O_ap, kUn_ap, un1E_ap, kUe_ap, lenG_lst, lenG_tup, lenG_scr, tupG_lst, tupG_tup, listG_lst, listG_tup, intG_int, intG_bl, absG_int, ixN_ap, kIx_ap, kIx2_ap, kIx3_ap, ixE_ap, kIe_ap, kIe2_ap, ixG_lst, ixG_tup, ixG_scr, noQ_ap, someQ_ap, kSq_ap, cutO_ap, kCt_ap, kCt2_ap, kCt3_ap, cutN_ap, kCn_ap, kCn2_ap, kCn3_ap, kCn4_ap, newK_ap, newT_ap, seqI_ap, seqP_lst, seqP_tup, seqP_scr, range1I_ap, kR1_ap, range2I_ap, kR2_ap, kR2b_ap, forS_ap, bodyF_ap, kBody_rt, kBody_nx, kBody_exc, yesT_ap, ix0, ix1, allG_ok, anyG_ok, sumG_ok, bind_ok, bind_bad, bind_exc, noX_ok, isi_int_int, isi_int_bool, isi_tup_tup, isi_lst_lst, isi_lst_tup, isi_tup_lst, subI_ok, addI_ok, ltI_ok, leI_ok, gtI_ok, geI_ok, cmpI_ok, max2_ok, min2_ok, eq_int, mul_modL, List.set_cons_zero, List.set_cons_succ, List.length_cons, List.length_nil, List.nil_append, List.cons_append, Nat.reduceAdd, Nat.reduceLeDiff, Nat.reduceLT, Nat.le_refl, decide_true, decide_false, Bool.not_true, Bool.not_false, Bool.true_and, Bool.false_and, Bool.and_true, Bool.and_false, Bool.true_or, Bool.false_or, Bool.or_true, Bool.or_false, Bool.false_bne, Bool.true_bne, Int.reduceLT, Int.reduceLE, Int.reducePow, Int.reduceNeg, Int.reduceToNat, if_true, if_false, frameE, List.map_cons, List.map_nil, List.replicate_succ, List.replicate_zero, Nat.reduceSub, List.replicate, ix0, ix1, and_self, true_and, and_true, pow_10_18, forL_nil, forL_ap, kFor_ap, kFor2_nx, kFor2_ct, kFor2_bk, kFor2_rt, lenA_lst, lenA_tup, lenA_scr, lenA_dK, lenA_dT, addI_ap]
    simp only [lp1_line_of, forS_ap, it, bind_ok]
    exact h1
/-- the way back -/
def Good (sh : List (List Int)) (h w : Nat) (P : List (Int × Int)) : Prop := ∀ x ∈ P, (0 ≤ x.1 ∧ x.1 < h ∧ 0 ≤ x.2 ∧ x.2 < w) ∧ at2 sh x.1.toNat x.2.toNat = 0
theorem wl0_ok (s : Sheet h w sh) {E : List En} (T : Tree sh h w E) {i : Nat} {e : En} (he : E[i]? = some e) (a d : Sl) (at_ : Int) (t : DT) :
    ∃ F : List (Int × Int), Good sh h w F ∧ F.length ≤ 64 ∧ e.1.2 + 1 ≤ F.length ∧ wl0_line_of ⟨st sh h w E a (.val (pairP e.1)) (.own (.lst [])) d at_, t⟩ = .ok .nx ⟨st sh h w E a (.val .non) (.own (.lst (F.map pairP))) d at_, t⟩ := by
  have h2 := s.h2
  have w2 := s.w2
  have le := T.le
  have h64 : h * w ≤ 8 * 8 := Nat.mul_le_mul h2 w2
  have big : 100 ≤ sizeLine := by decide
  have hi : i < E.length := (List.getElem?_eq_some_iff.mp he).1
  refine while_inv (tt := ts0_line_of) (b := bd1_line_of) (Inv := fun m e1 t' => ∃ (F : List (Int × Int)) (o : Option (Int × Int)), e1 = st sh h w E a (.val (valOf o)) (.own (.lst (F.map pairP))) d at_ ∧ t' = t ∧ Good sh h w F ∧ F.length + m ≤ E.length ∧
      match o with
      | none => e.1.2 + 1 ≤ F.length
      | some c => ∃ (j : Nat) (e2 : En), E[j]? = some e2 ∧ e2.1 = c ∧ m = j + 1 ∧ e.1.2 ≤ F.length + c.2)
    (Q := fun z => ∃ F : List (Int × Int), Good sh h w F ∧ F.length ≤ 64 ∧ e.1.2 + 1 ≤ F.length ∧ z = .ok .nx ⟨st sh h w E a (.val .non) (.own (.lst (F.map pairP))) d at_, t⟩) (i + 1) fuel _ (by unfold fuel; omega) ?_ ⟨[], some e.1, rfl, rfl, fun x hx => (nomatch hx), (by simp; omega), i, e, he, rfl, rfl, (by simp)⟩
  rintro m e1 t' ⟨F, o, rfl, rfl, k1, k2, k3⟩
  cases o with
  | none =>
    refine ⟨false, ⟨st sh h w E a (.val .non) (.own (.lst (F.map pairP))) d at_, t'⟩, ?_, .inl ⟨rfl, F, k1, by omega, k3, rfl⟩⟩
    simp only [ts0_line_of, st, valOf, shP, is_non, seqS_ap, kSeq_nx, kSeq_rt, kSeq_bk, kSeq_ct, retS_ap, kRet_ap, retN_ap, exprS_ap, kNx_ap, ifS_ap, ifE_ap, ifO_ap, kIf_t, kIf_f, badS_ap, nextS_ap, setS_ap, kSet_v, kSet_o, cellS_ap, kCell_ap, parS_ap, kPar_2, kPar_3, kPar_4, putSl_v, putSl_o, asgS_ap, kAsg_ap, kAsg2_ap, asgT_nm, asgT_tp, asgTs_nil, asgTs_nm, augS_ap, kAug_ap, kAug1_ap, kAug2_ap, nameE_ap, kNm_v, kNm_o, nameB_ap, kNb_o, kNb_v, kNc_cell, kNd_ap, kNc_int, kNc_bl, kNc_non, kNc_str, kNc_tup, kNc_lst, kNc_scr, kNc_dK, kNc_dT, kNc_ins, kMod_o, kMod_c, kMc_ap, kMo_ap, kMd_ap, appE_ap, kAp_ap, kAp2_ap, appU_ok, setIxS_ap, kSi_ap, kSi2_ap, kSi3_ap, setU_lst, augIxS_ap, kAx_ap, kAx1_ap, kAx1b_ap, kAx2_ap, kAx3_ap, kAx4_ap, lixG_ok, sharedE_ap, kSh_ap, plainE_ap, kPl_ap, constE_ap, nilA_ap, consA_ap, kCo_ap, kCo2_ap, nilL_ap, consL_ap, tupE_ap, lstE_ap, kTu_ap, kLs_ap, kOp_ap, kOp_no, binO_ap, kBi_ap, kBi2_ap, binE_ap, kBe_ap, kBe2_ap, chainE_ap, kCh_ap, kCh2_ap, kCh3_t, kCh3_f, kCh4_ap, testE_ap, toB_ap, andE_ap, orE_ap, notE_ap, kAnd_t, kAnd_f, kOr_t, kOr_f, kNot_ap, andT_ap, orT_ap, notT_ap, kAndT_t, kAndT_f, kOrT_t, kOrT_f, kNotT_ap, negE_ap, kNeg_ap, callO_ap, kCall_ap, kFr_ap, kFr_exc, un1O_ap, kUn_ap, un1E_ap, kUe_ap, lenG_lst, lenG_tup, lenG_scr, tupG_lst, tupG_tup, listG_lst, listG_tup, intG_int, intG_bl, absG_int, ixN_ap, kIx_ap, kIx2_ap, kIx3_ap, ixE_ap, kIe_ap, kIe2_ap, ixG_lst, ixG_tup, ixG_scr, noQ_ap, someQ_ap, kSq_ap, cutO_ap, kCt_ap, kCt2_ap, kCt3_ap, cutN_ap, kCn_ap, kCn2_ap, kCn3_ap, kCn4_ap, newK_ap, newT_ap, seqI_ap, seqP_lst, seqP_tup, seqP_scr, range1I_ap, kR1_ap, range2I_ap, kR2_ap, kR2b_ap, forS_ap, bodyF_ap, kBody_rt, kBody_nx, kBody_exc, yesT_ap, ix0, ix1, allG_ok, anyG_ok, sumG_ok, bind_ok, bind_bad, bind_exc, noX_ok, isi_int_int, isi_int_bool, isi_tup_tup, isi_lst_lst, isi_lst_tup, isi_tup_lst, subI_ok, addI_ok, ltI_ok, leI_ok, gtI_ok, geI_ok, cmpI_ok, max2_ok, min2_ok, eq_int, mul_modL, List.set_cons_zero, List.set_cons_succ, List.length_cons, List.length_nil, List.nil_append, List.cons_append, Nat.reduceAdd, Nat.reduceLeDiff, Nat.reduceLT, Nat.le_refl, decide_true, decide_false, Bool.not_true, Bool.not_false, Bool.true_and, Bool.false_and, Bool.and_true, Bool.and_false, Bool.true_or, Bool.false_or, Bool.or_true, Bool.or_false, Bool.false_bne, Bool.true_bne, Int.reduceLT, Int.reduceLE, Int.reducePow, Int.reduceNeg, Int.reduceToNat, if_true, if_false, frameE, List.map_cons, List.map_nil, List.replicate_succ, List.replicate_zero, Nat.reduceSub, List.replicate, ix0, ix1, and_self, true_and, and_true, pow_10_18, forL_nil, forL_ap, kFor_ap, kFor2_nx, kFor2_ct, kFor2_bk, kFor2_rt, lenA_lst, lenA_tup, lenA_scr, lenA_dK, lenA_dT, addI_ap]
  | some c =>
    obtain ⟨j, e2, k4, rfl, rfl, k5⟩ := k3
    have hj : j < E.length := (List.getElem?_eq_some_iff.mp k4).1
    have hm := List.mem_of_getElem? k4
    have hb := T.bd.2 e2.1 (List.mem_map.mpr ⟨e2, hm, rfl⟩)
    have ap : ∀ q, appU q (.lst (F.map pairP)) = some (.lst ((F.map pairP) ++ [q]), .non) := fun q => appU_ok (by rw [List.length_map]; omega)
    have mp : (F ++ [e2.1]).map pairP = F.map pairP ++ [pairP e2.1] := by simp
    have lk := look_at T.bd.1 k4
    have ix : ixG (.dT (E.map kv)) (pairP e2.1) = some (valOf e2.2) := by rw [pairP, ixG_dT, atP_look, lk]; rfl
    refine ⟨true, ⟨st sh h w E a (.val (pairP e2.1)) (.own (.lst (F.map pairP))) d at_, t'⟩, ?_, .inr ⟨rfl, .inl ?_⟩⟩
    · simp only [ts0_line_of, st, valOf, shP, pairP, is_tup, seqS_ap, kSeq_nx, kSeq_rt, kSeq_bk, kSeq_ct, retS_ap, kRet_ap, retN_ap, exprS_ap, kNx_ap, ifS_ap, ifE_ap, ifO_ap, kIf_t, kIf_f, badS_ap, nextS_ap, setS_ap, kSet_v, kSet_o, cellS_ap, kCell_ap, parS_ap, kPar_2, kPar_3, kPar_4, putSl_v, putSl_o, asgS_ap, kAsg_ap, kAsg2_ap, asgT_nm, asgT_tp, asgTs_nil, asgTs_nm, augS_ap, kAug_ap, kAug1_ap, kAug2_ap, nameE_ap, kNm_v, kNm_o, nameB_ap, kNb_o, kNb_v, kNc_cell, kNd_ap, kNc_int, kNc_bl, kNc_non, kNc_str, kNc_tup, kNc_lst, kNc_scr, kNc_dK, kNc_dT, kNc_ins, kMod_o, kMod_c, kMc_ap, kMo_ap, kMd_ap, appE_ap, kAp_ap, kAp2_ap, appU_ok, setIxS_ap, kSi_ap, kSi2_ap, kSi3_ap, setU_lst, augIxS_ap, kAx_ap, kAx1_ap, kAx1b_ap, kAx2_ap, kAx3_ap, kAx4_ap, lixG_ok, sharedE_ap, kSh_ap, plainE_ap, kPl_ap, constE_ap, nilA_ap, consA_ap, kCo_ap, kCo2_ap, nilL_ap, consL_ap, tupE_ap, lstE_ap, kTu_ap, kLs_ap, kOp_ap, kOp_no, binO_ap, kBi_ap, kBi2_ap, binE_ap, kBe_ap, kBe2_ap, chainE_ap, kCh_ap, kCh2_ap, kCh3_t, kCh3_f, kCh4_ap, testE_ap, toB_ap, andE_ap, orE_ap, notE_ap, kAnd_t, kAnd_f, kOr_t, kOr_f, kNot_ap, andT_ap, orT_ap, notT_ap, kAndT_t, kAndT_f, kOrT_t, kOrT_f, kNotT_ap, negE_ap, kNeg_ap, callO_ap, kCall_ap, kFr_ap, kFr_exc, un1O_ap, kUn_ap, un1E_ap, kUe_ap, lenG_lst, lenG_tup, lenG_scr, tupG_lst, tupG_tup, listG_lst, listG_tup, intG_int, intG_bl, absG_int, ixN_ap, kIx_ap, kIx2_ap, kIx3_ap, ixE_ap, kIe_ap, kIe2_ap, ixG_lst, ixG_tup, ixG_scr, noQ_ap, someQ_ap, kSq_ap, cutO_ap, kCt_ap, kCt2_ap, kCt3_ap, cutN_ap, kCn_ap, kCn2_ap, kCn3_ap, kCn4_ap, newK_ap, newT_ap, seqI_ap, seqP_lst, seqP_tup, seqP_scr, range1I_ap, kR1_ap, range2I_ap, kR2_ap, kR2b_ap, forS_ap, bodyF_ap, kBody_rt, kBody_nx, kBody_exc, yesT_ap, ix0, ix1, allG_ok, anyG_ok, sumG_ok, bind_ok, bind_bad, bind_exc, noX_ok, isi_int_int, isi_int_bool, isi_tup_tup, isi_lst_lst, isi_lst_tup, isi_tup_lst, subI_ok, addI_ok, ltI_ok, leI_ok, gtI_ok, geI_ok, cmpI_ok, max2_ok, min2_ok, eq_int, mul_modL, List.set_cons_zero, List.set_cons_succ, List.length_cons, List.length_nil, List.nil_append, List.cons_append, Nat.reduceAdd, Nat.reduceLeDiff, Nat.reduceLT, Nat.le_refl, decide_true, decide_false, Bool.not_true, Bool.not_false, Bool.true_and, Bool.false_and, Bool.and_true, Bool.and_false, Bool.true_or, Bool.false_or, Bool.or_true, Bool.or_false, Bool.false_bne, Bool.true_bne, Int.reduceLT, Int.reduceLE, Int.reducePow, Int.reduceNeg, Int.reduceToNat, if_true, if_false, frameE, List.map_cons, List.map_nil, List.replicate_succ, List.replicate_zero, Nat.reduceSub, List.replicate, ix0, ix1, and_self, true_and, and_true, pow_10_18, forL_nil, forL_ap, kFor_ap, kFor2_nx, kFor2_ct, kFor2_bk, kFor2_rt, lenA_lst, lenA_tup, lenA_scr, lenA_dK, lenA_dT, addI_ap]
    · have run : bd1_line_of ⟨st sh h w E a (.val (pairP e2.1)) (.own (.lst (F.map pairP))) d at_, t'⟩ = .ok .nx ⟨st sh h w E a (.val (valOf e2.2)) (.own (.lst ((F ++ [e2.1]).map pairP))) d at_, t'⟩ := by
        rw [mp]
        simp only [pairP] at ap ix
        simp only [bd1_line_of, st, shP, pairP, ap, ix, seqS_ap, kSeq_nx, kSeq_rt, kSeq_bk, kSeq_ct, retS_ap, kRet_ap, retN_ap, exprS_ap, kNx_ap, ifS_ap, ifE_ap, ifO_ap, kIf_t, kIf_f, badS_ap, nextS_ap, setS_ap, kSet_v, kSet_o, cellS_ap, kCell_ap, parS_ap, kPar_2, kPar_3, kPar_4, putSl_v, putSl_o, asgS_ap, kAsg_ap, kAsg2_ap, asgT_nm, asgT_tp, asgTs_nil, asgTs_nm, augS_ap, kAug_ap, kAug1_ap, kAug2_ap, nameE_ap, kNm_v, kNm_o, nameB_ap, kNb_o, kNb_v, kNc_cell, kNd_ap, kNc_int, kNc_bl, kNc_non, kNc_str, kNc_tup, kNc_lst, kNc_scr, kNc_dK, kNc_dT, kNc_ins, kMod_o, kMod_c, kMc_ap, kMo_ap, kMd_ap, appE_ap, kAp_ap, kAp2_ap, appU_ok, setIxS_ap, kSi_ap, kSi2_ap, kSi3_ap, setU_lst, augIxS_ap, kAx_ap, kAx1_ap, kAx1b_ap, kAx2_ap, kAx3_ap, kAx4_ap, lixG_ok, sharedE_ap, kSh_ap, plainE_ap, kPl_ap, constE_ap, nilA_ap, consA_ap, kCo_ap, kCo2_ap, nilL_ap, consL_ap, tupE_ap, lstE_ap, kTu_ap, kLs_ap, kOp_ap, kOp_no, binO_ap, kBi_ap, kBi2_ap, binE_ap, kBe_ap, kBe2_ap, chainE_ap, kCh_ap, kCh2_ap, kCh3_t, kCh3_f, kCh4_ap, testE_ap, toB_ap, andE_ap, orE_ap, notE_ap, kAnd_t, kAnd_f, kOr_t, kOr_f, kNot_ap, andT_ap, orT_ap, notT_ap, kAndT_t, kAndT_f, kOrT_t, kOrT_f, kNotT_ap, negE_ap, kNeg_ap, callO_ap, kCall_ap, kFr_ap, kFr_exc, un1O_ap, kUn_ap, un1E_ap, kUe_ap, lenG_lst, lenG_tup, lenG_scr, tupG_lst, tupG_tup, listG_lst, listG_tup, intG_int, intG_bl, absG_int, ixN_ap, kIx_ap, kIx2_ap, kIx3_ap, ixE_ap, kIe_ap, kIe2_ap, ixG_lst, ixG_tup, ixG_scr, noQ_ap, someQ_ap, kSq_ap, cutO_ap, kCt_ap, kCt2_ap, kCt3_ap, cutN_ap, kCn_ap, kCn2_ap, kCn3_ap, kCn4_ap, newK_ap, newT_ap, seqI_ap, seqP_lst, seqP_tup, seqP_scr, range1I_ap, kR1_ap, range2I_ap, kR2_ap, kR2b_ap, forS_ap, bodyF_ap, kBody_rt, kBody_nx, kBody_exc, yesT_ap, ix0, ix1, allG_ok, anyG_ok, sumG_ok, bind_ok, bind_bad, bind_exc, noX_ok, isi_int_int, isi_int_bool, isi_tup_tup, isi_lst_lst, isi_lst_tup, isi_tup_lst, subI_ok, addI_ok, ltI_ok, leI_ok, gtI_ok, geI_ok, cmpI_ok, max2_ok, min2_ok, eq_int, mul_modL, List.set_cons_zero, List.set_cons_succ, List.length_cons, List.length_nil, List.nil_append, List.cons_append, Nat.reduceAdd, Nat.reduceLeDiff, Nat.reduceLT, Nat.le_refl, decide_true, decide_false, Bool.not_true, Bool.not_false, Bool.true_and, Bool.false_and, Bool.and_true, Bool.and_false, Bool.true_or, Bool.false_or, Bool.or_true, Bool.or_false, Bool.false_bne, Bool.true_bne, Int.reduceLT, Int.reduceLE, Int.reducePow, Int.reduceNeg, Int.reduceToNat, if_true, if_false, frameE, List.map_cons, List.map_nil, List.replicate_succ, List.replicate_zero, Nat.reduceSub, List.replicate, ix0, ix1, and_self, true_and, and_true, pow_10_18, forL_nil, forL_ap, kFor_ap, kFor2_nx, kFor2_ct, kFor2_bk, kFor2_rt, lenA_lst, lenA_tup, lenA_scr, lenA_dK, lenA_dT, addI_ap]
      have gd : Good sh h w (F ++ [e2.1]) := fun x hx => by
        rcases List.mem_append.mp hx with z | z
        · exact k1 x z
        · rw [List.mem_singleton.mp z]
          exact ⟨hb, T.zr e2 hm⟩
      cases ho : e2.2 with
      | none =>
        rw [ho] at run
        have := T.rt e2 hm ho
        exact ⟨_, 0, .inl run, by omega, F ++ [e2.1], none, rfl, rfl, gd, by simp; omega, by simp; omega⟩
      | some p =>
        rw [ho] at run
        obtain ⟨j', e', q1, q2, q3, q4⟩ := T.up j e2 p k4 ho
        exact ⟨_, j' + 1, .inl run, by omega, F ++ [e2.1], some p, rfl, rfl, gd, by simp; omega, j', e', q2, q3, rfl, by simp; omega⟩
end
end K63
namespace K63
open PySem DR
section
variable {h w : Nat} {sh : List (List Int)}
/-- every first place is among them, they lead to a last one -/
def Conn (sh : List (List Int)) (h w : Nat) : Prop := ∀ S : Int × Int → Prop, (∀ a : Nat, a < h → at2 sh a 0 = 0 → S ((a : Int), 0)) → (∀ x y, S x → y ∈ (nb8 x).filter (inB h w) → at2 sh y.1.toNat y.2.toNat = 0 → S y) → ∃ x, S x ∧ x.2 = (w : Int) - 1
theorem lp0_ok (s : Sheet h w sh) (a b c d : Sl) (t : DT) : ∃ E a', Tree sh h w E ∧ (∀ i : Nat, i < h → at2 sh i 0 = 0 → ((i : Int), (0 : Int)) ∈ E.map (·.1)) ∧ lp0_line_of ⟨st sh h w [] a b c d 0, t⟩ = .ok .nx ⟨st sh h w E a' b c d 0, t⟩ := by
  have h2 := s.h2
  have w2 := s.w2
  have w1 := s.w1
  have h64 : h * w ≤ 8 * 8 := Nat.mul_le_mul h2 w2
  have big : 100 ≤ sizeLine := by decide
  obtain ⟨s', h1, E, a', e1, e2, k1, k2, k3⟩ := forL_inv (tg := .nm 6) (b := bd0_line_of) (Inv := fun i e t' => ∃ E a', e = st sh h w E a' b c d 0 ∧ t' = t ∧ Tree sh h w E ∧ (∀ j : Nat, j < i → at2 sh j 0 = 0 → ((j : Int), (0 : Int)) ∈ E.map (·.1)) ∧ ∀ e ∈ E, e.1.1 < (i : Int)) (rangeP 0 h) 0 ⟨st sh h w [] a b c d 0, t⟩
    (fun i p hp e t' ⟨E, a', he, ht, k1, k2, k3⟩ => by
      subst he ht
      obtain ⟨hi, rfl⟩ := rangeP0_get hp
      have le := k1.le
      have hr := s.rowLen hi
      have i1 := ix_sh (c := false) (sh := sh) (a := i) (by rw [s.len]; exact hi)
      have i2 := ix_row (c := false) (r := sh.getD i []) (b := 0) (by rw [hr]; omega)
      simp only [Int.natCast_zero] at i2
      have hk : look E ((i : Int), (0 : Int)) = none := by
        rw [look_none]
        intro hm
        obtain ⟨e, he, z⟩ := List.mem_map.mp hm
        have := k3 e he
        rw [z] at this
        simp at this
      by_cases z : (sh.getD i []).getD 0 0 = 0
      · have pn := put_new (E := E) none hk
        have su := setU_dT (l := E.map kv) (i := (i : Int)) (j := 0) (q := .non) (by rw [List.length_map]; omega)
        have pe : putP (E.map kv) [.inl (i : Int), .inl (0 : Int)] .non = (E ++ [(((i : Int), (0 : Int)), none)]).map kv := pn
        rw [pe] at su
        have ap : ∀ q, appU q (.lst (E.map fun e => pairP e.1)) = some (.lst ((E.map fun e => pairP e.1) ++ [q]), .non) := fun q => appU_ok (by rw [List.length_map]; omega)
        have mp : (E ++ [(((i : Int), (0 : Int)), none)]).map (fun e : En => pairP e.1) = (E.map fun e => pairP e.1) ++ [pairP ((i : Int), (0 : Int))] := by simp
        have run : bd0_line_of ⟨st sh h w E (.val (.int i)) b c d 0, t'⟩ = .ok .nx ⟨st sh h w (E ++ [(((i : Int), (0 : Int)), none)]) (.val (.int i)) b c d 0, t'⟩ := by
          simp only [pairP] at su ap mp
          simp only [bd0_line_of, st, shP, pairP, i1, rowP, i2, z, mp, su, ap, seqS_ap, kSeq_nx, kSeq_rt, kSeq_bk, kSeq_ct, retS_ap, kRet_ap, retN_ap, exprS_ap, kNx_ap, ifS_ap, ifE_ap, ifO_ap, kIf_t, kIf_f, badS_ap, nextS_ap, setS_ap, kSet_v, kSet_o, cellS_ap, kCell_ap, parS_ap, kPar_2, kPar_3, kPar_4, putSl_v, putSl_o, asgS_ap, kAsg_ap, kAsg2_ap, asgT_nm, asgT_tp, asgTs_nil, asgTs_nm, augS_ap, kAug_ap, kAug1_ap, kAug2_ap, nameE_ap, kNm_v, kNm_o, nameB_ap, kNb_o, kNb_v, kNc_cell, kNd_ap, kNc_int, kNc_bl, kNc_non, kNc_str, kNc_tup, kNc_lst, kNc_scr, kNc_dK, kNc_dT, kNc_ins, kMod_o, kMod_c, kMc_ap, kMo_ap, kMd_ap, appE_ap, kAp_ap, kAp2_ap, appU_ok, setIxS_ap, kSi_ap, kSi2_ap, kSi3_ap, setU_lst, augIxS_ap, kAx_ap, kAx1_ap, kAx1b_ap, kAx2_ap, kAx3_ap, kAx4_ap, lixG_ok, sharedE_ap, kSh_ap, plainE_ap, kPl_ap, constE_ap, nilA_ap, consA_ap, kCo_ap, kCo2_ap, nilL_ap, consL_ap, tupE_ap, lstE_ap, kTu_ap, kLs_ap, kOp_ap, kOp_no, binO_ap, kBi_ap, kBi2_ap, binE_ap, kBe_ap, kBe2_ap, chainE_ap, kCh_ap, kCh2_ap, kCh3_t, kCh3_f, kCh4_ap, testE_ap, toB_ap, andE_ap, orE_ap, notE_ap, kAnd_t, kAnd_f, kOr_t, kOr_f, kNot_ap, andT_ap, orT_ap, notT_ap, kAndT_t, kAndT_f, kOrT_t, kOrT_f, kNotT_ap, negE_ap, kNeg_ap, callO_ap, kCall_ap, kFr_ap, kFr_exc, un1O_ap, kUn_ap, un1E_ap, kUe_ap, lenG_lst, lenG_tup, lenG_scr, tupG_lst, tupG_tup, listG_lst, listG_tup, intG_int, intG_bl, absG_int, ixN_ap, kIx_ap, kIx2_ap, kIx3_ap, ixE_ap, kIe_ap, kIe2_ap, ixG_lst, ixG_tup, ixG_scr, noQ_ap, someQ_ap, kSq_ap, cutO_ap, kCt_ap, kCt2_ap, kCt3_ap, cutN_ap, kCn_ap, kCn2_ap, kCn3_ap, kCn4_ap, newK_ap, newT_ap, seqI_ap, seqP_lst, seqP_tup, seqP_scr, range1I_ap, kR1_ap, range2I_ap, kR2_ap, kR2b_ap, forS_ap, bodyF_ap, kBody_rt, kBody_nx, kBody_exc, yesT_ap, ix0, ix1, allG_ok, anyG_ok, sumG_ok, bind_ok, bind_bad, bind_exc, noX_ok, isi_int_int, isi_int_bool, isi_tup_tup, isi_lst_lst, isi_lst_tup, isi_tup_lst, subI_ok, addI_ok, ltI_ok, leI_ok, gtI_ok, geI_ok, cmpI_ok, max2_ok, min2_ok, eq_int, mul_modL, List.set_cons_zero, List.set_cons_succ, List.length_cons, List.length_nil, List.nil_append, List.cons_append, Nat.reduceAdd, Nat.reduceLeDiff, Nat.reduceLT, Nat.le_refl, decide_true, decide_false, Bool.not_true, Bool.not_false, Bool.true_and, Bool.false_and, Bool.and_true, Bool.and_false, Bool.true_or, Bool.false_or, Bool.or_true, Bool.or_false, Bool.false_bne, Bool.true_bne, Int.reduceLT, Int.reduceLE, Int.reducePow, Int.reduceNeg, Int.reduceToNat, if_true, if_false, frameE, List.map_cons, List.map_nil, List.replicate_succ, List.replicate_zero, Nat.reduceSub, List.replicate, ix0, ix1, and_self, true_and, and_true, pow_10_18, forL_nil, forL_ap, kFor_ap, kFor2_nx, kFor2_ct, kFor2_bk, kFor2_rt, lenA_lst, lenA_tup, lenA_scr, lenA_dK, lenA_dT, addI_ap]
        refine ⟨_, _, rfl, .inl run, _, _, rfl, rfl, k1.snoc hk (by simp; omega) (by simpa [at2] using z) (fun _ => rfl) (fun p hp => (nomatch hp)), fun j hj hz => ?_, fun e he => ?_⟩
        · rw [List.map_append]
          by_cases hji : j = i
          · subst hji
            exact List.mem_append_right _ (by simp)
          · exact List.mem_append_left _ (k2 j (by omega) hz)
        · rcases List.mem_append.mp he with y | y
          · have := k3 e y
            omega
          · rw [List.mem_singleton.mp y]
            simp only
            omega
      · have run : bd0_line_of ⟨st sh h w E (.val (.int i)) b c d 0, t'⟩ = .ok .nx ⟨st sh h w E (.val (.int i)) b c d 0, t'⟩ := by
          simp only [bd0_line_of, st, shP, i1, rowP, i2, z, seqS_ap, kSeq_nx, kSeq_rt, kSeq_bk, kSeq_ct, retS_ap, kRet_ap, retN_ap, exprS_ap, kNx_ap, ifS_ap, ifE_ap, ifO_ap, kIf_t, kIf_f, badS_ap, nextS_ap, setS_ap, kSet_v, kSet_o, cellS_ap, kCell_ap, parS_ap, kPar_2, kPar_3, kPar_4, putSl_v, putSl_o, asgS_ap, kAsg_ap, kAsg2_ap, asgT_nm, asgT_tp, asgTs_nil, asgTs_nm, augS_ap, kAug_ap, kAug1_ap, kAug2_ap, nameE_ap, kNm_v, kNm_o, nameB_ap, kNb_o, kNb_v, kNc_cell, kNd_ap, kNc_int, kNc_bl, kNc_non, kNc_str, kNc_tup, kNc_lst, kNc_scr, kNc_dK, kNc_dT, kNc_ins, kMod_o, kMod_c, kMc_ap, kMo_ap, kMd_ap, appE_ap, kAp_ap, kAp2_ap, appU_ok, setIxS_ap, kSi_ap, kSi2_ap, kSi3_ap, setU_lst, augIxS_ap, kAx_ap, kAx1_ap, kAx1b_ap, kAx2_ap, kAx3_ap, kAx4_ap, lixG_ok, sharedE_ap, kSh_ap, plainE_ap, kPl_ap, constE_ap, nilA_ap, consA_ap, kCo_ap, kCo2_ap, nilL_ap, consL_ap, tupE_ap, lstE_ap, kTu_ap, kLs_ap, kOp_ap, kOp_no, binO_ap, kBi_ap, kBi2_ap, binE_ap, kBe_ap, kBe2_ap, chainE_ap, kCh_ap, kCh2_ap, kCh3_t, kCh3_f, kCh4_ap, testE_ap, toB_ap, andE_ap, orE_ap, notE_ap, kAnd_t, kAnd_f, kOr_t, kOr_f, kNot_ap, andT_ap, orT_ap, notT_ap, kAndT_t, kAndT_f, kOrT_t, kOrT_f, kNotT_ap, negE_ap, kNeg_ap, callO_ap, kCall_ap, kFr_ap, kFr_exc, un1O_ap, kUn_ap, un1E_ap, kUe_ap, lenG_lst, lenG_tup, lenG_scr, tupG_lst, tupG_tup, listG_lst, listG_tup, intG_int, intG_bl, absG_int, ixN_ap, kIx_ap, kIx2_ap, kIx3_ap, ixE_ap, kIe_ap, kIe2_ap, ixG_lst, ixG_tup, ixG_scr, noQ_ap, someQ_ap, kSq_ap, cutO_ap, kCt_ap, kCt2_ap, kCt3_ap, cutN_ap, kCn_ap, kCn2_ap, kCn3_ap, kCn4_ap, newK_ap, newT_ap, seqI_ap, seqP_lst, seqP_tup, seqP_scr, range1I_ap, kR1_ap, range2I_ap, kR2_ap, kR2b_ap, forS_ap, bodyF_ap, kBody_rt, kBody_nx, kBody_exc, yesT_ap, ix0, ix1, allG_ok, anyG_ok, sumG_ok, bind_ok, bind_bad, bind_exc, noX_ok, isi_int_int, isi_int_bool, isi_tup_tup, isi_lst_lst, isi_lst_tup, isi_tup_lst, subI_ok, addI_ok, ltI_ok, leI_ok, gtI_ok, geI_ok, cmpI_ok, max2_ok, min2_ok, eq_int, mul_modL, List.set_cons_zero, List.set_cons_succ, List.length_cons, List.length_nil, List.nil_append, List.cons_append, Nat.reduceAdd, Nat.reduceLeDiff, Nat.reduceLT, Nat.le_refl, decide_true, decide_false, Bool.not_true, Bool.not_false, Bool.true_and, Bool.false_and, Bool.and_true, Bool.and_false, Bool.true_or, Bool.false_or, Bool.or_true, Bool.or_false, Bool.false_bne, Bool.true_bne, Int.reduceLT, Int.reduceLE, Int.reducePow, Int.reduceNeg, Int.reduceToNat, if_true, if_false, frameE, List.map_cons, List.map_nil, List.replicate_succ, List.replicate_zero, Nat.reduceSub, List.replicate, ix0, ix1, and_self, true_and, and_true, pow_10_18, forL_nil, forL_ap, kFor_ap, kFor2_nx, kFor2_ct, kFor2_bk, kFor2_rt, lenA_lst, lenA_tup, lenA_scr, lenA_dK, lenA_dT, addI_ap]
        refine ⟨_, _, rfl, .inl run, _, _, rfl, rfl, k1, fun j hj hz => ?_, fun e he => ?_⟩
        · by_cases hji : j = i
          · subst hji
            exact absurd hz z
          · exact k2 j (by omega) hz
        · have := k3 e he
          omega) (Nat.zero_le _) ⟨[], a, rfl, rfl, ⟨⟨by simp, fun x hx => by simp at hx⟩, fun e he => (nomatch he), fun e he => (nomatch he), fun i e p hi => by simp at hi⟩, fun j hj => by omega, fun e he => (nomatch he)⟩
  obtain ⟨e', t'⟩ := s'
  simp only at e1 e2
  subst e1 e2
  refine ⟨E, a', k1, fun i hi hz => k2 i (by rw [rangeP_len]; exact hi) hz, ?_⟩
  rw [List.drop_zero] at h1
  have it : it0_line_of ⟨st sh h w [] a b c d 0, t'⟩ = .ok (rangeP 0 h) ⟨st sh h w [] a b c d 0, t'⟩ := by
    simp only [it0_line_of, st, shP, seqS_ap, kSeq_nx, kSeq_rt, kSeq_bk, kSeq_ct, retS_ap, kRet_ap, retN_ap, exprS_ap, kNx_ap, ifS_ap, ifE_ap, ifO_ap, kIf_t, kIf_f, badS_ap, nextS_ap, setS_ap, kSet_v, kSet_o, cellS_ap, kCell_ap, parS_ap, kPar_2, kPar_3, kPar_4, putSl_v, putSl_o, asgS_ap, kAsg_ap, kAsg2_ap, asgT_nm, asgT_tp, asgTs_nil, asgTs_nm, augS_ap, kAug_ap, kAug1_ap, kAug2_ap, nameE_ap, kNm_v, kNm_o, nameB_ap, kNb_o, kNb_v, kNc_cell, kNd_ap, kNc_int, kNc_bl, kNc_non, kNc_str, kNc_tup, kNc_lst, kNc_scr, kNc_dK, kNc_dT, kNc_ins, kMod_o, kMod_c, kMc_ap, kMo_ap, kMd_ap, appE_ap, kAp_ap, kAp2_ap, appU_ok, setIxS_ap, kSi_ap, kSi2_ap, kSi3_ap, setU_lst, augIxS_ap, kAx_ap, kAx1_ap, kAx1b_ap, kAx2_ap, kAx3_ap, kAx4_ap, lixG_ok, sharedE_ap, kSh_ap, plainE_ap, kPl_ap, constE_ap, nilA_ap, consA_ap, kCo_ap, kCo2_ap, nilL_ap, consL_ap, tupE_ap, lstE_ap, kTu_ap, kLs_ap, kOp_ap, kOp_no, binO_ap, kBi_ap, kBi2_ap, binE_ap, kBe_ap, kBe2_ap, chainE_ap, kCh_ap, kCh2_ap, kCh3_t, kCh3_f, kCh4_ap, testE_ap, toB_ap, andE_ap, orE_ap, notE_ap, kAnd_t, kAnd_f, kOr_t, kOr_f, kNot_ap, andT_ap, orT_ap, notT_ap, kAndT_t, kAndT_f, kOrT_t, kOrT_f, kNotT_ap, negE_ap, kNeg_ap, callO_ap, kCall_ap, kFr_ap, kFr_exc, un1O_ap, kUn_ap, un1E_ap, kUe_ap, lenG_lst, lenG_tup, lenG_scr, tupG_lst, tupG_tup, listG_lst, listG_tup, intG_int, intG_bl, absG_int, ixN_ap, kIx_ap, kIx2_ap, kIx3_ap, ixE_ap, kIe_ap, kIe2_ap, ixG_lst, ixG_tup, ixG_scr, noQ_ap, someQ_ap, kSq_ap, cutO_ap, kCt_ap, kCt2_ap, kCt3_ap, cutN_ap, kCn_ap, kCn2_ap, kCn3_ap, kCn4_ap, newK_ap, newT_ap, seqI_ap, seqP_lst, seqP_tup, seqP_scr, range1I_ap, kR1_ap, range2I_ap, kR2_ap, kR2b_ap, forS_ap, bodyF_ap, kBody_rt, kBody_nx, kBody_exc, yesT_ap, ix0, ix1, allG_ok, anyG_ok, sumG_ok, bind_ok, bind_bad, bind_exc, noX_ok, isi_int_int, isi_int_bool, isi_tup_tup, isi_lst_lst, isi_lst_tup, isi_tup_lst, subI_ok, addI_ok, ltI_ok, leI_ok, gtI_ok, geI_ok, cmpI_ok, max2_ok, min2_ok, eq_int, mul_modL, List.set_cons_zero, List.set_cons_succ, List.length_cons, List.length_nil, List.nil_append, List.cons_append, Nat.reduceAdd, Nat.reduceLeDiff, Nat.reduceLT, Nat.le_refl, decide_true, decide_false, Bool.not_true, Bool.not_false, Bool.true_and, Bool.false_and, Bool.and_true, Bool.and_false, Bool.true_or, Bool.false_or, Bool.or_true, Bool.or_false, Bool.false_bne, Bool.true_bne, Int.reduceLT, Int.reduceLE, Int.reducePow, Int.reduceNeg, Int.reduceToNat, if_true, if_false, frameE, List.map_cons, List.map_nil, List.replicate_succ, List.replicate_zero, Nat.reduceSub, List.replicate, ix0, ix1, and_self, true_and, and_true, pow_10_18, forL_nil, forL_ap, kFor_ap, kFor2_nx, kFor2_ct, kFor2_bk, kFor2_rt, lenA_lst, lenA_tup, lenA_scr, lenA_dK, lenA_dT, addI_ap, kR1_ap (x := (h : Int)) (by omega) (by omega), Int.toNat_natCast]
  simp only [lp0_line_of, forS_ap, it, bind_ok]
  exact h1
theorem wl1_ok (s : Sheet h w sh) (cn : Conn sh h w) {E : List En} (T : Tree sh h w E) (first : ∀ i : Nat, i < h → at2 sh i 0 = 0 → ((i : Int), (0 : Int)) ∈ E.map (·.1)) (a b c d : Sl) (t : DT) :
    ∃ (P : List (Int × Int)) (e : DE), Good sh h w P ∧ P.length ≤ 64 ∧ (w : Int) ≤ P.length ∧ wl1_line_of ⟨st sh h w E a b c d 0, t⟩ = .ok (.rt (.lst (P.map pairP)) true) ⟨e, t⟩ := by
  have h2 := s.h2
  have w2 := s.w2
  have h64 : h * w ≤ 8 * 8 := Nat.mul_le_mul h2 w2
  refine while_inv (tt := ts1_line_of) (b := bd3_line_of) (Inv := fun m e1 t' => ∃ (E1 : List En) (at1 : Int) (a1 b1 c1 d1 : Sl), e1 = st sh h w E1 a1 b1 c1 d1 at1 ∧ t' = t ∧ Tree sh h w E1 ∧ (∀ i : Nat, i < h → at2 sh i 0 = 0 → ((i : Int), (0 : Int)) ∈ E1.map (·.1)) ∧ 0 ≤ at1 ∧ at1 ≤ E1.length ∧ m = (64 - at1).toNat ∧
      ∀ (i : Nat) (e : En), i < at1.toNat → E1[i]? = some e → e.1.2 ≠ (w : Int) - 1 ∧ ∀ y ∈ (nb8 e.1).filter (inB h w), at2 sh y.1.toNat y.2.toNat = 0 → y ∈ E1.map (·.1))
    (Q := fun z => ∃ (P : List (Int × Int)) (e : DE), Good sh h w P ∧ P.length ≤ 64 ∧ (w : Int) ≤ P.length ∧ z = .ok (.rt (.lst (P.map pairP)) true) ⟨e, t⟩) 64 fuel _ (by decide) ?_ ⟨E, 0, a, b, c, d, rfl, rfl, T, first, by omega, by omega, rfl, fun i e hi => by simp at hi⟩
  rintro m e1 t' ⟨E1, at1, a1, b1, c1, d1, rfl, rfl, k1, k2, k3, k4, k5, k6⟩
  have le := k1.le
  by_cases hlt : at1 < E1.length
  · have hi : at1.toNat < E1.length := by omega
    have he : E1[at1.toNat]? = some E1[at1.toNat] := List.getElem?_eq_getElem hi
    generalize E1[at1.toNat] = en at he
    have hm := List.mem_of_getElem? he
    have g : (E1.map fun e => pairP e.1)[at1.toNat]? = some (pairP en.1) := by rw [List.getElem?_map, he]; rfl
    have ix : ixG (.lst (E1.map fun e => pairP e.1)) (.int at1) = some (pairP en.1) := by
      rw [ixG_lst k3 (by rw [List.length_map]; exact hi), g]
    refine ⟨true, ⟨st sh h w E1 a1 b1 c1 d1 at1, t'⟩, ?_, .inr ⟨rfl, ?_⟩⟩
    · simp only [ts1_line_of, st, shP, seqS_ap, kSeq_nx, kSeq_rt, kSeq_bk, kSeq_ct, retS_ap, kRet_ap, retN_ap, exprS_ap, kNx_ap, ifS_ap, ifE_ap, ifO_ap, kIf_t, kIf_f, badS_ap, nextS_ap, setS_ap, kSet_v, kSet_o, cellS_ap, kCell_ap, parS_ap, kPar_2, kPar_3, kPar_4, putSl_v, putSl_o, asgS_ap, kAsg_ap, kAsg2_ap, asgT_nm, asgT_tp, asgTs_nil, asgTs_nm, augS_ap, kAug_ap, kAug1_ap, kAug2_ap, nameE_ap, kNm_v, kNm_o, nameB_ap, kNb_o, kNb_v, kNc_cell, kNd_ap, kNc_int, kNc_bl, kNc_non, kNc_str, kNc_tup, kNc_lst, kNc_scr, kNc_dK, kNc_dT, kNc_ins, kMod_o, kMod_c, kMc_ap, kMo_ap, kMd_ap, appE_ap, kAp_ap, kAp2_ap, appU_ok, setIxS_ap, kSi_ap, kSi2_ap, kSi3_ap, setU_lst, augIxS_ap, kAx_ap, kAx1_ap, kAx1b_ap, kAx2_ap, kAx3_ap, kAx4_ap, lixG_ok, sharedE_ap, kSh_ap, plainE_ap, kPl_ap, constE_ap, nilA_ap, consA_ap, kCo_ap, kCo2_ap, nilL_ap, consL_ap, tupE_ap, lstE_ap, kTu_ap, kLs_ap, kOp_ap, kOp_no, binO_ap, kBi_ap, kBi2_ap, binE_ap, kBe_ap, kBe2_ap, chainE_ap, kCh_ap, kCh2_ap, kCh3_t, kCh3_f, kCh4_ap, testE_ap, toB_ap, andE_ap, orE_ap, notE_ap, kAnd_t, kAnd_f, kOr_t, kOr_f, kNot_ap, andT_ap, orT_ap, notT_ap, kAndT_t, kAndT_f, kOrT_t, kOrT_f, kNotT_ap, negE_ap, kNeg_ap, callO_ap, kCall_ap, kFr_ap, kFr_exc, un1O_ap, kUn_ap, un1E_ap, kUe_ap, lenG_lst, lenG_tup, lenG_scr, tupG_lst, tupG_tup, listG_lst, listG_tup, intG_int, intG_bl, absG_int, ixN_ap, kIx_ap, kIx2_ap, kIx3_ap, ixE_ap, kIe_ap, kIe2_ap, ixG_lst, ixG_tup, ixG_scr, noQ_ap, someQ_ap, kSq_ap, cutO_ap, kCt_ap, kCt2_ap, kCt3_ap, cutN_ap, kCn_ap, kCn2_ap, kCn3_ap, kCn4_ap, newK_ap, newT_ap, seqI_ap, seqP_lst, seqP_tup, seqP_scr, range1I_ap, kR1_ap, range2I_ap, kR2_ap, kR2b_ap, forS_ap, bodyF_ap, kBody_rt, kBody_nx, kBody_exc, yesT_ap, ix0, ix1, allG_ok, anyG_ok, sumG_ok, bind_ok, bind_bad, bind_exc, noX_ok, isi_int_int, isi_int_bool, isi_tup_tup, isi_lst_lst, isi_lst_tup, isi_tup_lst, subI_ok, addI_ok, ltI_ok, leI_ok, gtI_ok, geI_ok, cmpI_ok, max2_ok, min2_ok, eq_int, mul_modL, List.set_cons_zero, List.set_cons_succ, List.length_cons, List.length_nil, List.nil_append, List.cons_append, Nat.reduceAdd, Nat.reduceLeDiff, Nat.reduceLT, Nat.le_refl, decide_true, decide_false, Bool.not_true, Bool.not_false, Bool.true_and, Bool.false_and, Bool.and_true, Bool.and_false, Bool.true_or, Bool.false_or, Bool.or_true, Bool.or_false, Bool.false_bne, Bool.true_bne, Int.reduceLT, Int.reduceLE, Int.reducePow, Int.reduceNeg, Int.reduceToNat, if_true, if_false, frameE, List.map_cons, List.map_nil, List.replicate_succ, List.replicate_zero, Nat.reduceSub, List.replicate, ix0, ix1, and_self, true_and, and_true, pow_10_18, forL_nil, forL_ap, kFor_ap, kFor2_nx, kFor2_ct, kFor2_bk, kFor2_rt, lenA_lst, lenA_tup, lenA_scr, lenA_dK, lenA_dT, addI_ap, List.length_map, hlt]
    · by_cases hw : en.1.2 = (w : Int) - 1
      · refine .inr (.inl ?_)
        obtain ⟨F, f1, f2, f3, f4⟩ := wl0_ok s k1 he a1 d1 (at1 + 1) t'
        have rv : ∀ l : List (Int × Int), revG (.lst (l.map pairP)) = some (.lst (l.reverse.map pairP), true) := fun l => by simp [revG]
        refine ⟨.lst (F.reverse.map pairP), true, ⟨st sh h w E1 a1 (.val .non) (.own (.lst (F.map pairP))) d1 (at1 + 1), t'⟩, ?_, F.reverse, _, fun x hx => f1 x (List.mem_reverse.mp hx), by simpa using f2, by simp; omega, rfl⟩
        have rvF := rv F
        have hd : decide (en.1.2 = (w : Int) - 1) = true := decide_eq_true hw
        simp only [st, shP, pairP] at f4 ix rvF
        simp only [bd3_line_of, st, shP, pairP, ix, f4, rvF, hd, seqS_ap, kSeq_nx, kSeq_rt, kSeq_bk, kSeq_ct, retS_ap, kRet_ap, retN_ap, exprS_ap, kNx_ap, ifS_ap, ifE_ap, ifO_ap, kIf_t, kIf_f, badS_ap, nextS_ap, setS_ap, kSet_v, kSet_o, cellS_ap, kCell_ap, parS_ap, kPar_2, kPar_3, kPar_4, putSl_v, putSl_o, asgS_ap, kAsg_ap, kAsg2_ap, asgT_nm, asgT_tp, asgTs_nil, asgTs_nm, augS_ap, kAug_ap, kAug1_ap, kAug2_ap, nameE_ap, kNm_v, kNm_o, nameB_ap, kNb_o, kNb_v, kNc_cell, kNd_ap, kNc_int, kNc_bl, kNc_non, kNc_str, kNc_tup, kNc_lst, kNc_scr, kNc_dK, kNc_dT, kNc_ins, kMod_o, kMod_c, kMc_ap, kMo_ap, kMd_ap, appE_ap, kAp_ap, kAp2_ap, appU_ok, setIxS_ap, kSi_ap, kSi2_ap, kSi3_ap, setU_lst, augIxS_ap, kAx_ap, kAx1_ap, kAx1b_ap, kAx2_ap, kAx3_ap, kAx4_ap, lixG_ok, sharedE_ap, kSh_ap, plainE_ap, kPl_ap, constE_ap, nilA_ap, consA_ap, kCo_ap, kCo2_ap, nilL_ap, consL_ap, tupE_ap, lstE_ap, kTu_ap, kLs_ap, kOp_ap, kOp_no, binO_ap, kBi_ap, kBi2_ap, binE_ap, kBe_ap, kBe2_ap, chainE_ap, kCh_ap, kCh2_ap, kCh3_t, kCh3_f, kCh4_ap, testE_ap, toB_ap, andE_ap, orE_ap, notE_ap, kAnd_t, kAnd_f, kOr_t, kOr_f, kNot_ap, andT_ap, orT_ap, notT_ap, kAndT_t, kAndT_f, kOrT_t, kOrT_f, kNotT_ap, negE_ap, kNeg_ap, callO_ap, kCall_ap, kFr_ap, kFr_exc, un1O_ap, kUn_ap, un1E_ap, kUe_ap, lenG_lst, lenG_tup, lenG_scr, tupG_lst, tupG_tup, listG_lst, listG_tup, intG_int, intG_bl, absG_int, ixN_ap, kIx_ap, kIx2_ap, kIx3_ap, ixE_ap, kIe_ap, kIe2_ap, ixG_lst, ixG_tup, ixG_scr, noQ_ap, someQ_ap, kSq_ap, cutO_ap, kCt_ap, kCt2_ap, kCt3_ap, cutN_ap, kCn_ap, kCn2_ap, kCn3_ap, kCn4_ap, newK_ap, newT_ap, seqI_ap, seqP_lst, seqP_tup, seqP_scr, range1I_ap, kR1_ap, range2I_ap, kR2_ap, kR2b_ap, forS_ap, bodyF_ap, kBody_rt, kBody_nx, kBody_exc, yesT_ap, ix0, ix1, allG_ok, anyG_ok, sumG_ok, bind_ok, bind_bad, bind_exc, noX_ok, isi_int_int, isi_int_bool, isi_tup_tup, isi_lst_lst, isi_lst_tup, isi_tup_lst, subI_ok, addI_ok, ltI_ok, leI_ok, gtI_ok, geI_ok, cmpI_ok, max2_ok, min2_ok, eq_int, mul_modL, List.set_cons_zero, List.set_cons_succ, List.length_cons, List.length_nil, List.nil_append, List.cons_append, Nat.reduceAdd, Nat.reduceLeDiff, Nat.reduceLT, Nat.le_refl, decide_true, decide_false, Bool.not_true, Bool.not_false, Bool.true_and, Bool.false_and, Bool.and_true, Bool.and_false, Bool.true_or, Bool.false_or, Bool.or_true, Bool.or_false, Bool.false_bne, Bool.true_bne, Int.reduceLT, Int.reduceLE, Int.reducePow, Int.reduceNeg, Int.reduceToNat, if_true, if_false, frameE, List.map_cons, List.map_nil, List.replicate_succ, List.replicate_zero, Nat.reduceSub, List.replicate, ix0, ix1, and_self, true_and, and_true, pow_10_18, forL_nil, forL_ap, kFor_ap, kFor2_nx, kFor2_ct, kFor2_bk, kFor2_rt, lenA_lst, lenA_tup, lenA_scr, lenA_dK, lenA_dT, addI_ap]
      · refine .inl ?_
        obtain ⟨E2, d2, m1, m2, m3, m4⟩ := lp1_ok s k1 (o := en.1) (List.mem_map.mpr ⟨en, hm, rfl⟩) a1 c1 d1 (at1 + 1) t'
        have run : bd3_line_of ⟨st sh h w E1 a1 b1 c1 d1 at1, t'⟩ = .ok .nx ⟨st sh h w E2 a1 (.val (pairP en.1)) c1 d2 (at1 + 1), t'⟩ := by
          simp only [st, shP, pairP] at m4 ix
          simp only [bd3_line_of, st, shP, pairP, ix, m4, hw, seqS_ap, kSeq_nx, kSeq_rt, kSeq_bk, kSeq_ct, retS_ap, kRet_ap, retN_ap, exprS_ap, kNx_ap, ifS_ap, ifE_ap, ifO_ap, kIf_t, kIf_f, badS_ap, nextS_ap, setS_ap, kSet_v, kSet_o, cellS_ap, kCell_ap, parS_ap, kPar_2, kPar_3, kPar_4, putSl_v, putSl_o, asgS_ap, kAsg_ap, kAsg2_ap, asgT_nm, asgT_tp, asgTs_nil, asgTs_nm, augS_ap, kAug_ap, kAug1_ap, kAug2_ap, nameE_ap, kNm_v, kNm_o, nameB_ap, kNb_o, kNb_v, kNc_cell, kNd_ap, kNc_int, kNc_bl, kNc_non, kNc_str, kNc_tup, kNc_lst, kNc_scr, kNc_dK, kNc_dT, kNc_ins, kMod_o, kMod_c, kMc_ap, kMo_ap, kMd_ap, appE_ap, kAp_ap, kAp2_ap, appU_ok, setIxS_ap, kSi_ap, kSi2_ap, kSi3_ap, setU_lst, augIxS_ap, kAx_ap, kAx1_ap, kAx1b_ap, kAx2_ap, kAx3_ap, kAx4_ap, lixG_ok, sharedE_ap, kSh_ap, plainE_ap, kPl_ap, constE_ap, nilA_ap, consA_ap, kCo_ap, kCo2_ap, nilL_ap, consL_ap, tupE_ap, lstE_ap, kTu_ap, kLs_ap, kOp_ap, kOp_no, binO_ap, kBi_ap, kBi2_ap, binE_ap, kBe_ap, kBe2_ap, chainE_ap, kCh_ap, kCh2_ap, kCh3_t, kCh3_f, kCh4_ap, testE_ap, toB_ap, andE_ap, orE_ap, notE_ap, kAnd_t, kAnd_f, kOr_t, kOr_f, kNot_ap, andT_ap, orT_ap, notT_ap, kAndT_t, kAndT_f, kOrT_t, kOrT_f, kNotT_ap, negE_ap, kNeg_ap, callO_ap, kCall_ap, kFr_ap, kFr_exc, un1O_ap, kUn_ap, un1E_ap, kUe_ap, lenG_lst, lenG_tup, lenG_scr, tupG_lst, tupG_tup, listG_lst, listG_tup, intG_int, intG_bl, absG_int, ixN_ap, kIx_ap, kIx2_ap, kIx3_ap, ixE_ap, kIe_ap, kIe2_ap, ixG_lst, ixG_tup, ixG_scr, noQ_ap, someQ_ap, kSq_ap, cutO_ap, kCt_ap, kCt2_ap, kCt3_ap, cutN_ap, kCn_ap, kCn2_ap, kCn3_ap, kCn4_ap, newK_ap, newT_ap, seqI_ap, seqP_lst, seqP_tup, seqP_scr, range1I_ap, kR1_ap, range2I_ap, kR2_ap, kR2b_ap, forS_ap, bodyF_ap, kBody_rt, kBody_nx, kBody_exc, yesT_ap, ix0, ix1, allG_ok, anyG_ok, sumG_ok, bind_ok, bind_bad, bind_exc, noX_ok, isi_int_int, isi_int_bool, isi_tup_tup, isi_lst_lst, isi_lst_tup, isi_tup_lst, subI_ok, addI_ok, ltI_ok, leI_ok, gtI_ok, geI_ok, cmpI_ok, max2_ok, min2_ok, eq_int, mul_modL, List.set_cons_zero, List.set_cons_succ, List.length_cons, List.length_nil, List.nil_append, List.cons_append, Nat.reduceAdd, Nat.reduceLeDiff, Nat.reduceLT, Nat.le_refl, decide_true, decide_false, Bool.not_true, Bool.not_false, Bool.true_and, Bool.false_and, Bool.and_true, Bool.and_false, Bool.true_or, Bool.false_or, Bool.or_true, Bool.or_false, Bool.false_bne, Bool.true_bne, Int.reduceLT, Int.reduceLE, Int.reducePow, Int.reduceNeg, Int.reduceToNat, if_true, if_false, frameE, List.map_cons, List.map_nil, List.replicate_succ, List.replicate_zero, Nat.reduceSub, List.replicate, ix0, ix1, and_self, true_and, and_true, pow_10_18, forL_nil, forL_ap, kFor_ap, kFor2_nx, kFor2_ct, kFor2_bk, kFor2_rt, lenA_lst, lenA_tup, lenA_scr, lenA_dK, lenA_dT, addI_ap]
        have sub : ∀ x ∈ E1.map (·.1), x ∈ E2.map (·.1) := fun x hx => by
          obtain ⟨more, rfl⟩ := m2
          rw [List.map_append]
          exact List.mem_append_left _ hx
        have len : E1.length ≤ E2.length := m2.length_le
        refine ⟨_, (64 - (at1 + 1)).toNat, .inl run, by omega, E2, at1 + 1, _, _, _, _, rfl, rfl, m1, fun i hi hz => sub _ (k2 i hi hz), by omega, by omega, rfl, fun i e hi2 hie => ?_⟩
        by_cases hlast : i = at1.toNat
        · subst hlast
          have : E2[at1.toNat]? = some en := by
            obtain ⟨more, rfl⟩ := m2
            rw [List.getElem?_append_left hi]
            exact he
          rw [this] at hie
          cases hie
          exact ⟨hw, fun y hy hz => m3 y hy hz⟩
        · have hie' : E1[i]? = some e := by
            obtain ⟨more, rfl⟩ := m2
            rw [List.getElem?_append_left (by omega)] at hie
            exact hie
          obtain ⟨q1, q2⟩ := k6 i e (by omega) hie'
          exact ⟨q1, fun y hy hz => sub y (q2 y hy hz)⟩
  · exfalso
    obtain ⟨x, hx, hlast⟩ := cn (fun x => x ∈ E1.map (·.1)) k2 fun x y hx hy hz => by
      obtain ⟨e, he, rfl⟩ := List.mem_map.mp hx
      obtain ⟨i, hi, rfl⟩ := List.mem_iff_getElem.mp he
      exact (k6 i _ (by omega) (List.getElem?_eq_getElem hi)).2 y hy hz
    obtain ⟨e, he, rfl⟩ := List.mem_map.mp hx
    obtain ⟨i, hi, rfl⟩ := List.mem_iff_getElem.mp he
    exact (k6 i _ (by omega) (List.getElem?_eq_getElem hi)).1 hlast
theorem v_line_of (s : Sheet h w sh) (cn : Conn sh h w) (t : DT) : ∃ P : List (Int × Int), Good sh h w P ∧ P.length ≤ 64 ∧ (w : Int) ≤ P.length ∧ F_line_of [shP sh] t = .ok (.lst (P.map pairP)) true t := by
  have h1 := s.h1
  have r0 := s.rowLen (a := 0) (by omega)
  have i0 := ix_sh (c := false) (sh := sh) (a := 0) (by rw [s.len]; omega)
  simp only [Int.natCast_zero] at i0
  obtain ⟨E, a', T, first, l0⟩ := lp0_ok s .no .no .no .no t
  obtain ⟨P, e, g1, g2, g3, w1⟩ := wl1_ok s cn T first a' .no .no .no t
  refine ⟨P, g1, g2, g3, ?_⟩
  simp only [st, shP, List.map_nil] at l0 w1
  simp only [F_line_of, b_line_of, shP, i0, rowP, r0, s.len, seqS_ap, kSeq_nx, kSeq_rt, kSeq_bk, kSeq_ct, retS_ap, kRet_ap, retN_ap, exprS_ap, kNx_ap, ifS_ap, ifE_ap, ifO_ap, kIf_t, kIf_f, badS_ap, nextS_ap, setS_ap, kSet_v, kSet_o, cellS_ap, kCell_ap, parS_ap, kPar_2, kPar_3, kPar_4, putSl_v, putSl_o, asgS_ap, kAsg_ap, kAsg2_ap, asgT_nm, asgT_tp, asgTs_nil, asgTs_nm, augS_ap, kAug_ap, kAug1_ap, kAug2_ap, nameE_ap, kNm_v, kNm_o, nameB_ap, kNb_o, kNb_v, kNc_cell, kNd_ap, kNc_int, kNc_bl, kNc_non, kNc_str, kNc_tup, kNc_lst, kNc_scr, kNc_dK, kNc_dT, kNc_ins, kMod_o, kMod_c, kMc_ap, kMo_ap, kMd_ap, appE_ap, kAp_ap, kAp2_ap, appU_ok, setIxS_ap, kSi_ap, kSi2_ap, kSi3_ap, setU_lst, augIxS_ap, kAx_ap, kAx1_ap, kAx1b_ap, kAx2_ap, kAx3_ap, kAx4_ap, lixG_ok, sharedE_ap, kSh_ap, plainE_ap, kPl_ap, constE_ap, nilA_ap, consA_ap, kCo_ap, kCo2_ap, nilL_ap, consL_ap, tupE_ap, lstE_ap, kTu_ap, kLs_ap, kOp_ap, kOp_no, binO_ap, kBi_ap, kBi2_ap, binE_ap, kBe_ap, kBe2_ap, chainE_ap, kCh_ap, kCh2_ap, kCh3_t, kCh3_f, kCh4_ap, testE_ap, toB_ap, andE_ap, orE_ap, notE_ap, kAnd_t, kAnd_f, kOr_t, kOr_f, kNot_ap, andT_ap, orT_ap, notT_ap, kAndT_t, kAndT_f, kOrT_t, kOrT_f, kNotT_ap, negE_ap, kNeg_ap, callO_ap, kCall_ap, kFr_ap, kFr_exc, un1O_ap, kUn_ap, un1E_ap, kUe_ap, lenG_lst, lenG_tup, lenG_scr, tupG_lst, tupG_tup, listG_lst, listG_tup, intG_int, intG_bl, absG_int, ixN_ap, kIx_ap, kIx2_ap, kIx3_ap, ixE_ap, kIe_ap, kIe2_ap, ixG_lst, ixG_tup, ixG_scr, noQ_ap, someQ_ap, kSq_ap, cutO_ap, kCt_ap, kCt2_ap, kCt3_ap, cutN_ap, kCn_ap, kCn2_ap, kCn3_ap, kCn4_ap, newK_ap, newT_ap, seqI_ap, seqP_lst, seqP_tup, seqP_scr, range1I_ap, kR1_ap, range2I_ap, kR2_ap, kR2b_ap, forS_ap, bodyF_ap, kBody_rt, kBody_nx, kBody_exc, yesT_ap, ix0, ix1, allG_ok, anyG_ok, sumG_ok, bind_ok, bind_bad, bind_exc, noX_ok, isi_int_int, isi_int_bool, isi_tup_tup, isi_lst_lst, isi_lst_tup, isi_tup_lst, subI_ok, addI_ok, ltI_ok, leI_ok, gtI_ok, geI_ok, cmpI_ok, max2_ok, min2_ok, eq_int, mul_modL, List.set_cons_zero, List.set_cons_succ, List.length_cons, List.length_nil, List.nil_append, List.cons_append, Nat.reduceAdd, Nat.reduceLeDiff, Nat.reduceLT, Nat.le_refl, decide_true, decide_false, Bool.not_true, Bool.not_false, Bool.true_and, Bool.false_and, Bool.and_true, Bool.and_false, Bool.true_or, Bool.false_or, Bool.or_true, Bool.or_false, Bool.false_bne, Bool.true_bne, Int.reduceLT, Int.reduceLE, Int.reducePow, Int.reduceNeg, Int.reduceToNat, if_true, if_false, frameE, List.map_cons, List.map_nil, List.replicate_succ, List.replicate_zero, Nat.reduceSub, List.replicate, ix0, ix1, and_self, true_and, and_true, pow_10_18, forL_nil, forL_ap, kFor_ap, kFor2_nx, kFor2_ct, kFor2_bk, kFor2_rt, lenA_lst, lenA_tup, lenA_scr, lenA_dK, lenA_dT, addI_ap, List.length_map, l0, w1]
theorem v_line_told (s : Sheet h w sh) (cn : Conn sh h w) (lo : ∀ x ∈ sh.getD 0 [], x ≤ 0) (hi : ∀ x ∈ sh.getD (h - 1) [], 0 ≤ x) (t : DT) : ∃ P : List (Int × Int), Good sh h w P ∧ P.length ≤ 64 ∧ (w : Int) ≤ P.length ∧ F_line_told [.int h, .int w, shP sh] t = .ok (.tup false (P.map pairP)) false t := by
  obtain ⟨P, g1, g2, g3, g4⟩ := v_line_of s cn t
  refine ⟨P, g1, g2, g3, ?_⟩
  have k := v_check_heights s t
  have u := v_is_up_down s lo hi t
  simp only [shP] at k u g4
  simp only [F_line_told, b_line_told, shP, seqS_ap, kSeq_nx, kSeq_rt, kSeq_bk, kSeq_ct, retS_ap, kRet_ap, retN_ap, exprS_ap, kNx_ap, ifS_ap, ifE_ap, ifO_ap, kIf_t, kIf_f, badS_ap, nextS_ap, setS_ap, kSet_v, kSet_o, cellS_ap, kCell_ap, parS_ap, kPar_2, kPar_3, kPar_4, putSl_v, putSl_o, asgS_ap, kAsg_ap, kAsg2_ap, asgT_nm, asgT_tp, asgTs_nil, asgTs_nm, augS_ap, kAug_ap, kAug1_ap, kAug2_ap, nameE_ap, kNm_v, kNm_o, nameB_ap, kNb_o, kNb_v, kNc_cell, kNd_ap, kNc_int, kNc_bl, kNc_non, kNc_str, kNc_tup, kNc_lst, kNc_scr, kNc_dK, kNc_dT, kNc_ins, kMod_o, kMod_c, kMc_ap, kMo_ap, kMd_ap, appE_ap, kAp_ap, kAp2_ap, appU_ok, setIxS_ap, kSi_ap, kSi2_ap, kSi3_ap, setU_lst, augIxS_ap, kAx_ap, kAx1_ap, kAx1b_ap, kAx2_ap, kAx3_ap, kAx4_ap, lixG_ok, sharedE_ap, kSh_ap, plainE_ap, kPl_ap, constE_ap, nilA_ap, consA_ap, kCo_ap, kCo2_ap, nilL_ap, consL_ap, tupE_ap, lstE_ap, kTu_ap, kLs_ap, kOp_ap, kOp_no, binO_ap, kBi_ap, kBi2_ap, binE_ap, kBe_ap, kBe2_ap, chainE_ap, kCh_ap, kCh2_ap, kCh3_t, kCh3_f, kCh4_ap, testE_ap, toB_ap, andE_ap, orE_ap, notE_ap, kAnd_t, kAnd_f, kOr_t, kOr_f, kNot_ap, andT_ap, orT_ap, notT_ap, kAndT_t, kAndT_f, kOrT_t, kOrT_f, kNotT_ap, negE_ap, kNeg_ap, callO_ap, kCall_ap, kFr_ap, kFr_exc, un1O_ap, kUn_ap, un1E_ap, kUe_ap, lenG_lst, lenG_tup, lenG_scr, tupG_lst, tupG_tup, listG_lst, listG_tup, intG_int, intG_bl, absG_int, ixN_ap, kIx_ap, kIx2_ap, kIx3_ap, ixE_ap, kIe_ap, kIe2_ap, ixG_lst, ixG_tup, ixG_scr, noQ_ap, someQ_ap, kSq_ap, cutO_ap, kCt_ap, kCt2_ap, kCt3_ap, cutN_ap, kCn_ap, kCn2_ap, kCn3_ap, kCn4_ap, newK_ap, newT_ap, seqI_ap, seqP_lst, seqP_tup, seqP_scr, range1I_ap, kR1_ap, range2I_ap, kR2_ap, kR2b_ap, forS_ap, bodyF_ap, kBody_rt, kBody_nx, kBody_exc, yesT_ap, ix0, ix1, allG_ok, anyG_ok, sumG_ok, bind_ok, bind_bad, bind_exc, noX_ok, isi_int_int, isi_int_bool, isi_tup_tup, isi_lst_lst, isi_lst_tup, isi_tup_lst, subI_ok, addI_ok, ltI_ok, leI_ok, gtI_ok, geI_ok, cmpI_ok, max2_ok, min2_ok, eq_int, mul_modL, List.set_cons_zero, List.set_cons_succ, List.length_cons, List.length_nil, List.nil_append, List.cons_append, Nat.reduceAdd, Nat.reduceLeDiff, Nat.reduceLT, Nat.le_refl, decide_true, decide_false, Bool.not_true, Bool.not_false, Bool.true_and, Bool.false_and, Bool.and_true, Bool.and_false, Bool.true_or, Bool.false_or, Bool.or_true, Bool.or_false, Bool.false_bne, Bool.true_bne, Int.reduceLT, Int.reduceLE, Int.reducePow, Int.reduceNeg, Int.reduceToNat, if_true, if_false, frameE, List.map_cons, List.map_nil, List.replicate_succ, List.replicate_zero, Nat.reduceSub, List.replicate, ix0, ix1, and_self, true_and, and_true, pow_10_18, forL_nil, forL_ap, kFor_ap, kFor2_nx, kFor2_ct, kFor2_bk, kFor2_rt, lenA_lst, lenA_tup, lenA_scr, lenA_dK, lenA_dT, addI_ap, k, u, g4]
end
end K63
namespace K63
open PySem DR
/-- one row of a steep sheet -/
def steepRow (h w : Nat) (c : Nat → Int) (g : Int) (a : Nat) : List Int := (List.range w).map fun b => max ((a : Int) - ((h : Int) - 1)) (min (c b) ((a : Int) - g))
def steep (h w : Nat) (c : Nat → Int) (g : Int) : List (List Int) := (List.range h).map (steepRow h w c g)
/-- what a walk of steps is -/
def Steps (xs : List Int) : Prop := ∀ j : Nat, j + 1 < xs.length → xs.getD (j + 1) 0 ≤ xs.getD j 0 + 1 ∧ xs.getD j 0 ≤ xs.getD (j + 1) 0 + 1
theorem Steps.snoc {xs : List Int} (h : Steps xs) {y : Int} (hy : ∀ n, xs.length = n + 1 → y ≤ xs.getD n 0 + 1 ∧ xs.getD n 0 ≤ y + 1) : Steps (xs ++ [y]) := fun j hj => by
  rw [List.length_append, List.length_singleton] at hj
  have e1 : (xs ++ [y]).getD j 0 = xs.getD j 0 := by
    simp only [List.getD_eq_getElem?_getD]
    rw [List.getElem?_append_left (by omega)]
  by_cases hl : j + 1 < xs.length
  · have e2 : (xs ++ [y]).getD (j + 1) 0 = xs.getD (j + 1) 0 := by
      simp only [List.getD_eq_getElem?_getD]
      rw [List.getElem?_append_left hl]
    rw [e1, e2]
    exact h j hl
  · have e2 : (xs ++ [y]).getD (j + 1) 0 = y := by
      simp only [List.getD_eq_getElem?_getD]
      rw [List.getElem?_append_right (by omega), show j + 1 - xs.length = 0 by omega]
      rfl
    rw [e1, e2]
    exact hy j (by omega)
section
variable {h w : Nat}
abbrev s0 (h w : Nat) (xs : List Int) (tn b l f a fl bb r : Sl) : DE := [.val (.cell 0), .val (.int h), .val (.int w), .own (.lst (xs.map .int)), tn, b, l, f, a, fl, bb, r]
theorem lp0_steep (h2 : 2 ≤ h) (h8 : h ≤ 8) (w2 : 2 ≤ w) (w8 : w ≤ 8) {hand : PV} (ho : HandOk hand) (x0 : Int) :
    ∃ xs tn hand', xs.length = w ∧ Steps xs ∧ HandOk hand' ∧ lp0__law_steep ⟨s0 h w [x0] .no .no .no .no .no .no .no .no, [hand]⟩ = .ok .nx ⟨s0 h w xs tn .no .no .no .no .no .no .no, [hand']⟩ := by
  have big : 100 ≤ sizeLine := by decide
  obtain ⟨s', h1, xs, tn, hand', e1, e2, k1, k2, k3⟩ := forL_inv (tg := .nm 4) (b := bd0__law_steep) (Inv := fun i e t => ∃ xs tn hand', e = s0 h w xs tn .no .no .no .no .no .no .no ∧ t = [hand'] ∧ HandOk hand' ∧ xs.length = i + 1 ∧ Steps xs) (rangeP 0 (w - 1)) 0 ⟨s0 h w [x0] .no .no .no .no .no .no .no .no, [hand]⟩
    (fun i p hp e t ⟨xs, tn, hand', he, ht, k1, k2, k3⟩ => by
      subst he ht
      obtain ⟨hi, rfl⟩ := rangeP0_get hp
      obtain ⟨r, hand2, d1, d2, d3, d4⟩ := draw k1 (m := 3) (by decide) (by decide)
      have il := ix_lastL (ps := xs.map PV.int) (by rw [List.length_map]; omega)
      have gl : (xs.map PV.int)[(xs.map PV.int).length - 1]? = some (.int (xs.getD i 0)) := by
        rw [List.length_map, k2, Nat.add_sub_cancel, List.getElem?_map, getD_eq (d := 0) (show i < xs.length by omega)]
        rfl
      rw [gl] at il
      have ap : ∀ q, appU q (.lst (xs.map PV.int)) = some (.lst ((xs.map PV.int) ++ [q]), .non) := fun q => appU_ok (by rw [List.length_map]; omega)
      have mp : (xs ++ [xs.getD i 0 + r - 1]).map PV.int = xs.map PV.int ++ [.int (xs.getD i 0 + r - 1)] := by simp
      have run : bd0__law_steep ⟨s0 h w xs (.val (.int i)) .no .no .no .no .no .no .no, [hand']⟩ = .ok .nx ⟨s0 h w (xs ++ [xs.getD i 0 + r - 1]) (.val (.int i)) .no .no .no .no .no .no .no, [hand2]⟩ := by
        simp only [s0, mp]
        simp only [bd0__law_steep, il, ap, d1, seqS_ap, kSeq_nx, kSeq_rt, kSeq_bk, kSeq_ct, retS_ap, kRet_ap, retN_ap, exprS_ap, kNx_ap, ifS_ap, ifE_ap, ifO_ap, kIf_t, kIf_f, badS_ap, nextS_ap, setS_ap, kSet_v, kSet_o, cellS_ap, kCell_ap, parS_ap, kPar_2, kPar_3, kPar_4, putSl_v, putSl_o, asgS_ap, kAsg_ap, kAsg2_ap, asgT_nm, asgT_tp, asgTs_nil, asgTs_nm, augS_ap, kAug_ap, kAug1_ap, kAug2_ap, nameE_ap, kNm_v, kNm_o, nameB_ap, kNb_o, kNb_v, kNc_cell, kNd_ap, kNc_int, kNc_bl, kNc_non, kNc_str, kNc_tup, kNc_lst, kNc_scr, kNc_dK, kNc_dT, kNc_ins, kMod_o, kMod_c, kMc_ap, kMo_ap, kMd_ap, appE_ap, kAp_ap, kAp2_ap, appU_ok, setIxS_ap, kSi_ap, kSi2_ap, kSi3_ap, setU_lst, augIxS_ap, kAx_ap, kAx1_ap, kAx1b_ap, kAx2_ap, kAx3_ap, kAx4_ap, lixG_ok, sharedE_ap, kSh_ap, plainE_ap, kPl_ap, constE_ap, nilA_ap, consA_ap, kCo_ap, kCo2_ap, nilL_ap, consL_ap, tupE_ap, lstE_ap, kTu_ap, kLs_ap, kOp_ap, kOp_no, binO_ap, kBi_ap, kBi2_ap, binE_ap, kBe_ap, kBe2_ap, chainE_ap, kCh_ap, kCh2_ap, kCh3_t, kCh3_f, kCh4_ap, testE_ap, toB_ap, andE_ap, orE_ap, notE_ap, kAnd_t, kAnd_f, kOr_t, kOr_f, kNot_ap, andT_ap, orT_ap, notT_ap, kAndT_t, kAndT_f, kOrT_t, kOrT_f, kNotT_ap, negE_ap, kNeg_ap, callO_ap, kCall_ap, kFr_ap, kFr_exc, un1O_ap, kUn_ap, un1E_ap, kUe_ap, lenG_lst, lenG_tup, lenG_scr, tupG_lst, tupG_tup, listG_lst, listG_tup, intG_int, intG_bl, absG_int, ixN_ap, kIx_ap, kIx2_ap, kIx3_ap, ixE_ap, kIe_ap, kIe2_ap, ixG_lst, ixG_tup, ixG_scr, noQ_ap, someQ_ap, kSq_ap, cutO_ap, kCt_ap, kCt2_ap, kCt3_ap, cutN_ap, kCn_ap, kCn2_ap, kCn3_ap, kCn4_ap, newK_ap, newT_ap, seqI_ap, seqP_lst, seqP_tup, seqP_scr, range1I_ap, kR1_ap, range2I_ap, kR2_ap, kR2b_ap, forS_ap, bodyF_ap, kBody_rt, kBody_nx, kBody_exc, yesT_ap, ix0, ix1, allG_ok, anyG_ok, sumG_ok, bind_ok, bind_bad, bind_exc, noX_ok, isi_int_int, isi_int_bool, isi_tup_tup, isi_lst_lst, isi_lst_tup, isi_tup_lst, subI_ok, addI_ok, ltI_ok, leI_ok, gtI_ok, geI_ok, cmpI_ok, max2_ok, min2_ok, eq_int, mul_modL, List.set_cons_zero, List.set_cons_succ, List.length_cons, List.length_nil, List.nil_append, List.cons_append, Nat.reduceAdd, Nat.reduceLeDiff, Nat.reduceLT, Nat.le_refl, decide_true, decide_false, Bool.not_true, Bool.not_false, Bool.true_and, Bool.false_and, Bool.and_true, Bool.and_false, Bool.true_or, Bool.false_or, Bool.or_true, Bool.or_false, Bool.false_bne, Bool.true_bne, Int.reduceLT, Int.reduceLE, Int.reducePow, Int.reduceNeg, Int.reduceToNat, if_true, if_false, frameE, List.map_cons, List.map_nil, List.replicate_succ, List.replicate_zero, Nat.reduceSub, List.replicate, ix0, ix1, and_self, true_and, and_true, pow_10_18, forL_nil, forL_ap, kFor_ap, kFor2_nx, kFor2_ct, kFor2_bk, kFor2_rt, lenA_lst, lenA_tup, lenA_scr, lenA_dK, lenA_dT, addI_ap]
      refine ⟨_, _, rfl, .inl run, _, _, _, rfl, rfl, d4, by simp; omega, k3.snoc fun n hn => ?_⟩
      obtain rfl : n = i := by omega
      omega) (Nat.zero_le _) ⟨[x0], .no, hand, rfl, rfl, ho, rfl, fun j hj => by simp at hj⟩
  obtain ⟨e', t'⟩ := s'
  simp only at e1 e2
  subst e1 e2
  refine ⟨xs, tn, hand', by rw [k2, rangeP_len]; omega, k3, k1, ?_⟩
  rw [List.drop_zero] at h1
  have it : it0__law_steep ⟨s0 h w [x0] .no .no .no .no .no .no .no .no, [hand]⟩ = .ok (rangeP 0 (w - 1)) ⟨s0 h w [x0] .no .no .no .no .no .no .no .no, [hand]⟩ := by
    have e : ((w : Int) - 1).toNat = w - 1 := by omega
    simp only [it0__law_steep, s0, seqS_ap, kSeq_nx, kSeq_rt, kSeq_bk, kSeq_ct, retS_ap, kRet_ap, retN_ap, exprS_ap, kNx_ap, ifS_ap, ifE_ap, ifO_ap, kIf_t, kIf_f, badS_ap, nextS_ap, setS_ap, kSet_v, kSet_o, cellS_ap, kCell_ap, parS_ap, kPar_2, kPar_3, kPar_4, putSl_v, putSl_o, asgS_ap, kAsg_ap, kAsg2_ap, asgT_nm, asgT_tp, asgTs_nil, asgTs_nm, augS_ap, kAug_ap, kAug1_ap, kAug2_ap, nameE_ap, kNm_v, kNm_o, nameB_ap, kNb_o, kNb_v, kNc_cell, kNd_ap, kNc_int, kNc_bl, kNc_non, kNc_str, kNc_tup, kNc_lst, kNc_scr, kNc_dK, kNc_dT, kNc_ins, kMod_o, kMod_c, kMc_ap, kMo_ap, kMd_ap, appE_ap, kAp_ap, kAp2_ap, appU_ok, setIxS_ap, kSi_ap, kSi2_ap, kSi3_ap, setU_lst, augIxS_ap, kAx_ap, kAx1_ap, kAx1b_ap, kAx2_ap, kAx3_ap, kAx4_ap, lixG_ok, sharedE_ap, kSh_ap, plainE_ap, kPl_ap, constE_ap, nilA_ap, consA_ap, kCo_ap, kCo2_ap, nilL_ap, consL_ap, tupE_ap, lstE_ap, kTu_ap, kLs_ap, kOp_ap, kOp_no, binO_ap, kBi_ap, kBi2_ap, binE_ap, kBe_ap, kBe2_ap, chainE_ap, kCh_ap, kCh2_ap, kCh3_t, kCh3_f, kCh4_ap, testE_ap, toB_ap, andE_ap, orE_ap, notE_ap, kAnd_t, kAnd_f, kOr_t, kOr_f, kNot_ap, andT_ap, orT_ap, notT_ap, kAndT_t, kAndT_f, kOrT_t, kOrT_f, kNotT_ap, negE_ap, kNeg_ap, callO_ap, kCall_ap, kFr_ap, kFr_exc, un1O_ap, kUn_ap, un1E_ap, kUe_ap, lenG_lst, lenG_tup, lenG_scr, tupG_lst, tupG_tup, listG_lst, listG_tup, intG_int, intG_bl, absG_int, ixN_ap, kIx_ap, kIx2_ap, kIx3_ap, ixE_ap, kIe_ap, kIe2_ap, ixG_lst, ixG_tup, ixG_scr, noQ_ap, someQ_ap, kSq_ap, cutO_ap, kCt_ap, kCt2_ap, kCt3_ap, cutN_ap, kCn_ap, kCn2_ap, kCn3_ap, kCn4_ap, newK_ap, newT_ap, seqI_ap, seqP_lst, seqP_tup, seqP_scr, range1I_ap, kR1_ap, range2I_ap, kR2_ap, kR2b_ap, forS_ap, bodyF_ap, kBody_rt, kBody_nx, kBody_exc, yesT_ap, ix0, ix1, allG_ok, anyG_ok, sumG_ok, bind_ok, bind_bad, bind_exc, noX_ok, isi_int_int, isi_int_bool, isi_tup_tup, isi_lst_lst, isi_lst_tup, isi_tup_lst, subI_ok, addI_ok, ltI_ok, leI_ok, gtI_ok, geI_ok, cmpI_ok, max2_ok, min2_ok, eq_int, mul_modL, List.set_cons_zero, List.set_cons_succ, List.length_cons, List.length_nil, List.nil_append, List.cons_append, Nat.reduceAdd, Nat.reduceLeDiff, Nat.reduceLT, Nat.le_refl, decide_true, decide_false, Bool.not_true, Bool.not_false, Bool.true_and, Bool.false_and, Bool.and_true, Bool.and_false, Bool.true_or, Bool.false_or, Bool.or_true, Bool.or_false, Bool.false_bne, Bool.true_bne, Int.reduceLT, Int.reduceLE, Int.reducePow, Int.reduceNeg, Int.reduceToNat, if_true, if_false, frameE, List.map_cons, List.map_nil, List.replicate_succ, List.replicate_zero, Nat.reduceSub, List.replicate, ix0, ix1, and_self, true_and, and_true, pow_10_18, forL_nil, forL_ap, kFor_ap, kFor2_nx, kFor2_ct, kFor2_bk, kFor2_rt, lenA_lst, lenA_tup, lenA_scr, lenA_dK, lenA_dT, addI_ap, kR1_ap (x := (w : Int) - 1) (by omega) (by omega), e]
  simp only [lp0__law_steep, forS_ap, it, bind_ok]
  exact h1
theorem cp0_steep {xs : List Int} (hx : xs.length = w) (w8 : w ≤ 8) (a : Nat) (g low : Int) (tn f : Sl) (t : DT) :
    cp0__law_steep ⟨s0 h w xs tn (.val (.int g)) (.val (.int low)) f (.val (.int a)) (.val (.int ((a : Int) - ((h : Int) - 1)))) .no .no, t⟩ = .ok (.lst ((steepRow h w (fun b => xs.getD b 0 + low) g a).map .int), true) ⟨s0 h w xs tn (.val (.int g)) (.val (.int low)) f (.val (.int a)) (.val (.int ((a : Int) - ((h : Int) - 1)))) .no .no, t⟩ := by
  refine (lcO_map0 (s1 := ⟨s0 h w xs tn (.val (.int g)) (.val (.int low)) f (.val (.int a)) (.val (.int ((a : Int) - ((h : Int) - 1)))) .no .no, t⟩) (ps := rangeP 0 w) (fun p => .int (max ((a : Int) - ((h : Int) - 1)) (min (xs.getD (toI p).toNat 0 + low) ((a : Int) - g)))) ?_ (fun p hp => ?_) (by rw [rangeP_len]; exact small (by omega))).trans ?_
  · simp only [s0, seqS_ap, kSeq_nx, kSeq_rt, kSeq_bk, kSeq_ct, retS_ap, kRet_ap, retN_ap, exprS_ap, kNx_ap, ifS_ap, ifE_ap, ifO_ap, kIf_t, kIf_f, badS_ap, nextS_ap, setS_ap, kSet_v, kSet_o, cellS_ap, kCell_ap, parS_ap, kPar_2, kPar_3, kPar_4, putSl_v, putSl_o, asgS_ap, kAsg_ap, kAsg2_ap, asgT_nm, asgT_tp, asgTs_nil, asgTs_nm, augS_ap, kAug_ap, kAug1_ap, kAug2_ap, nameE_ap, kNm_v, kNm_o, nameB_ap, kNb_o, kNb_v, kNc_cell, kNd_ap, kNc_int, kNc_bl, kNc_non, kNc_str, kNc_tup, kNc_lst, kNc_scr, kNc_dK, kNc_dT, kNc_ins, kMod_o, kMod_c, kMc_ap, kMo_ap, kMd_ap, appE_ap, kAp_ap, kAp2_ap, appU_ok, setIxS_ap, kSi_ap, kSi2_ap, kSi3_ap, setU_lst, augIxS_ap, kAx_ap, kAx1_ap, kAx1b_ap, kAx2_ap, kAx3_ap, kAx4_ap, lixG_ok, sharedE_ap, kSh_ap, plainE_ap, kPl_ap, constE_ap, nilA_ap, consA_ap, kCo_ap, kCo2_ap, nilL_ap, consL_ap, tupE_ap, lstE_ap, kTu_ap, kLs_ap, kOp_ap, kOp_no, binO_ap, kBi_ap, kBi2_ap, binE_ap, kBe_ap, kBe2_ap, chainE_ap, kCh_ap, kCh2_ap, kCh3_t, kCh3_f, kCh4_ap, testE_ap, toB_ap, andE_ap, orE_ap, notE_ap, kAnd_t, kAnd_f, kOr_t, kOr_f, kNot_ap, andT_ap, orT_ap, notT_ap, kAndT_t, kAndT_f, kOrT_t, kOrT_f, kNotT_ap, negE_ap, kNeg_ap, callO_ap, kCall_ap, kFr_ap, kFr_exc, un1O_ap, kUn_ap, un1E_ap, kUe_ap, lenG_lst, lenG_tup, lenG_scr, tupG_lst, tupG_tup, listG_lst, listG_tup, intG_int, intG_bl, absG_int, ixN_ap, kIx_ap, kIx2_ap, kIx3_ap, ixE_ap, kIe_ap, kIe2_ap, ixG_lst, ixG_tup, ixG_scr, noQ_ap, someQ_ap, kSq_ap, cutO_ap, kCt_ap, kCt2_ap, kCt3_ap, cutN_ap, kCn_ap, kCn2_ap, kCn3_ap, kCn4_ap, newK_ap, newT_ap, seqI_ap, seqP_lst, seqP_tup, seqP_scr, range1I_ap, kR1_ap, range2I_ap, kR2_ap, kR2b_ap, forS_ap, bodyF_ap, kBody_rt, kBody_nx, kBody_exc, yesT_ap, ix0, ix1, allG_ok, anyG_ok, sumG_ok, bind_ok, bind_bad, bind_exc, noX_ok, isi_int_int, isi_int_bool, isi_tup_tup, isi_lst_lst, isi_lst_tup, isi_tup_lst, subI_ok, addI_ok, ltI_ok, leI_ok, gtI_ok, geI_ok, cmpI_ok, max2_ok, min2_ok, eq_int, mul_modL, List.set_cons_zero, List.set_cons_succ, List.length_cons, List.length_nil, List.nil_append, List.cons_append, Nat.reduceAdd, Nat.reduceLeDiff, Nat.reduceLT, Nat.le_refl, decide_true, decide_false, Bool.not_true, Bool.not_false, Bool.true_and, Bool.false_and, Bool.and_true, Bool.and_false, Bool.true_or, Bool.false_or, Bool.or_true, Bool.or_false, Bool.false_bne, Bool.true_bne, Int.reduceLT, Int.reduceLE, Int.reducePow, Int.reduceNeg, Int.reduceToNat, if_true, if_false, frameE, List.map_cons, List.map_nil, List.replicate_succ, List.replicate_zero, Nat.reduceSub, List.replicate, ix0, ix1, and_self, true_and, and_true, pow_10_18, forL_nil, forL_ap, kFor_ap, kFor2_nx, kFor2_ct, kFor2_bk, kFor2_rt, lenA_lst, lenA_tup, lenA_scr, lenA_dK, lenA_dT, addI_ap, kR1_ap (x := (w : Int)) (by omega) (by omega), Int.toNat_natCast]
  · obtain ⟨b, hb, rfl⟩ := mem_rangeP0 hp
    have i := ix_lrow (r := xs) (b := b) (by omega)
    refine ⟨_, rfl, ?_⟩
    simp only [s0, wipeE, i, seqS_ap, kSeq_nx, kSeq_rt, kSeq_bk, kSeq_ct, retS_ap, kRet_ap, retN_ap, exprS_ap, kNx_ap, ifS_ap, ifE_ap, ifO_ap, kIf_t, kIf_f, badS_ap, nextS_ap, setS_ap, kSet_v, kSet_o, cellS_ap, kCell_ap, parS_ap, kPar_2, kPar_3, kPar_4, putSl_v, putSl_o, asgS_ap, kAsg_ap, kAsg2_ap, asgT_nm, asgT_tp, asgTs_nil, asgTs_nm, augS_ap, kAug_ap, kAug1_ap, kAug2_ap, nameE_ap, kNm_v, kNm_o, nameB_ap, kNb_o, kNb_v, kNc_cell, kNd_ap, kNc_int, kNc_bl, kNc_non, kNc_str, kNc_tup, kNc_lst, kNc_scr, kNc_dK, kNc_dT, kNc_ins, kMod_o, kMod_c, kMc_ap, kMo_ap, kMd_ap, appE_ap, kAp_ap, kAp2_ap, appU_ok, setIxS_ap, kSi_ap, kSi2_ap, kSi3_ap, setU_lst, augIxS_ap, kAx_ap, kAx1_ap, kAx1b_ap, kAx2_ap, kAx3_ap, kAx4_ap, lixG_ok, sharedE_ap, kSh_ap, plainE_ap, kPl_ap, constE_ap, nilA_ap, consA_ap, kCo_ap, kCo2_ap, nilL_ap, consL_ap, tupE_ap, lstE_ap, kTu_ap, kLs_ap, kOp_ap, kOp_no, binO_ap, kBi_ap, kBi2_ap, binE_ap, kBe_ap, kBe2_ap, chainE_ap, kCh_ap, kCh2_ap, kCh3_t, kCh3_f, kCh4_ap, testE_ap, toB_ap, andE_ap, orE_ap, notE_ap, kAnd_t, kAnd_f, kOr_t, kOr_f, kNot_ap, andT_ap, orT_ap, notT_ap, kAndT_t, kAndT_f, kOrT_t, kOrT_f, kNotT_ap, negE_ap, kNeg_ap, callO_ap, kCall_ap, kFr_ap, kFr_exc, un1O_ap, kUn_ap, un1E_ap, kUe_ap, lenG_lst, lenG_tup, lenG_scr, tupG_lst, tupG_tup, listG_lst, listG_tup, intG_int, intG_bl, absG_int, ixN_ap, kIx_ap, kIx2_ap, kIx3_ap, ixE_ap, kIe_ap, kIe2_ap, ixG_lst, ixG_tup, ixG_scr, noQ_ap, someQ_ap, kSq_ap, cutO_ap, kCt_ap, kCt2_ap, kCt3_ap, cutN_ap, kCn_ap, kCn2_ap, kCn3_ap, kCn4_ap, newK_ap, newT_ap, seqI_ap, seqP_lst, seqP_tup, seqP_scr, range1I_ap, kR1_ap, range2I_ap, kR2_ap, kR2b_ap, forS_ap, bodyF_ap, kBody_rt, kBody_nx, kBody_exc, yesT_ap, ix0, ix1, allG_ok, anyG_ok, sumG_ok, bind_ok, bind_bad, bind_exc, noX_ok, isi_int_int, isi_int_bool, isi_tup_tup, isi_lst_lst, isi_lst_tup, isi_tup_lst, subI_ok, addI_ok, ltI_ok, leI_ok, gtI_ok, geI_ok, cmpI_ok, max2_ok, min2_ok, eq_int, mul_modL, List.set_cons_zero, List.set_cons_succ, List.length_cons, List.length_nil, List.nil_append, List.cons_append, Nat.reduceAdd, Nat.reduceLeDiff, Nat.reduceLT, Nat.le_refl, decide_true, decide_false, Bool.not_true, Bool.not_false, Bool.true_and, Bool.false_and, Bool.and_true, Bool.and_false, Bool.true_or, Bool.false_or, Bool.or_true, Bool.or_false, Bool.false_bne, Bool.true_bne, Int.reduceLT, Int.reduceLE, Int.reducePow, Int.reduceNeg, Int.reduceToNat, if_true, if_false, frameE, List.map_cons, List.map_nil, List.replicate_succ, List.replicate_zero, Nat.reduceSub, List.replicate, ix0, ix1, and_self, true_and, and_true, pow_10_18, forL_nil, forL_ap, kFor_ap, kFor2_nx, kFor2_ct, kFor2_bk, kFor2_rt, lenA_lst, lenA_tup, lenA_scr, lenA_dK, lenA_dT, addI_ap, toI, Int.toNat_natCast]
  · have e : ((rangeP 0 w).map fun p => PV.int (max ((a : Int) - ((h : Int) - 1)) (min (xs.getD (toI p).toNat 0 + low) ((a : Int) - g)))) = (steepRow h w (fun b => xs.getD b 0 + low) g a).map .int := by
      rw [rangeP0, steepRow, List.map_map, List.map_map]
      rfl
    rw [e]
    rfl
theorem lp1_steep {xs : List Int} (hx : xs.length = w) (h8 : h ≤ 8) (w8 : w ≤ 8) (g low : Int) (tn : Sl) (t : DT) :
    ∃ a fl, lp1__law_steep ⟨s0 h w xs tn (.val (.int g)) (.val (.int low)) (.own (.lst [])) .no .no .no .no, t⟩ = .ok .nx ⟨s0 h w xs tn (.val (.int g)) (.val (.int low)) (.own (.lst ((steep h w (fun b => xs.getD b 0 + low) g).map fun r => .lst (r.map .int)))) a fl .no .no, t⟩ := by
  have big : 100 ≤ sizeLine := by decide
  obtain ⟨s', h1, a, fl, e1, e2⟩ := forL_inv (tg := .nm 8) (b := bd1__law_steep) (Inv := fun i e t' => ∃ a fl, e = s0 h w xs tn (.val (.int g)) (.val (.int low)) (.own (.lst (((List.range i).map (steepRow h w (fun b => xs.getD b 0 + low) g)).map fun r => .lst (r.map .int)))) a fl .no .no ∧ t' = t) (rangeP 0 h) 0 ⟨s0 h w xs tn (.val (.int g)) (.val (.int low)) (.own (.lst [])) .no .no .no .no, t⟩
    (fun i p hp e t' ⟨a, fl, he, ht⟩ => by
      subst he ht
      obtain ⟨hi, rfl⟩ := rangeP0_get hp
      have c := cp0_steep hx w8 (h := h) i g low tn (.own (.lst (((List.range i).map (steepRow h w (fun b => xs.getD b 0 + low) g)).map fun r => .lst (r.map .int)))) t'
      have ap : ∀ q, appU q (.lst (((List.range i).map (steepRow h w (fun b => xs.getD b 0 + low) g)).map fun r => .lst (r.map .int))) = some (.lst ((((List.range i).map (steepRow h w (fun b => xs.getD b 0 + low) g)).map fun r => .lst (r.map .int)) ++ [q]), .non) := fun q => appU_ok (by simp; omega)
      have mp : ((List.range (i + 1)).map (steepRow h w (fun b => xs.getD b 0 + low) g)).map (fun r => PV.lst (r.map .int)) = (((List.range i).map (steepRow h w (fun b => xs.getD b 0 + low) g)).map fun r => .lst (r.map .int)) ++ [.lst ((steepRow h w (fun b => xs.getD b 0 + low) g i).map .int)] := by
        rw [List.range_succ]
        simp
      refine ⟨_, ⟨s0 h w xs tn (.val (.int g)) (.val (.int low)) (.own (.lst (((List.range (i + 1)).map (steepRow h w (fun b => xs.getD b 0 + low) g)).map fun r => .lst (r.map .int)))) (.val (.int i)) (.val (.int ((i : Int) - ((h : Int) - 1)))) .no .no, t'⟩, rfl, .inl ?_, _, _, rfl, rfl⟩
      rw [mp]
      simp only [s0] at c
      simp only [bd1__law_steep, s0, c, ap, seqS_ap, kSeq_nx, kSeq_rt, kSeq_bk, kSeq_ct, retS_ap, kRet_ap, retN_ap, exprS_ap, kNx_ap, ifS_ap, ifE_ap, ifO_ap, kIf_t, kIf_f, badS_ap, nextS_ap, setS_ap, kSet_v, kSet_o, cellS_ap, kCell_ap, parS_ap, kPar_2, kPar_3, kPar_4, putSl_v, putSl_o, asgS_ap, kAsg_ap, kAsg2_ap, asgT_nm, asgT_tp, asgTs_nil, asgTs_nm, augS_ap, kAug_ap, kAug1_ap, kAug2_ap, nameE_ap, kNm_v, kNm_o, nameB_ap, kNb_o, kNb_v, kNc_cell, kNd_ap, kNc_int, kNc_bl, kNc_non, kNc_str, kNc_tup, kNc_lst, kNc_scr, kNc_dK, kNc_dT, kNc_ins, kMod_o, kMod_c, kMc_ap, kMo_ap, kMd_ap, appE_ap, kAp_ap, kAp2_ap, appU_ok, setIxS_ap, kSi_ap, kSi2_ap, kSi3_ap, setU_lst, augIxS_ap, kAx_ap, kAx1_ap, kAx1b_ap, kAx2_ap, kAx3_ap, kAx4_ap, lixG_ok, sharedE_ap, kSh_ap, plainE_ap, kPl_ap, constE_ap, nilA_ap, consA_ap, kCo_ap, kCo2_ap, nilL_ap, consL_ap, tupE_ap, lstE_ap, kTu_ap, kLs_ap, kOp_ap, kOp_no, binO_ap, kBi_ap, kBi2_ap, binE_ap, kBe_ap, kBe2_ap, chainE_ap, kCh_ap, kCh2_ap, kCh3_t, kCh3_f, kCh4_ap, testE_ap, toB_ap, andE_ap, orE_ap, notE_ap, kAnd_t, kAnd_f, kOr_t, kOr_f, kNot_ap, andT_ap, orT_ap, notT_ap, kAndT_t, kAndT_f, kOrT_t, kOrT_f, kNotT_ap, negE_ap, kNeg_ap, callO_ap, kCall_ap, kFr_ap, kFr_exc, un1O_ap, kUn_ap, un1E_ap, kUe_ap, lenG_lst, lenG_tup, lenG_scr, tupG_lst, tupG_tup, listG_lst, listG_tup, intG_int, intG_bl, absG_int, ixN_ap, kIx_ap, kIx2_ap, kIx3_ap, ixE_ap, kIe_ap, kIe2_ap, ixG_lst, ixG_tup, ixG_scr, noQ_ap, someQ_ap, kSq_ap, cutO_ap, kCt_ap, kCt2_ap, kCt3_ap, cutN_ap, kCn_ap, kCn2_ap, kCn3_ap, kCn4_ap, newK_ap, newT_ap, seqI_ap, seqP_lst, seqP_tup, seqP_scr, range1I_ap, kR1_ap, range2I_ap, kR2_ap, kR2b_ap, forS_ap, bodyF_ap, kBody_rt, kBody_nx, kBody_exc, yesT_ap, ix0, ix1, allG_ok, anyG_ok, sumG_ok, bind_ok, bind_bad, bind_exc, noX_ok, isi_int_int, isi_int_bool, isi_tup_tup, isi_lst_lst, isi_lst_tup, isi_tup_lst, subI_ok, addI_ok, ltI_ok, leI_ok, gtI_ok, geI_ok, cmpI_ok, max2_ok, min2_ok, eq_int, mul_modL, List.set_cons_zero, List.set_cons_succ, List.length_cons, List.length_nil, List.nil_append, List.cons_append, Nat.reduceAdd, Nat.reduceLeDiff, Nat.reduceLT, Nat.le_refl, decide_true, decide_false, Bool.not_true, Bool.not_false, Bool.true_and, Bool.false_and, Bool.and_true, Bool.and_false, Bool.true_or, Bool.false_or, Bool.or_true, Bool.or_false, Bool.false_bne, Bool.true_bne, Int.reduceLT, Int.reduceLE, Int.reducePow, Int.reduceNeg, Int.reduceToNat, if_true, if_false, frameE, List.map_cons, List.map_nil, List.replicate_succ, List.replicate_zero, Nat.reduceSub, List.replicate, ix0, ix1, and_self, true_and, and_true, pow_10_18, forL_nil, forL_ap, kFor_ap, kFor2_nx, kFor2_ct, kFor2_bk, kFor2_rt, lenA_lst, lenA_tup, lenA_scr, lenA_dK, lenA_dT, addI_ap]) (Nat.zero_le _) ⟨.no, .no, rfl, rfl⟩
  obtain ⟨e', t'⟩ := s'
  simp only at e1 e2
  subst e1 e2
  refine ⟨a, fl, ?_⟩
  rw [List.drop_zero] at h1
  have it : it1__law_steep ⟨s0 h w xs tn (.val (.int g)) (.val (.int low)) (.own (.lst [])) .no .no .no .no, t'⟩ = .ok (rangeP 0 h) ⟨s0 h w xs tn (.val (.int g)) (.val (.int low)) (.own (.lst [])) .no .no .no .no, t'⟩ := by
    simp only [it1__law_steep, s0, seqS_ap, kSeq_nx, kSeq_rt, kSeq_bk, kSeq_ct, retS_ap, kRet_ap, retN_ap, exprS_ap, kNx_ap, ifS_ap, ifE_ap, ifO_ap, kIf_t, kIf_f, badS_ap, nextS_ap, setS_ap, kSet_v, kSet_o, cellS_ap, kCell_ap, parS_ap, kPar_2, kPar_3, kPar_4, putSl_v, putSl_o, asgS_ap, kAsg_ap, kAsg2_ap, asgT_nm, asgT_tp, asgTs_nil, asgTs_nm, augS_ap, kAug_ap, kAug1_ap, kAug2_ap, nameE_ap, kNm_v, kNm_o, nameB_ap, kNb_o, kNb_v, kNc_cell, kNd_ap, kNc_int, kNc_bl, kNc_non, kNc_str, kNc_tup, kNc_lst, kNc_scr, kNc_dK, kNc_dT, kNc_ins, kMod_o, kMod_c, kMc_ap, kMo_ap, kMd_ap, appE_ap, kAp_ap, kAp2_ap, appU_ok, setIxS_ap, kSi_ap, kSi2_ap, kSi3_ap, setU_lst, augIxS_ap, kAx_ap, kAx1_ap, kAx1b_ap, kAx2_ap, kAx3_ap, kAx4_ap, lixG_ok, sharedE_ap, kSh_ap, plainE_ap, kPl_ap, constE_ap, nilA_ap, consA_ap, kCo_ap, kCo2_ap, nilL_ap, consL_ap, tupE_ap, lstE_ap, kTu_ap, kLs_ap, kOp_ap, kOp_no, binO_ap, kBi_ap, kBi2_ap, binE_ap, kBe_ap, kBe2_ap, chainE_ap, kCh_ap, kCh2_ap, kCh3_t, kCh3_f, kCh4_ap, testE_ap, toB_ap, andE_ap, orE_ap, notE_ap, kAnd_t, kAnd_f, kOr_t, kOr_f, kNot_ap, andT_ap, orT_ap, notT_ap, kAndT_t, kAndT_f, kOrT_t, kOrT_f, kNotT_ap, negE_ap, kNeg_ap, callO_ap, kCall_ap, kFr_ap, kFr_exc, un1O_ap, kUn_ap, un1E_ap, kUe_ap, lenG_lst, lenG_tup, lenG_scr, tupG_lst, tupG_tup, listG_lst, listG_tup, intG_int, intG_bl, absG_int, ixN_ap, kIx_ap, kIx2_ap, kIx3_ap, ixE_ap, kIe_ap, kIe2_ap, ixG_lst, ixG_tup, ixG_scr, noQ_ap, someQ_ap, kSq_ap, cutO_ap, kCt_ap, kCt2_ap, kCt3_ap, cutN_ap, kCn_ap, kCn2_ap, kCn3_ap, kCn4_ap, newK_ap, newT_ap, seqI_ap, seqP_lst, seqP_tup, seqP_scr, range1I_ap, kR1_ap, range2I_ap, kR2_ap, kR2b_ap, forS_ap, bodyF_ap, kBody_rt, kBody_nx, kBody_exc, yesT_ap, ix0, ix1, allG_ok, anyG_ok, sumG_ok, bind_ok, bind_bad, bind_exc, noX_ok, isi_int_int, isi_int_bool, isi_tup_tup, isi_lst_lst, isi_lst_tup, isi_tup_lst, subI_ok, addI_ok, ltI_ok, leI_ok, gtI_ok, geI_ok, cmpI_ok, max2_ok, min2_ok, eq_int, mul_modL, List.set_cons_zero, List.set_cons_succ, List.length_cons, List.length_nil, List.nil_append, List.cons_append, Nat.reduceAdd, Nat.reduceLeDiff, Nat.reduceLT, Nat.le_refl, decide_true, decide_false, Bool.not_true, Bool.not_false, Bool.true_and, Bool.false_and, Bool.and_true, Bool.and_false, Bool.true_or, Bool.false_or, Bool.or_true, Bool.or_false, Bool.false_bne, Bool.true_bne, Int.reduceLT, Int.reduceLE, Int.reducePow, Int.reduceNeg, Int.reduceToNat, if_true, if_false, frameE, List.map_cons, List.map_nil, List.replicate_succ, List.replicate_zero, Nat.reduceSub, List.replicate, ix0, ix1, and_self, true_and, and_true, pow_10_18, forL_nil, forL_ap, kFor_ap, kFor2_nx, kFor2_ct, kFor2_bk, kFor2_rt, lenA_lst, lenA_tup, lenA_scr, lenA_dK, lenA_dT, addI_ap, kR1_ap (x := (h : Int)) (by omega) (by omega), Int.toNat_natCast]
  rw [rangeP_len] at h1
  simp only [lp1__law_steep, forS_ap, it, bind_ok]
  exact h1
theorem v_steep (h2 : 2 ≤ h) (h8 : h ≤ 8) (w2 : 2 ≤ w) (w8 : w ≤ 8) {hand : PV} (ho : HandOk hand) :
    ∃ (xs : List Int) (g low : Int) (hand' : PV), xs.length = w ∧ Steps xs ∧ 0 ≤ g ∧ g < h ∧ HandOk hand' ∧ F__law_steep [.cell 0, .int h, .int w] [hand] = .ok (shP (steep h w (fun b => xs.getD b 0 + low) g)) false [hand'] := by
  obtain ⟨r, hand1, d1, d2, d3, d4⟩ := draw ho (m := 5) (by decide) (by decide)
  obtain ⟨xs, tn, hand2, k1, k2, k3, k4⟩ := lp0_steep h2 h8 w2 w8 d4 (r - 2)
  obtain ⟨g, hand3, f1, f2, f3, f4⟩ := draw k3 (m := (h : Int)) (by omega) (by omega)
  obtain ⟨low, hand4, l1, l2, l3, l4⟩ := draw f4 (m := 3) (by decide) (by decide)
  obtain ⟨a, fl, p1⟩ := lp1_steep (h := h) k1 h8 w8 g low tn [hand4]
  refine ⟨xs, g, low, hand4, k1, k2, f2, f3, l4, ?_⟩
  have c1 : ∀ sh : List (List Int), sh.length ≤ 100 → cp1__law_steep ⟨s0 h w xs tn (.val (.int g)) (.val (.int low)) (.own (.lst (sh.map fun r => .lst (r.map .int)))) a fl .no .no, [hand4]⟩ = .ok (.lst (sh.map rowP), true) ⟨s0 h w xs tn (.val (.int g)) (.val (.int low)) (.val (.lst (sh.map fun r => .lst (r.map .int)))) a fl .no .no, [hand4]⟩ := fun sh hl => by
    refine (lcO_map0 (s1 := ⟨s0 h w xs tn (.val (.int g)) (.val (.int low)) (.val (.lst (sh.map fun r => .lst (r.map .int)))) a fl .no .no, [hand4]⟩) (ps := sh.map fun r => .lst (r.map .int)) (fun p => match p with | .lst ps => .tup false ps | _ => .non) ?_ (fun p hp => ?_) (by rw [List.length_map]; exact small hl)).trans ?_
    · simp only [s0, seqS_ap, kSeq_nx, kSeq_rt, kSeq_bk, kSeq_ct, retS_ap, kRet_ap, retN_ap, exprS_ap, kNx_ap, ifS_ap, ifE_ap, ifO_ap, kIf_t, kIf_f, badS_ap, nextS_ap, setS_ap, kSet_v, kSet_o, cellS_ap, kCell_ap, parS_ap, kPar_2, kPar_3, kPar_4, putSl_v, putSl_o, asgS_ap, kAsg_ap, kAsg2_ap, asgT_nm, asgT_tp, asgTs_nil, asgTs_nm, augS_ap, kAug_ap, kAug1_ap, kAug2_ap, nameE_ap, kNm_v, kNm_o, nameB_ap, kNb_o, kNb_v, kNc_cell, kNd_ap, kNc_int, kNc_bl, kNc_non, kNc_str, kNc_tup, kNc_lst, kNc_scr, kNc_dK, kNc_dT, kNc_ins, kMod_o, kMod_c, kMc_ap, kMo_ap, kMd_ap, appE_ap, kAp_ap, kAp2_ap, appU_ok, setIxS_ap, kSi_ap, kSi2_ap, kSi3_ap, setU_lst, augIxS_ap, kAx_ap, kAx1_ap, kAx1b_ap, kAx2_ap, kAx3_ap, kAx4_ap, lixG_ok, sharedE_ap, kSh_ap, plainE_ap, kPl_ap, constE_ap, nilA_ap, consA_ap, kCo_ap, kCo2_ap, nilL_ap, consL_ap, tupE_ap, lstE_ap, kTu_ap, kLs_ap, kOp_ap, kOp_no, binO_ap, kBi_ap, kBi2_ap, binE_ap, kBe_ap, kBe2_ap, chainE_ap, kCh_ap, kCh2_ap, kCh3_t, kCh3_f, kCh4_ap, testE_ap, toB_ap, andE_ap, orE_ap, notE_ap, kAnd_t, kAnd_f, kOr_t, kOr_f, kNot_ap, andT_ap, orT_ap, notT_ap, kAndT_t, kAndT_f, kOrT_t, kOrT_f, kNotT_ap, negE_ap, kNeg_ap, callO_ap, kCall_ap, kFr_ap, kFr_exc, un1O_ap, kUn_ap, un1E_ap, kUe_ap, lenG_lst, lenG_tup, lenG_scr, tupG_lst, tupG_tup, listG_lst, listG_tup, intG_int, intG_bl, absG_int, ixN_ap, kIx_ap, kIx2_ap, kIx3_ap, ixE_ap, kIe_ap, kIe2_ap, ixG_lst, ixG_tup, ixG_scr, noQ_ap, someQ_ap, kSq_ap, cutO_ap, kCt_ap, kCt2_ap, kCt3_ap, cutN_ap, kCn_ap, kCn2_ap, kCn3_ap, kCn4_ap, newK_ap, newT_ap, seqI_ap, seqP_lst, seqP_tup, seqP_scr, range1I_ap, kR1_ap, range2I_ap, kR2_ap, kR2b_ap, forS_ap, bodyF_ap, kBody_rt, kBody_nx, kBody_exc, yesT_ap, ix0, ix1, allG_ok, anyG_ok, sumG_ok, bind_ok, bind_bad, bind_exc, noX_ok, isi_int_int, isi_int_bool, isi_tup_tup, isi_lst_lst, isi_lst_tup, isi_tup_lst, subI_ok, addI_ok, ltI_ok, leI_ok, gtI_ok, geI_ok, cmpI_ok, max2_ok, min2_ok, eq_int, mul_modL, List.set_cons_zero, List.set_cons_succ, List.length_cons, List.length_nil, List.nil_append, List.cons_append, Nat.reduceAdd, Nat.reduceLeDiff, Nat.reduceLT, Nat.le_refl, decide_true, decide_false, Bool.not_true, Bool.not_false, Bool.true_and, Bool.false_and, Bool.and_true, Bool.and_false, Bool.true_or, Bool.false_or, Bool.or_true, Bool.or_false, Bool.false_bne, Bool.true_bne, Int.reduceLT, Int.reduceLE, Int.reducePow, Int.reduceNeg, Int.reduceToNat, if_true, if_false, frameE, List.map_cons, List.map_nil, List.replicate_succ, List.replicate_zero, Nat.reduceSub, List.replicate, ix0, ix1, and_self, true_and, and_true, pow_10_18, forL_nil, forL_ap, kFor_ap, kFor2_nx, kFor2_ct, kFor2_bk, kFor2_rt, lenA_lst, lenA_tup, lenA_scr, lenA_dK, lenA_dT, addI_ap]
    · obtain ⟨r, hr, rfl⟩ := List.mem_map.mp hp
      refine ⟨_, rfl, ?_⟩
      simp only [s0, wipeE, seqS_ap, kSeq_nx, kSeq_rt, kSeq_bk, kSeq_ct, retS_ap, kRet_ap, retN_ap, exprS_ap, kNx_ap, ifS_ap, ifE_ap, ifO_ap, kIf_t, kIf_f, badS_ap, nextS_ap, setS_ap, kSet_v, kSet_o, cellS_ap, kCell_ap, parS_ap, kPar_2, kPar_3, kPar_4, putSl_v, putSl_o, asgS_ap, kAsg_ap, kAsg2_ap, asgT_nm, asgT_tp, asgTs_nil, asgTs_nm, augS_ap, kAug_ap, kAug1_ap, kAug2_ap, nameE_ap, kNm_v, kNm_o, nameB_ap, kNb_o, kNb_v, kNc_cell, kNd_ap, kNc_int, kNc_bl, kNc_non, kNc_str, kNc_tup, kNc_lst, kNc_scr, kNc_dK, kNc_dT, kNc_ins, kMod_o, kMod_c, kMc_ap, kMo_ap, kMd_ap, appE_ap, kAp_ap, kAp2_ap, appU_ok, setIxS_ap, kSi_ap, kSi2_ap, kSi3_ap, setU_lst, augIxS_ap, kAx_ap, kAx1_ap, kAx1b_ap, kAx2_ap, kAx3_ap, kAx4_ap, lixG_ok, sharedE_ap, kSh_ap, plainE_ap, kPl_ap, constE_ap, nilA_ap, consA_ap, kCo_ap, kCo2_ap, nilL_ap, consL_ap, tupE_ap, lstE_ap, kTu_ap, kLs_ap, kOp_ap, kOp_no, binO_ap, kBi_ap, kBi2_ap, binE_ap, kBe_ap, kBe2_ap, chainE_ap, kCh_ap, kCh2_ap, kCh3_t, kCh3_f, kCh4_ap, testE_ap, toB_ap, andE_ap, orE_ap, notE_ap, kAnd_t, kAnd_f, kOr_t, kOr_f, kNot_ap, andT_ap, orT_ap, notT_ap, kAndT_t, kAndT_f, kOrT_t, kOrT_f, kNotT_ap, negE_ap, kNeg_ap, callO_ap, kCall_ap, kFr_ap, kFr_exc, un1O_ap, kUn_ap, un1E_ap, kUe_ap, lenG_lst, lenG_tup, lenG_scr, tupG_lst, tupG_tup, listG_lst, listG_tup, intG_int, intG_bl, absG_int, ixN_ap, kIx_ap, kIx2_ap, kIx3_ap, ixE_ap, kIe_ap, kIe2_ap, ixG_lst, ixG_tup, ixG_scr, noQ_ap, someQ_ap, kSq_ap, cutO_ap, kCt_ap, kCt2_ap, kCt3_ap, cutN_ap, kCn_ap, kCn2_ap, kCn3_ap, kCn4_ap, newK_ap, newT_ap, seqI_ap, seqP_lst, seqP_tup, seqP_scr, range1I_ap, kR1_ap, range2I_ap, kR2_ap, kR2b_ap, forS_ap, bodyF_ap, kBody_rt, kBody_nx, kBody_exc, yesT_ap, ix0, ix1, allG_ok, anyG_ok, sumG_ok, bind_ok, bind_bad, bind_exc, noX_ok, isi_int_int, isi_int_bool, isi_tup_tup, isi_lst_lst, isi_lst_tup, isi_tup_lst, subI_ok, addI_ok, ltI_ok, leI_ok, gtI_ok, geI_ok, cmpI_ok, max2_ok, min2_ok, eq_int, mul_modL, List.set_cons_zero, List.set_cons_succ, List.length_cons, List.length_nil, List.nil_append, List.cons_append, Nat.reduceAdd, Nat.reduceLeDiff, Nat.reduceLT, Nat.le_refl, decide_true, decide_false, Bool.not_true, Bool.not_false, Bool.true_and, Bool.false_and, Bool.and_true, Bool.and_false, Bool.true_or, Bool.false_or, Bool.or_true, Bool.or_false, Bool.false_bne, Bool.true_bne, Int.reduceLT, Int.reduceLE, Int.reducePow, Int.reduceNeg, Int.reduceToNat, if_true, if_false, frameE, List.map_cons, List.map_nil, List.replicate_succ, List.replicate_zero, Nat.reduceSub, List.replicate, ix0, ix1, and_self, true_and, and_true, pow_10_18, forL_nil, forL_ap, kFor_ap, kFor2_nx, kFor2_ct, kFor2_bk, kFor2_rt, lenA_lst, lenA_tup, lenA_scr, lenA_dK, lenA_dT, addI_ap]
    · have e : (sh.map fun r => PV.lst (r.map .int)).map (fun p => match p with | .lst ps => PV.tup false ps | _ => .non) = sh.map rowP := by
        rw [List.map_map]
        rfl
      rw [e]
      rfl
  have c := c1 (steep h w (fun b => xs.getD b 0 + low) g) (by simp [steep]; omega)
  simp only [s0, List.map_cons, List.map_nil] at k4 p1 c
  simp only [F__law_steep, b__law_steep, shP, d1, k4, f1, l1, p1, c, seqS_ap, kSeq_nx, kSeq_rt, kSeq_bk, kSeq_ct, retS_ap, kRet_ap, retN_ap, exprS_ap, kNx_ap, ifS_ap, ifE_ap, ifO_ap, kIf_t, kIf_f, badS_ap, nextS_ap, setS_ap, kSet_v, kSet_o, cellS_ap, kCell_ap, parS_ap, kPar_2, kPar_3, kPar_4, putSl_v, putSl_o, asgS_ap, kAsg_ap, kAsg2_ap, asgT_nm, asgT_tp, asgTs_nil, asgTs_nm, augS_ap, kAug_ap, kAug1_ap, kAug2_ap, nameE_ap, kNm_v, kNm_o, nameB_ap, kNb_o, kNb_v, kNc_cell, kNd_ap, kNc_int, kNc_bl, kNc_non, kNc_str, kNc_tup, kNc_lst, kNc_scr, kNc_dK, kNc_dT, kNc_ins, kMod_o, kMod_c, kMc_ap, kMo_ap, kMd_ap, appE_ap, kAp_ap, kAp2_ap, appU_ok, setIxS_ap, kSi_ap, kSi2_ap, kSi3_ap, setU_lst, augIxS_ap, kAx_ap, kAx1_ap, kAx1b_ap, kAx2_ap, kAx3_ap, kAx4_ap, lixG_ok, sharedE_ap, kSh_ap, plainE_ap, kPl_ap, constE_ap, nilA_ap, consA_ap, kCo_ap, kCo2_ap, nilL_ap, consL_ap, tupE_ap, lstE_ap, kTu_ap, kLs_ap, kOp_ap, kOp_no, binO_ap, kBi_ap, kBi2_ap, binE_ap, kBe_ap, kBe2_ap, chainE_ap, kCh_ap, kCh2_ap, kCh3_t, kCh3_f, kCh4_ap, testE_ap, toB_ap, andE_ap, orE_ap, notE_ap, kAnd_t, kAnd_f, kOr_t, kOr_f, kNot_ap, andT_ap, orT_ap, notT_ap, kAndT_t, kAndT_f, kOrT_t, kOrT_f, kNotT_ap, negE_ap, kNeg_ap, callO_ap, kCall_ap, kFr_ap, kFr_exc, un1O_ap, kUn_ap, un1E_ap, kUe_ap, lenG_lst, lenG_tup, lenG_scr, tupG_lst, tupG_tup, listG_lst, listG_tup, intG_int, intG_bl, absG_int, ixN_ap, kIx_ap, kIx2_ap, kIx3_ap, ixE_ap, kIe_ap, kIe2_ap, ixG_lst, ixG_tup, ixG_scr, noQ_ap, someQ_ap, kSq_ap, cutO_ap, kCt_ap, kCt2_ap, kCt3_ap, cutN_ap, kCn_ap, kCn2_ap, kCn3_ap, kCn4_ap, newK_ap, newT_ap, seqI_ap, seqP_lst, seqP_tup, seqP_scr, range1I_ap, kR1_ap, range2I_ap, kR2_ap, kR2b_ap, forS_ap, bodyF_ap, kBody_rt, kBody_nx, kBody_exc, yesT_ap, ix0, ix1, allG_ok, anyG_ok, sumG_ok, bind_ok, bind_bad, bind_exc, noX_ok, isi_int_int, isi_int_bool, isi_tup_tup, isi_lst_lst, isi_lst_tup, isi_tup_lst, subI_ok, addI_ok, ltI_ok, leI_ok, gtI_ok, geI_ok, cmpI_ok, max2_ok, min2_ok, eq_int, mul_modL, List.set_cons_zero, List.set_cons_succ, List.length_cons, List.length_nil, List.nil_append, List.cons_append, Nat.reduceAdd, Nat.reduceLeDiff, Nat.reduceLT, Nat.le_refl, decide_true, decide_false, Bool.not_true, Bool.not_false, Bool.true_and, Bool.false_and, Bool.and_true, Bool.and_false, Bool.true_or, Bool.false_or, Bool.or_true, Bool.or_false, Bool.false_bne, Bool.true_bne, Int.reduceLT, Int.reduceLE, Int.reducePow, Int.reduceNeg, Int.reduceToNat, if_true, if_false, frameE, List.map_cons, List.map_nil, List.replicate_succ, List.replicate_zero, Nat.reduceSub, List.replicate, ix0, ix1, and_self, true_and, and_true, pow_10_18, forL_nil, forL_ap, kFor_ap, kFor2_nx, kFor2_ct, kFor2_bk, kFor2_rt, lenA_lst, lenA_tup, lenA_scr, lenA_dK, lenA_dT, addI_ap]
end
end K63
namespace K63
open PySem DR
/-- steps of at most one -/
def Slow (c : Nat → Int) (w : Nat) : Prop := ∀ j : Nat, j + 1 < w → c (j + 1) ≤ c j + 1 ∧ c j ≤ c (j + 1) + 1
theorem Steps.slow {xs : List Int} (h : Steps xs) (low : Int) : Slow (fun b => xs.getD b 0 + low) xs.length := fun j hj => by
  have := h j hj
  simp only
  omega
theorem slow_two {c : Nat → Int} {w : Nat} (h : Slow c w) {i j : Nat} (hi : i < w) (hj : j < w) (d1 : i ≤ j + 1) (d2 : j ≤ i + 1) : c i ≤ c j + 1 := by
  by_cases e : i = j
  · subst e; omega
  · by_cases l : i < j
    · obtain rfl : j = i + 1 := by omega
      have := h i hj
      omega
    · obtain rfl : i = j + 1 := by omega
      have := h j hi
      omega
theorem ivt {c : Nat → Int} {w : Nat} (h : Slow c w) : ∀ (n i : Nat), i + n < w → (0 ≤ c i ∧ c (i + n) ≤ 0) ∨ (c i ≤ 0 ∧ 0 ≤ c (i + n)) → ∃ m, i ≤ m ∧ m < w ∧ c m = 0
  | 0, i, hl, s => ⟨i, by omega, by omega, by simp only [Nat.add_zero] at s; omega⟩
  | n + 1, i, hl, s => by
    by_cases z : c i = 0
    · exact ⟨i, by omega, by omega, z⟩
    · have st := h i (by omega)
      have e : i + (n + 1) = i + 1 + n := by omega
      rw [e] at s hl
      obtain ⟨m, h1, h2, h3⟩ := ivt h n (i + 1) hl (by omega)
      exact ⟨m, by omega, h2, h3⟩
theorem ivt2 {c : Nat → Int} {w i j : Nat} (h : Slow c w) (hij : i ≤ j) (hj : j < w) (s : (0 ≤ c i ∧ c j ≤ 0) ∨ (c i ≤ 0 ∧ 0 ≤ c j)) : ∃ m, i ≤ m ∧ m < w ∧ c m = 0 := by
  have e : i + (j - i) = j := by omega
  exact ivt h (j - i) i (by omega) (by rw [e]; exact s)
section
variable {h w : Nat} {c : Nat → Int} {g : Int}
theorem steep_at {a b : Nat} (ha : a < h) (hb : b < w) : at2 (steep h w c g) a b = max ((a : Int) - ((h : Int) - 1)) (min (c b) ((a : Int) - g)) := by
  unfold at2 steep steepRow
  simp only [List.getD_eq_getElem?_getD, List.getElem?_map]
  rw [List.getElem?_range ha]
  simp only [Option.map_some, Option.getD_some, List.getElem?_map]
  rw [List.getElem?_range hb]
  rfl
theorem steep_row {a : Nat} (ha : a < h) : (steep h w c g).getD a [] = steepRow h w c g a := by
  unfold steep
  simp only [List.getD_eq_getElem?_getD, List.getElem?_map]
  rw [List.getElem?_range ha]
  rfl
theorem steep_sheet (h2 : 2 ≤ h) (h8 : h ≤ 8) (w2 : 2 ≤ w) (w8 : w ≤ 8) (g0 : 0 ≤ g) (g1 : g < h) (sl : Slow c w) : Sheet h w (steep h w c g) := by
  refine ⟨h2, h8, w2, w8, by simp [steep], fun r hr => ?_, fun r hr x hx => ?_, fun a b a' b' ha hb ha' hb' d1 d2 d3 d4 => ?_⟩
  · obtain ⟨a, _, rfl⟩ := List.mem_map.mp hr
    simp [steepRow]
  · obtain ⟨a, ha, rfl⟩ := List.mem_map.mp hr
    obtain ⟨b, hb, rfl⟩ := List.mem_map.mp hx
    have := List.mem_range.mp ha
    omega
  · rw [steep_at ha hb, steep_at ha' hb']
    have := slow_two sl hb hb' d4 d3
    omega
theorem steep_lo (h2 : 2 ≤ h) (g0 : 0 ≤ g) : ∀ x ∈ (steep h w c g).getD 0 [], x ≤ 0 := fun x hx => by
  rw [steep_row (by omega)] at hx
  obtain ⟨b, hb, rfl⟩ := List.mem_map.mp hx
  omega
theorem steep_hi (h2 : 2 ≤ h) : ∀ x ∈ (steep h w c g).getD (h - 1) [], 0 ≤ x := fun x hx => by
  rw [steep_row (by omega)] at hx
  obtain ⟨b, hb, rfl⟩ := List.mem_map.mp hx
  omega
/-- where a steep sheet is nought -/
theorem steep_zero (g0 : 0 ≤ g) (g1 : g < h) {a b : Nat} (ha : a < h) (hb : b < w) : at2 (steep h w c g) a b = 0 ↔ (0 < c b ∧ (a : Int) = g) ∨ (c b = 0 ∧ g ≤ a) ∨ (c b < 0 ∧ a = h - 1) := by
  rw [steep_at ha hb]
  omega
theorem nb_right {a b : Nat} (ha : a < h) (hb : b + 1 < w) : ((a : Int), ((b + 1 : Nat) : Int)) ∈ (nb8 ((a : Int), (b : Int))).filter (inB h w) := by
  refine List.mem_filter.mpr ⟨?_, decide_eq_true (by simp only; omega)⟩
  have e : ((a : Int), ((b + 1 : Nat) : Int)) = ((a : Int) + 0, (b : Int) + 1) := by
    refine Prod.ext ?_ ?_ <;> simp
  rw [e]
  simp [nb8]
theorem nb_down {a b : Nat} (ha : a + 1 < h) (hb : b < w) : (((a + 1 : Nat) : Int), (b : Int)) ∈ (nb8 ((a : Int), (b : Int))).filter (inB h w) := by
  refine List.mem_filter.mpr ⟨?_, decide_eq_true (by simp only; omega)⟩
  have e : (((a + 1 : Nat) : Int), (b : Int)) = ((a : Int) + 1, (b : Int) + 0) := by
    refine Prod.ext ?_ ?_ <;> simp
  rw [e]
  simp [nb8]
theorem nb_up {a b : Nat} (ha : a + 1 < h) (hb : b < w) : ((a : Int), (b : Int)) ∈ (nb8 (((a + 1 : Nat) : Int), (b : Int))).filter (inB h w) := by
  refine List.mem_filter.mpr ⟨?_, decide_eq_true (by simp only; omega)⟩
  have e : ((a : Int), (b : Int)) = (((a + 1 : Nat) : Int) + -1, (b : Int) + 0) := by
    refine Prod.ext ?_ ?_ <;> simp <;> omega
  rw [e]
  simp [nb8]
theorem steep_conn (h2 : 2 ≤ h) (w2 : 2 ≤ w) (g0 : 0 ≤ g) (g1 : g < h) (sl : Slow c w) : Conn (steep h w c g) h w := by
  intro S first step
  have go : ∀ {a b a' b' : Nat}, S ((a : Int), (b : Int)) → ((a' : Int), (b' : Int)) ∈ (nb8 ((a : Int), (b : Int))).filter (inB h w) → at2 (steep h w c g) a' b' = 0 → S ((a' : Int), (b' : Int)) := fun s m z => step _ _ s m (by simpa using z)
  have all : ∀ b : Nat, b < w → ∀ a : Nat, a < h → at2 (steep h w c g) a b = 0 → S ((a : Int), (b : Int)) := by
    intro b
    induction b with
    | zero => exact fun _ a ha z => first a ha z
    | succ b ih =>
      intro hb a ha z
      have ih := ih (by omega)
      have sb := sl b hb
      have zb : ∀ {a : Nat}, a < h → (at2 (steep h w c g) a b = 0 ↔ (0 < c b ∧ (a : Int) = g) ∨ (c b = 0 ∧ g ≤ a) ∨ (c b < 0 ∧ a = h - 1)) := fun ha => steep_zero g0 g1 ha (by omega)
      have zb' : ∀ {a : Nat}, a < h → (at2 (steep h w c g) a (b + 1) = 0 ↔ (0 < c (b + 1) ∧ (a : Int) = g) ∨ (c (b + 1) = 0 ∧ g ≤ a) ∨ (c (b + 1) < 0 ∧ a = h - 1)) := fun ha => steep_zero g0 g1 ha hb
      by_cases zz : at2 (steep h w c g) a b = 0
      · exact go (ih a ha zz) (nb_right ha hb) z
      · have za := (zb' ha).mp z
        have nz : ¬ ((0 < c b ∧ (a : Int) = g) ∨ (c b = 0 ∧ g ≤ a) ∨ (c b < 0 ∧ a = h - 1)) := fun y => zz ((zb ha).mpr y)
        have c0 : c (b + 1) = 0 := by omega
        by_cases pos : 0 < c b
        · -- from g down
          obtain ⟨n, hn⟩ : ∃ n : Nat, g = n := ⟨g.toNat, by omega⟩
          have start : S ((n : Int), ((b + 1 : Nat) : Int)) := by
            have hnh : n < h := by omega
            exact go (ih n hnh ((zb hnh).mpr (.inl ⟨pos, hn.symm⟩))) (nb_right hnh hb) ((zb' hnh).mpr (.inr (.inl ⟨c0, by omega⟩)))
          have down : ∀ k : Nat, n + k < h → S (((n + k : Nat) : Int), ((b + 1 : Nat) : Int)) := by
            intro k
            induction k with
            | zero => exact fun _ => start
            | succ k ih2 =>
              intro hk
              exact go (ih2 (by omega)) (nb_down (a := n + k) (by omega) hb) ((zb' (by omega)).mpr (.inr (.inl ⟨c0, by omega⟩)))
          have := down (a - n) (by omega)
          rwa [show n + (a - n) = a by omega] at this
        · -- from the last row up
          have neg : c b < 0 := by omega
          have start : S (((h - 1 : Nat) : Int), ((b + 1 : Nat) : Int)) := by
            have hnh : h - 1 < h := by omega
            exact go (ih (h - 1) hnh ((zb hnh).mpr (.inr (.inr ⟨neg, rfl⟩)))) (nb_right hnh hb) ((zb' hnh).mpr (.inr (.inl ⟨c0, by omega⟩)))
          have up : ∀ k : Nat, g ≤ ((h - 1 : Nat) : Int) - k → k ≤ h - 1 → S (((h - 1 - k : Nat) : Int), ((b + 1 : Nat) : Int)) := by
            intro k
            induction k with
            | zero => exact fun _ _ => start
            | succ k ih2 =>
              intro hk hk2
              have e : h - 1 - k = (h - 1 - (k + 1)) + 1 := by omega
              have s1 := ih2 (by omega) (by omega)
              rw [e] at s1
              exact go s1 (nb_up (a := h - 1 - (k + 1)) (by omega) hb) ((zb' (by omega)).mpr (.inr (.inl ⟨c0, by omega⟩)))
          have := up (h - 1 - a) (by omega) (by omega)
          rwa [show h - 1 - (h - 1 - a) = a by omega] at this
  obtain ⟨n, hn⟩ : ∃ n : Nat, g = n := ⟨g.toNat, by omega⟩
  have hlast : w - 1 < w := by omega
  by_cases pos : 0 ≤ c (w - 1)
  · refine ⟨_, all (w - 1) hlast n (by omega) ((steep_zero g0 g1 (by omega) hlast).mpr ?_), by simp only; omega⟩
    omega
  · refine ⟨_, all (w - 1) hlast (h - 1) (by omega) ((steep_zero g0 g1 (by omega) hlast).mpr ?_), by simp only; omega⟩
    omega
end
/-! ### turned sheets -/
section
variable {h w : Nat} {S : List (List Int)}
theorem flip_at (s : Sheet w h S) {a b : Nat} (ha : a < h) (hb : b < w) : at2 (flip S h) a b = at2 S b a := by
  have l := s.len
  unfold at2 flip
  simp only [List.getD_eq_getElem?_getD, List.getElem?_map]
  rw [List.getElem?_range ha]
  simp only [Option.map_some, Option.getD_some, List.getElem?_map, List.getElem?_eq_getElem (show b < S.length by omega)]
theorem flip_row {a : Nat} (ha : a < h) : (flip S h).getD a [] = S.map fun r => r.getD a 0 := by
  unfold flip
  simp only [List.getD_eq_getElem?_getD, List.getElem?_map]
  rw [List.getElem?_range ha]
  rfl
theorem flip_sheet (s : Sheet w h S) : Sheet h w (flip S h) := by
  refine ⟨s.w1, s.w2, s.h1, s.h2, by simp [flip], fun r hr => ?_, fun r hr x hx => ?_, fun a b a' b' ha hb ha' hb' d1 d2 d3 d4 => ?_⟩
  · obtain ⟨a, _, rfl⟩ := List.mem_map.mp hr
    rw [List.length_map, s.len]
  · obtain ⟨a, ha, rfl⟩ := List.mem_map.mp hr
    obtain ⟨r, hr, rfl⟩ := List.mem_map.mp hx
    exact s.bnd r hr _ (getD_mem (by rw [s.row r hr]; exact List.mem_range.mp ha))
  · rw [flip_at s ha hb, flip_at s ha' hb']
    exact s.stp b a b' a' hb ha hb' ha' d3 d4 d1 d2
theorem flip_lo (s : Sheet w h S) (lo : ∀ x ∈ S.getD 0 [], x ≤ 0) : ∀ r ∈ flip S h, r.getD 0 0 ≤ 0 := fun r hr => by
  obtain ⟨a, ha, rfl⟩ := List.mem_map.mp hr
  have w1 := s.h1
  have l := s.len
  have ha := List.mem_range.mp ha
  have e : (S.map fun r => r.getD a 0).getD 0 0 = (S.getD 0 []).getD a 0 := by
    simp only [List.getD_eq_getElem?_getD, List.getElem?_map, List.getElem?_eq_getElem (show 0 < S.length by omega), Option.map_some, Option.getD_some]
  rw [e]
  exact lo _ (getD_mem (by rw [s.rowLen (by omega)]; exact ha))
theorem flip_hi (s : Sheet w h S) (hi : ∀ x ∈ S.getD (w - 1) [], 0 ≤ x) : ∀ r ∈ flip S h, 0 ≤ r.getD (w - 1) 0 := fun r hr => by
  obtain ⟨a, ha, rfl⟩ := List.mem_map.mp hr
  have w1 := s.h1
  have l := s.len
  have ha := List.mem_range.mp ha
  have e : (S.map fun r => r.getD a 0).getD (w - 1) 0 = (S.getD (w - 1) []).getD a 0 := by
    simp only [List.getD_eq_getElem?_getD, List.getElem?_map, List.getElem?_eq_getElem (show w - 1 < S.length by omega), Option.map_some, Option.getD_some]
  rw [e]
  exact hi _ (getD_mem (by rw [s.rowLen (by omega)]; exact ha))
end
/-- two steep sheets meet -/
theorem steep_meet {h w : Nat} {c d : Nat → Int} {g k : Int} (h2 : 2 ≤ h) (w2 : 2 ≤ w) (g0 : 0 ≤ g) (g1 : g < h) (k0 : 0 ≤ k) (k1 : k < w) (sc : Slow c w) (sd : Slow d h) : ∃ a b : Nat, a < h ∧ b < w ∧ at2 (steep h w c g) a b = 0 ∧ at2 (steep w h d k) b a = 0 := by
  obtain ⟨gn, rfl⟩ : ∃ n : Nat, g = n := ⟨g.toNat, by omega⟩
  obtain ⟨kn, rfl⟩ : ∃ n : Nat, k = n := ⟨k.toNat, by omega⟩
  have pick : ∀ a b : Nat, a < h → b < w → ((0 < c b ∧ (a : Int) = gn) ∨ (c b = 0 ∧ (gn : Int) ≤ a) ∨ (c b < 0 ∧ a = h - 1)) → ((0 < d a ∧ (b : Int) = kn) ∨ (d a = 0 ∧ (kn : Int) ≤ b) ∨ (d a < 0 ∧ b = w - 1)) → ∃ a b : Nat, a < h ∧ b < w ∧ at2 (steep h w c gn) a b = 0 ∧ at2 (steep w h d kn) b a = 0 := fun a b ha hb z1 z2 => ⟨a, b, ha, hb, (steep_zero g0 g1 ha hb).mpr z1, (steep_zero k0 k1 hb ha).mpr z2⟩
  have gh : gn < h := by omega
  have kw : kn < w := by omega
  by_cases p1 : 0 ≤ c kn ∧ 0 ≤ d gn
  · exact pick gn kn gh kw (by omega) (by omega)
  · by_cases p2 : c kn ≤ 0 ∧ 0 ≤ d (h - 1)
    · exact pick (h - 1) kn (by omega) kw (by omega) (by omega)
    · by_cases p3 : 0 ≤ c (w - 1) ∧ d gn ≤ 0
      · exact pick gn (w - 1) gh (by omega) (by omega) (by omega)
      · by_cases p4 : c (w - 1) ≤ 0 ∧ d (h - 1) ≤ 0
        · exact pick (h - 1) (w - 1) (by omega) (by omega) (by omega) (by omega)
        · obtain ⟨b, b1, b2, b3⟩ := ivt2 sc (i := kn) (j := w - 1) (by omega) (by omega) (by omega)
          obtain ⟨a, a1, a2, a3⟩ := ivt2 sd (i := gn) (j := h - 1) (by omega) (by omega) (by omega)
          exact pick a b a2 b2 (by omega) (by omega)
end K63
namespace K63
open PySem DR
theorem ix_hd {p : PV} {ps : List PV} : ixG (.lst (p :: ps)) (.int 0) = some p := by
  rw [ixG_lst (by decide) (by simp)]
  rfl
theorem isTT : isG true (.bl true) (.bl true) = some (.bl false) := rfl
theorem v_common {h w : Nat} {sh st : List (List Int)} (s : Sheet h w sh) (s' : Sheet h w st) (lo : ∀ x ∈ sh.getD 0 [], x ≤ 0) (hi : ∀ x ∈ sh.getD (h - 1) [], 0 ≤ x) (lo' : ∀ r ∈ st, r.getD 0 0 ≤ 0) (hi' : ∀ r ∈ st, 0 ≤ r.getD (w - 1) 0) {x : Int × Int} {l : List (Int × Int)} (hl : (grid h w fun a b => zero sh a b && zero st a b) = x :: l) (t : DT) : F_common [.int h, .int w, shP sh, shP st] t = .ok (pairP x) false t := by
  have k := v_check_heights s t
  have k' := v_check_heights s' t
  have u := v_is_up_down s lo hi t
  have v := v_is_left_right s' lo' hi' t
  have b := v_both s s' t
  rw [hl] at b
  simp only [shP] at k k' u v b
  simp only [F_common, b_common, shP, seqS_ap, kSeq_nx, kSeq_rt, kSeq_bk, kSeq_ct, retS_ap, kRet_ap, retN_ap, exprS_ap, kNx_ap, ifS_ap, ifE_ap, ifO_ap, kIf_t, kIf_f, badS_ap, nextS_ap, setS_ap, kSet_v, kSet_o, cellS_ap, kCell_ap, parS_ap, kPar_2, kPar_3, kPar_4, putSl_v, putSl_o, asgS_ap, kAsg_ap, kAsg2_ap, asgT_nm, asgT_tp, asgTs_nil, asgTs_nm, augS_ap, kAug_ap, kAug1_ap, kAug2_ap, nameE_ap, kNm_v, kNm_o, nameB_ap, kNb_o, kNb_v, kNc_cell, kNd_ap, kNc_int, kNc_bl, kNc_non, kNc_str, kNc_tup, kNc_lst, kNc_scr, kNc_dK, kNc_dT, kNc_ins, kMod_o, kMod_c, kMc_ap, kMo_ap, kMd_ap, appE_ap, kAp_ap, kAp2_ap, appU_ok, setIxS_ap, kSi_ap, kSi2_ap, kSi3_ap, setU_lst, augIxS_ap, kAx_ap, kAx1_ap, kAx1b_ap, kAx2_ap, kAx3_ap, kAx4_ap, lixG_ok, sharedE_ap, kSh_ap, plainE_ap, kPl_ap, constE_ap, nilA_ap, consA_ap, kCo_ap, kCo2_ap, nilL_ap, consL_ap, tupE_ap, lstE_ap, kTu_ap, kLs_ap, kOp_ap, kOp_no, binO_ap, kBi_ap, kBi2_ap, binE_ap, kBe_ap, kBe2_ap, chainE_ap, kCh_ap, kCh2_ap, kCh3_t, kCh3_f, kCh4_ap, testE_ap, toB_ap, andE_ap, orE_ap, notE_ap, kAnd_t, kAnd_f, kOr_t, kOr_f, kNot_ap, andT_ap, orT_ap, notT_ap, kAndT_t, kAndT_f, kOrT_t, kOrT_f, kNotT_ap, negE_ap, kNeg_ap, callO_ap, kCall_ap, kFr_ap, kFr_exc, un1O_ap, kUn_ap, un1E_ap, kUe_ap, lenG_lst, lenG_tup, lenG_scr, tupG_lst, tupG_tup, listG_lst, listG_tup, intG_int, intG_bl, absG_int, ixN_ap, kIx_ap, kIx2_ap, kIx3_ap, ixE_ap, kIe_ap, kIe2_ap, ixG_lst, ixG_tup, ixG_scr, noQ_ap, someQ_ap, kSq_ap, cutO_ap, kCt_ap, kCt2_ap, kCt3_ap, cutN_ap, kCn_ap, kCn2_ap, kCn3_ap, kCn4_ap, newK_ap, newT_ap, seqI_ap, seqP_lst, seqP_tup, seqP_scr, range1I_ap, kR1_ap, range2I_ap, kR2_ap, kR2b_ap, forS_ap, bodyF_ap, kBody_rt, kBody_nx, kBody_exc, yesT_ap, ix0, ix1, allG_ok, anyG_ok, sumG_ok, bind_ok, bind_bad, bind_exc, noX_ok, isi_int_int, isi_int_bool, isi_tup_tup, isi_lst_lst, isi_lst_tup, isi_tup_lst, subI_ok, addI_ok, ltI_ok, leI_ok, gtI_ok, geI_ok, cmpI_ok, max2_ok, min2_ok, eq_int, mul_modL, List.set_cons_zero, List.set_cons_succ, List.length_cons, List.length_nil, List.nil_append, List.cons_append, Nat.reduceAdd, Nat.reduceLeDiff, Nat.reduceLT, Nat.le_refl, decide_true, decide_false, Bool.not_true, Bool.not_false, Bool.true_and, Bool.false_and, Bool.and_true, Bool.and_false, Bool.true_or, Bool.false_or, Bool.or_true, Bool.or_false, Bool.false_bne, Bool.true_bne, Int.reduceLT, Int.reduceLE, Int.reducePow, Int.reduceNeg, Int.reduceToNat, if_true, if_false, frameE, List.map_cons, List.map_nil, List.replicate_succ, List.replicate_zero, Nat.reduceSub, List.replicate, ix0, ix1, and_self, true_and, and_true, pow_10_18, forL_nil, forL_ap, kFor_ap, kFor2_nx, kFor2_ct, kFor2_bk, kFor2_rt, lenA_lst, lenA_tup, lenA_scr, lenA_dK, lenA_dT, addI_ap, k, k', u, v, b, ix_hd]
theorem filter_pairs (f : Int × Int → Bool) (c : PV → Bool) (hc : ∀ x, c (pairP x) = f x) (l : List (Int × Int)) : ((l.map pairP).filter c).map id = (l.filter f).map pairP := by
  rw [List.map_id]
  induction l with
  | nil => rfl
  | cons x l ih =>
    rw [List.map_cons, List.filter_cons, List.filter_cons, hc]
    by_cases h : f x = true
    · rw [if_pos h, if_pos h, List.map_cons, ih]
    · rw [if_neg h, if_neg h, ih]
theorem v_right {hand : PV} (ho : HandOk hand) : ∃ hand', F__law_is_right [.cell 0] [hand] = .ok (.bl true) false [hand'] ∧ HandOk hand' := by
  obtain ⟨r1, hand1, a1, a2, a3, a4⟩ := draw ho (m := 5) (by decide) (by decide)
  obtain ⟨r2, hand2, b1, b2, b3, b4⟩ := draw a4 (m := 5) (by decide) (by decide)
  obtain ⟨h, hh⟩ : ∃ h : Nat, 2 + r1 = h := ⟨(2 + r1).toNat, by omega⟩
  obtain ⟨w, hw⟩ : ∃ w : Nat, 2 + r2 = w := ⟨(2 + r2).toNat, by omega⟩
  have h2 : 2 ≤ h := by omega
  have h8 : h ≤ 8 := by omega
  have w2 : 2 ≤ w := by omega
  have w8 : w ≤ 8 := by omega
  obtain ⟨xs, g, low, hand3, c1, c2, c3, c4, c5, c6⟩ := v_steep h2 h8 w2 w8 b4
  obtain ⟨ys, k, low', hand4, d1, d2, d3, d4, d5, d6⟩ := v_steep w2 w8 h2 h8 c5
  refine ⟨hand4, ?_, d5⟩
  have sc : Slow (fun b => xs.getD b 0 + low) w := c1 ▸ c2.slow low
  have sd : Slow (fun b => ys.getD b 0 + low') h := d1 ▸ d2.slow low'
  generalize (fun b => xs.getD b 0 + low) = c at sc c6
  generalize (fun b => ys.getD b 0 + low') = d at sd d6
  have sA := steep_sheet h2 h8 w2 w8 c3 c4 sc
  have sS := steep_sheet w2 w8 h2 h8 d3 d4 sd
  have sB := flip_sheet sS
  have lo := steep_lo (w := w) (c := c) h2 c3
  have hi := steep_hi (w := w) (c := c) (g := g) h2
  have lo' := flip_lo sS (steep_lo (w := h) (c := d) w2 d3)
  have hi' := flip_hi sS (steep_hi (w := h) (c := d) (g := k) w2)
  have cn := steep_conn h2 w2 c3 c4 sc
  obtain ⟨pa, pb, m1, m2, m3, m4⟩ := steep_meet h2 w2 c3 c4 d3 d4 sc sd
  rw [← flip_at sS m1 m2] at m4
  have vt := v_turned sS [hand4]
  generalize steep w h d k = S at sS sB vt lo' hi' m4 d6
  generalize steep h w c g = A at sA lo hi cn m3 c6
  generalize flip S h = B at sB vt lo' hi' m4
  have hA := v_is_heights sA [hand4]
  have hB := v_is_heights sB [hand4]
  have uA := v_is_up_down sA lo hi [hand4]
  have lB := v_is_left_right sB lo' hi' [hand4]
  have bA := v_blocked sA lo hi [hand4]
  have nA := v_noughts sA [hand4]
  have bo := v_both sA sB [hand4]
  obtain ⟨P, p1, p2, p3, p4⟩ := v_line_told sA cn lo hi [hand4]
  obtain ⟨x, l, hl⟩ : ∃ x l, (grid h w fun a b => zero A a b && zero B a b) = x :: l := by
    have hm : ((pa : Int), (pb : Int)) ∈ grid h w fun a b => zero A a b && zero B a b := mem_grid.mpr ⟨pa, pb, m1, m2, by simp [zero, m3, m4], rfl⟩
    cases e : grid h w fun a b => zero A a b && zero B a b with
    | nil => rw [e] at hm; cases hm
    | cons x l => exact ⟨x, l, rfl⟩
  have co := v_common sA sB lo hi lo' hi' hl [hand4]
  have cp0 : cp0__law_is_right ⟨[.val (.cell 0), .val (.int h), .val (.int w), .val (shP A), .val (shP B), .no, .no, .no, .no, .no], [hand4]⟩ = .ok (.lst ((x :: l).map pairP), true) ⟨[.val (.cell 0), .val (.int h), .val (.int w), .val (shP A), .val (shP B), .no, .no, .no, .no, .no], [hand4]⟩ := by
    refine (lcO_flt0 (s1 := ⟨[.val (.cell 0), .val (.int h), .val (.int w), .val (shP A), .val (shP B), .no, .no, .no, .no, .no], [hand4]⟩) (ps := (grid h w (zero A)).map pairP) (fun p => match p with | .tup _ [.int i, .int j] => zero B i.toNat j.toNat | _ => false) id ?_ (fun p hp => ?_) (by rw [List.length_map]; exact small (grid_small h8 w8 _))).trans ?_
    · simp only [shP] at nA
      simp only [shP, seqS_ap, kSeq_nx, kSeq_rt, kSeq_bk, kSeq_ct, retS_ap, kRet_ap, retN_ap, exprS_ap, kNx_ap, ifS_ap, ifE_ap, ifO_ap, kIf_t, kIf_f, badS_ap, nextS_ap, setS_ap, kSet_v, kSet_o, cellS_ap, kCell_ap, parS_ap, kPar_2, kPar_3, kPar_4, putSl_v, putSl_o, asgS_ap, kAsg_ap, kAsg2_ap, asgT_nm, asgT_tp, asgTs_nil, asgTs_nm, augS_ap, kAug_ap, kAug1_ap, kAug2_ap, nameE_ap, kNm_v, kNm_o, nameB_ap, kNb_o, kNb_v, kNc_cell, kNd_ap, kNc_int, kNc_bl, kNc_non, kNc_str, kNc_tup, kNc_lst, kNc_scr, kNc_dK, kNc_dT, kNc_ins, kMod_o, kMod_c, kMc_ap, kMo_ap, kMd_ap, appE_ap, kAp_ap, kAp2_ap, appU_ok, setIxS_ap, kSi_ap, kSi2_ap, kSi3_ap, setU_lst, augIxS_ap, kAx_ap, kAx1_ap, kAx1b_ap, kAx2_ap, kAx3_ap, kAx4_ap, lixG_ok, sharedE_ap, kSh_ap, plainE_ap, kPl_ap, constE_ap, nilA_ap, consA_ap, kCo_ap, kCo2_ap, nilL_ap, consL_ap, tupE_ap, lstE_ap, kTu_ap, kLs_ap, kOp_ap, kOp_no, binO_ap, kBi_ap, kBi2_ap, binE_ap, kBe_ap, kBe2_ap, chainE_ap, kCh_ap, kCh2_ap, kCh3_t, kCh3_f, kCh4_ap, testE_ap, toB_ap, andE_ap, orE_ap, notE_ap, kAnd_t, kAnd_f, kOr_t, kOr_f, kNot_ap, andT_ap, orT_ap, notT_ap, kAndT_t, kAndT_f, kOrT_t, kOrT_f, kNotT_ap, negE_ap, kNeg_ap, callO_ap, kCall_ap, kFr_ap, kFr_exc, un1O_ap, kUn_ap, un1E_ap, kUe_ap, lenG_lst, lenG_tup, lenG_scr, tupG_lst, tupG_tup, listG_lst, listG_tup, intG_int, intG_bl, absG_int, ixN_ap, kIx_ap, kIx2_ap, kIx3_ap, ixE_ap, kIe_ap, kIe2_ap, ixG_lst, ixG_tup, ixG_scr, noQ_ap, someQ_ap, kSq_ap, cutO_ap, kCt_ap, kCt2_ap, kCt3_ap, cutN_ap, kCn_ap, kCn2_ap, kCn3_ap, kCn4_ap, newK_ap, newT_ap, seqI_ap, seqP_lst, seqP_tup, seqP_scr, range1I_ap, kR1_ap, range2I_ap, kR2_ap, kR2b_ap, forS_ap, bodyF_ap, kBody_rt, kBody_nx, kBody_exc, yesT_ap, ix0, ix1, allG_ok, anyG_ok, sumG_ok, bind_ok, bind_bad, bind_exc, noX_ok, isi_int_int, isi_int_bool, isi_tup_tup, isi_lst_lst, isi_lst_tup, isi_tup_lst, subI_ok, addI_ok, ltI_ok, leI_ok, gtI_ok, geI_ok, cmpI_ok, max2_ok, min2_ok, eq_int, mul_modL, List.set_cons_zero, List.set_cons_succ, List.length_cons, List.length_nil, List.nil_append, List.cons_append, Nat.reduceAdd, Nat.reduceLeDiff, Nat.reduceLT, Nat.le_refl, decide_true, decide_false, Bool.not_true, Bool.not_false, Bool.true_and, Bool.false_and, Bool.and_true, Bool.and_false, Bool.true_or, Bool.false_or, Bool.or_true, Bool.or_false, Bool.false_bne, Bool.true_bne, Int.reduceLT, Int.reduceLE, Int.reducePow, Int.reduceNeg, Int.reduceToNat, if_true, if_false, frameE, List.map_cons, List.map_nil, List.replicate_succ, List.replicate_zero, Nat.reduceSub, List.replicate, ix0, ix1, and_self, true_and, and_true, pow_10_18, forL_nil, forL_ap, kFor_ap, kFor2_nx, kFor2_ct, kFor2_bk, kFor2_rt, lenA_lst, lenA_tup, lenA_scr, lenA_dK, lenA_dT, addI_ap, nA]
    · obtain ⟨y, hy, rfl⟩ := List.mem_map.mp hp
      obtain ⟨a, b, ha, hb, _, rfl⟩ := mem_grid.mp hy
      have i1 := ix_sh (c := false) (sh := B) (a := a) (by rw [sB.len]; exact ha)
      have i2 := ix_row (c := false) (r := B.getD a []) (b := b) (by rw [sB.rowLen ha]; exact hb)
      refine ⟨_, rfl, ?_, fun _ => ?_⟩
      · simp only [wipeE, shP, pairP, i1, rowP, i2, seqS_ap, kSeq_nx, kSeq_rt, kSeq_bk, kSeq_ct, retS_ap, kRet_ap, retN_ap, exprS_ap, kNx_ap, ifS_ap, ifE_ap, ifO_ap, kIf_t, kIf_f, badS_ap, nextS_ap, setS_ap, kSet_v, kSet_o, cellS_ap, kCell_ap, parS_ap, kPar_2, kPar_3, kPar_4, putSl_v, putSl_o, asgS_ap, kAsg_ap, kAsg2_ap, asgT_nm, asgT_tp, asgTs_nil, asgTs_nm, augS_ap, kAug_ap, kAug1_ap, kAug2_ap, nameE_ap, kNm_v, kNm_o, nameB_ap, kNb_o, kNb_v, kNc_cell, kNd_ap, kNc_int, kNc_bl, kNc_non, kNc_str, kNc_tup, kNc_lst, kNc_scr, kNc_dK, kNc_dT, kNc_ins, kMod_o, kMod_c, kMc_ap, kMo_ap, kMd_ap, appE_ap, kAp_ap, kAp2_ap, appU_ok, setIxS_ap, kSi_ap, kSi2_ap, kSi3_ap, setU_lst, augIxS_ap, kAx_ap, kAx1_ap, kAx1b_ap, kAx2_ap, kAx3_ap, kAx4_ap, lixG_ok, sharedE_ap, kSh_ap, plainE_ap, kPl_ap, constE_ap, nilA_ap, consA_ap, kCo_ap, kCo2_ap, nilL_ap, consL_ap, tupE_ap, lstE_ap, kTu_ap, kLs_ap, kOp_ap, kOp_no, binO_ap, kBi_ap, kBi2_ap, binE_ap, kBe_ap, kBe2_ap, chainE_ap, kCh_ap, kCh2_ap, kCh3_t, kCh3_f, kCh4_ap, testE_ap, toB_ap, andE_ap, orE_ap, notE_ap, kAnd_t, kAnd_f, kOr_t, kOr_f, kNot_ap, andT_ap, orT_ap, notT_ap, kAndT_t, kAndT_f, kOrT_t, kOrT_f, kNotT_ap, negE_ap, kNeg_ap, callO_ap, kCall_ap, kFr_ap, kFr_exc, un1O_ap, kUn_ap, un1E_ap, kUe_ap, lenG_lst, lenG_tup, lenG_scr, tupG_lst, tupG_tup, listG_lst, listG_tup, intG_int, intG_bl, absG_int, ixN_ap, kIx_ap, kIx2_ap, kIx3_ap, ixE_ap, kIe_ap, kIe2_ap, ixG_lst, ixG_tup, ixG_scr, noQ_ap, someQ_ap, kSq_ap, cutO_ap, kCt_ap, kCt2_ap, kCt3_ap, cutN_ap, kCn_ap, kCn2_ap, kCn3_ap, kCn4_ap, newK_ap, newT_ap, seqI_ap, seqP_lst, seqP_tup, seqP_scr, range1I_ap, kR1_ap, range2I_ap, kR2_ap, kR2b_ap, forS_ap, bodyF_ap, kBody_rt, kBody_nx, kBody_exc, yesT_ap, ix0, ix1, allG_ok, anyG_ok, sumG_ok, bind_ok, bind_bad, bind_exc, noX_ok, isi_int_int, isi_int_bool, isi_tup_tup, isi_lst_lst, isi_lst_tup, isi_tup_lst, subI_ok, addI_ok, ltI_ok, leI_ok, gtI_ok, geI_ok, cmpI_ok, max2_ok, min2_ok, eq_int, mul_modL, List.set_cons_zero, List.set_cons_succ, List.length_cons, List.length_nil, List.nil_append, List.cons_append, Nat.reduceAdd, Nat.reduceLeDiff, Nat.reduceLT, Nat.le_refl, decide_true, decide_false, Bool.not_true, Bool.not_false, Bool.true_and, Bool.false_and, Bool.and_true, Bool.and_false, Bool.true_or, Bool.false_or, Bool.or_true, Bool.or_false, Bool.false_bne, Bool.true_bne, Int.reduceLT, Int.reduceLE, Int.reducePow, Int.reduceNeg, Int.reduceToNat, if_true, if_false, frameE, List.map_cons, List.map_nil, List.replicate_succ, List.replicate_zero, Nat.reduceSub, List.replicate, ix0, ix1, and_self, true_and, and_true, pow_10_18, forL_nil, forL_ap, kFor_ap, kFor2_nx, kFor2_ct, kFor2_bk, kFor2_rt, lenA_lst, lenA_tup, lenA_scr, lenA_dK, lenA_dT, addI_ap, Int.toNat_natCast]
        rfl
      · simp only [wipeE, shP, pairP, seqS_ap, kSeq_nx, kSeq_rt, kSeq_bk, kSeq_ct, retS_ap, kRet_ap, retN_ap, exprS_ap, kNx_ap, ifS_ap, ifE_ap, ifO_ap, kIf_t, kIf_f, badS_ap, nextS_ap, setS_ap, kSet_v, kSet_o, cellS_ap, kCell_ap, parS_ap, kPar_2, kPar_3, kPar_4, putSl_v, putSl_o, asgS_ap, kAsg_ap, kAsg2_ap, asgT_nm, asgT_tp, asgTs_nil, asgTs_nm, augS_ap, kAug_ap, kAug1_ap, kAug2_ap, nameE_ap, kNm_v, kNm_o, nameB_ap, kNb_o, kNb_v, kNc_cell, kNd_ap, kNc_int, kNc_bl, kNc_non, kNc_str, kNc_tup, kNc_lst, kNc_scr, kNc_dK, kNc_dT, kNc_ins, kMod_o, kMod_c, kMc_ap, kMo_ap, kMd_ap, appE_ap, kAp_ap, kAp2_ap, appU_ok, setIxS_ap, kSi_ap, kSi2_ap, kSi3_ap, setU_lst, augIxS_ap, kAx_ap, kAx1_ap, kAx1b_ap, kAx2_ap, kAx3_ap, kAx4_ap, lixG_ok, sharedE_ap, kSh_ap, plainE_ap, kPl_ap, constE_ap, nilA_ap, consA_ap, kCo_ap, kCo2_ap, nilL_ap, consL_ap, tupE_ap, lstE_ap, kTu_ap, kLs_ap, kOp_ap, kOp_no, binO_ap, kBi_ap, kBi2_ap, binE_ap, kBe_ap, kBe2_ap, chainE_ap, kCh_ap, kCh2_ap, kCh3_t, kCh3_f, kCh4_ap, testE_ap, toB_ap, andE_ap, orE_ap, notE_ap, kAnd_t, kAnd_f, kOr_t, kOr_f, kNot_ap, andT_ap, orT_ap, notT_ap, kAndT_t, kAndT_f, kOrT_t, kOrT_f, kNotT_ap, negE_ap, kNeg_ap, callO_ap, kCall_ap, kFr_ap, kFr_exc, un1O_ap, kUn_ap, un1E_ap, kUe_ap, lenG_lst, lenG_tup, lenG_scr, tupG_lst, tupG_tup, listG_lst, listG_tup, intG_int, intG_bl, absG_int, ixN_ap, kIx_ap, kIx2_ap, kIx3_ap, ixE_ap, kIe_ap, kIe2_ap, ixG_lst, ixG_tup, ixG_scr, noQ_ap, someQ_ap, kSq_ap, cutO_ap, kCt_ap, kCt2_ap, kCt3_ap, cutN_ap, kCn_ap, kCn2_ap, kCn3_ap, kCn4_ap, newK_ap, newT_ap, seqI_ap, seqP_lst, seqP_tup, seqP_scr, range1I_ap, kR1_ap, range2I_ap, kR2_ap, kR2b_ap, forS_ap, bodyF_ap, kBody_rt, kBody_nx, kBody_exc, yesT_ap, ix0, ix1, allG_ok, anyG_ok, sumG_ok, bind_ok, bind_bad, bind_exc, noX_ok, isi_int_int, isi_int_bool, isi_tup_tup, isi_lst_lst, isi_lst_tup, isi_tup_lst, subI_ok, addI_ok, ltI_ok, leI_ok, gtI_ok, geI_ok, cmpI_ok, max2_ok, min2_ok, eq_int, mul_modL, List.set_cons_zero, List.set_cons_succ, List.length_cons, List.length_nil, List.nil_append, List.cons_append, Nat.reduceAdd, Nat.reduceLeDiff, Nat.reduceLT, Nat.le_refl, decide_true, decide_false, Bool.not_true, Bool.not_false, Bool.true_and, Bool.false_and, Bool.and_true, Bool.and_false, Bool.true_or, Bool.false_or, Bool.or_true, Bool.or_false, Bool.false_bne, Bool.true_bne, Int.reduceLT, Int.reduceLE, Int.reducePow, Int.reduceNeg, Int.reduceToNat, if_true, if_false, frameE, List.map_cons, List.map_nil, List.replicate_succ, List.replicate_zero, Nat.reduceSub, List.replicate, ix0, ix1, and_self, true_and, and_true, pow_10_18, forL_nil, forL_ap, kFor_ap, kFor2_nx, kFor2_ct, kFor2_bk, kFor2_rt, lenA_lst, lenA_tup, lenA_scr, lenA_dK, lenA_dT, addI_ap, id]
    · rw [filter_pairs (fun x => zero B x.1.toNat x.2.toNat) _ (fun x => rfl), grid_filter, hl]
      rfl
  have cp1 : ∀ t5 : Sl, cp1__law_is_right ⟨[.val (.cell 0), .val (.int h), .val (.int w), .val (shP A), .val (shP B), t5, .val (.tup false (P.map pairP)), .no, .no, .no], [hand4]⟩ = .ok (.lst ((P.map pairP).map fun _ => PV.bl true), true) ⟨[.val (.cell 0), .val (.int h), .val (.int w), .val (shP A), .val (shP B), t5, .val (.tup false (P.map pairP)), .no, .no, .no], [hand4]⟩ := fun t5 => by
    refine lcO_map0 (s1 := ⟨[.val (.cell 0), .val (.int h), .val (.int w), .val (shP A), .val (shP B), t5, .val (.tup false (P.map pairP)), .no, .no, .no], [hand4]⟩) (ps := P.map pairP) (fun _ => .bl true) ?_ (fun p hp => ?_) (by rw [List.length_map]; exact small (by omega))
    · simp only [shP, seqS_ap, kSeq_nx, kSeq_rt, kSeq_bk, kSeq_ct, retS_ap, kRet_ap, retN_ap, exprS_ap, kNx_ap, ifS_ap, ifE_ap, ifO_ap, kIf_t, kIf_f, badS_ap, nextS_ap, setS_ap, kSet_v, kSet_o, cellS_ap, kCell_ap, parS_ap, kPar_2, kPar_3, kPar_4, putSl_v, putSl_o, asgS_ap, kAsg_ap, kAsg2_ap, asgT_nm, asgT_tp, asgTs_nil, asgTs_nm, augS_ap, kAug_ap, kAug1_ap, kAug2_ap, nameE_ap, kNm_v, kNm_o, nameB_ap, kNb_o, kNb_v, kNc_cell, kNd_ap, kNc_int, kNc_bl, kNc_non, kNc_str, kNc_tup, kNc_lst, kNc_scr, kNc_dK, kNc_dT, kNc_ins, kMod_o, kMod_c, kMc_ap, kMo_ap, kMd_ap, appE_ap, kAp_ap, kAp2_ap, appU_ok, setIxS_ap, kSi_ap, kSi2_ap, kSi3_ap, setU_lst, augIxS_ap, kAx_ap, kAx1_ap, kAx1b_ap, kAx2_ap, kAx3_ap, kAx4_ap, lixG_ok, sharedE_ap, kSh_ap, plainE_ap, kPl_ap, constE_ap, nilA_ap, consA_ap, kCo_ap, kCo2_ap, nilL_ap, consL_ap, tupE_ap, lstE_ap, kTu_ap, kLs_ap, kOp_ap, kOp_no, binO_ap, kBi_ap, kBi2_ap, binE_ap, kBe_ap, kBe2_ap, chainE_ap, kCh_ap, kCh2_ap, kCh3_t, kCh3_f, kCh4_ap, testE_ap, toB_ap, andE_ap, orE_ap, notE_ap, kAnd_t, kAnd_f, kOr_t, kOr_f, kNot_ap, andT_ap, orT_ap, notT_ap, kAndT_t, kAndT_f, kOrT_t, kOrT_f, kNotT_ap, negE_ap, kNeg_ap, callO_ap, kCall_ap, kFr_ap, kFr_exc, un1O_ap, kUn_ap, un1E_ap, kUe_ap, lenG_lst, lenG_tup, lenG_scr, tupG_lst, tupG_tup, listG_lst, listG_tup, intG_int, intG_bl, absG_int, ixN_ap, kIx_ap, kIx2_ap, kIx3_ap, ixE_ap, kIe_ap, kIe2_ap, ixG_lst, ixG_tup, ixG_scr, noQ_ap, someQ_ap, kSq_ap, cutO_ap, kCt_ap, kCt2_ap, kCt3_ap, cutN_ap, kCn_ap, kCn2_ap, kCn3_ap, kCn4_ap, newK_ap, newT_ap, seqI_ap, seqP_lst, seqP_tup, seqP_scr, range1I_ap, kR1_ap, range2I_ap, kR2_ap, kR2b_ap, forS_ap, bodyF_ap, kBody_rt, kBody_nx, kBody_exc, yesT_ap, ix0, ix1, allG_ok, anyG_ok, sumG_ok, bind_ok, bind_bad, bind_exc, noX_ok, isi_int_int, isi_int_bool, isi_tup_tup, isi_lst_lst, isi_lst_tup, isi_tup_lst, subI_ok, addI_ok, ltI_ok, leI_ok, gtI_ok, geI_ok, cmpI_ok, max2_ok, min2_ok, eq_int, mul_modL, List.set_cons_zero, List.set_cons_succ, List.length_cons, List.length_nil, List.nil_append, List.cons_append, Nat.reduceAdd, Nat.reduceLeDiff, Nat.reduceLT, Nat.le_refl, decide_true, decide_false, Bool.not_true, Bool.not_false, Bool.true_and, Bool.false_and, Bool.and_true, Bool.and_false, Bool.true_or, Bool.false_or, Bool.or_true, Bool.or_false, Bool.false_bne, Bool.true_bne, Int.reduceLT, Int.reduceLE, Int.reducePow, Int.reduceNeg, Int.reduceToNat, if_true, if_false, frameE, List.map_cons, List.map_nil, List.replicate_succ, List.replicate_zero, Nat.reduceSub, List.replicate, ix0, ix1, and_self, true_and, and_true, pow_10_18, forL_nil, forL_ap, kFor_ap, kFor2_nx, kFor2_ct, kFor2_bk, kFor2_rt, lenA_lst, lenA_tup, lenA_scr, lenA_dK, lenA_dT, addI_ap]
    · obtain ⟨y, hy, rfl⟩ := List.mem_map.mp hp
      obtain ⟨⟨q1, q2, q3, q4⟩, q5⟩ := p1 y hy
      have i1 := ix_shI (c := false) (sh := A) (i := y.1) q1 (by rw [sA.len]; omega)
      have i2 := ix_rowI (c := false) (r := A.getD y.1.toNat []) (i := y.2) q3 (by rw [sA.rowLen (by omega)]; omega)
      have q6 : (A.getD y.1.toNat []).getD y.2.toNat 0 = 0 := q5
      refine ⟨_, rfl, ?_⟩
      simp only [wipeE, shP, pairP, i1, rowP, i2, q6, seqS_ap, kSeq_nx, kSeq_rt, kSeq_bk, kSeq_ct, retS_ap, kRet_ap, retN_ap, exprS_ap, kNx_ap, ifS_ap, ifE_ap, ifO_ap, kIf_t, kIf_f, badS_ap, nextS_ap, setS_ap, kSet_v, kSet_o, cellS_ap, kCell_ap, parS_ap, kPar_2, kPar_3, kPar_4, putSl_v, putSl_o, asgS_ap, kAsg_ap, kAsg2_ap, asgT_nm, asgT_tp, asgTs_nil, asgTs_nm, augS_ap, kAug_ap, kAug1_ap, kAug2_ap, nameE_ap, kNm_v, kNm_o, nameB_ap, kNb_o, kNb_v, kNc_cell, kNd_ap, kNc_int, kNc_bl, kNc_non, kNc_str, kNc_tup, kNc_lst, kNc_scr, kNc_dK, kNc_dT, kNc_ins, kMod_o, kMod_c, kMc_ap, kMo_ap, kMd_ap, appE_ap, kAp_ap, kAp2_ap, appU_ok, setIxS_ap, kSi_ap, kSi2_ap, kSi3_ap, setU_lst, augIxS_ap, kAx_ap, kAx1_ap, kAx1b_ap, kAx2_ap, kAx3_ap, kAx4_ap, lixG_ok, sharedE_ap, kSh_ap, plainE_ap, kPl_ap, constE_ap, nilA_ap, consA_ap, kCo_ap, kCo2_ap, nilL_ap, consL_ap, tupE_ap, lstE_ap, kTu_ap, kLs_ap, kOp_ap, kOp_no, binO_ap, kBi_ap, kBi2_ap, binE_ap, kBe_ap, kBe2_ap, chainE_ap, kCh_ap, kCh2_ap, kCh3_t, kCh3_f, kCh4_ap, testE_ap, toB_ap, andE_ap, orE_ap, notE_ap, kAnd_t, kAnd_f, kOr_t, kOr_f, kNot_ap, andT_ap, orT_ap, notT_ap, kAndT_t, kAndT_f, kOrT_t, kOrT_f, kNotT_ap, negE_ap, kNeg_ap, callO_ap, kCall_ap, kFr_ap, kFr_exc, un1O_ap, kUn_ap, un1E_ap, kUe_ap, lenG_lst, lenG_tup, lenG_scr, tupG_lst, tupG_tup, listG_lst, listG_tup, intG_int, intG_bl, absG_int, ixN_ap, kIx_ap, kIx2_ap, kIx3_ap, ixE_ap, kIe_ap, kIe2_ap, ixG_lst, ixG_tup, ixG_scr, noQ_ap, someQ_ap, kSq_ap, cutO_ap, kCt_ap, kCt2_ap, kCt3_ap, cutN_ap, kCn_ap, kCn2_ap, kCn3_ap, kCn4_ap, newK_ap, newT_ap, seqI_ap, seqP_lst, seqP_tup, seqP_scr, range1I_ap, kR1_ap, range2I_ap, kR2_ap, kR2b_ap, forS_ap, bodyF_ap, kBody_rt, kBody_nx, kBody_exc, yesT_ap, ix0, ix1, allG_ok, anyG_ok, sumG_ok, bind_ok, bind_bad, bind_exc, noX_ok, isi_int_int, isi_int_bool, isi_tup_tup, isi_lst_lst, isi_lst_tup, isi_tup_lst, subI_ok, addI_ok, ltI_ok, leI_ok, gtI_ok, geI_ok, cmpI_ok, max2_ok, min2_ok, eq_int, mul_modL, List.set_cons_zero, List.set_cons_succ, List.length_cons, List.length_nil, List.nil_append, List.cons_append, Nat.reduceAdd, Nat.reduceLeDiff, Nat.reduceLT, Nat.le_refl, decide_true, decide_false, Bool.not_true, Bool.not_false, Bool.true_and, Bool.false_and, Bool.and_true, Bool.and_false, Bool.true_or, Bool.false_or, Bool.or_true, Bool.or_false, Bool.false_bne, Bool.true_bne, Int.reduceLT, Int.reduceLE, Int.reducePow, Int.reduceNeg, Int.reduceToNat, if_true, if_false, frameE, List.map_cons, List.map_nil, List.replicate_succ, List.replicate_zero, Nat.reduceSub, List.replicate, ix0, ix1, and_self, true_and, and_true, pow_10_18, forL_nil, forL_ap, kFor_ap, kFor2_nx, kFor2_ct, kFor2_bk, kFor2_rt, lenA_lst, lenA_tup, lenA_scr, lenA_dK, lenA_dT, addI_ap]
  have e1 := eqG_self true (okD_pair x)
  have e2 := eqG_self true (okD_pairs (x :: l))
  have al := all_true (P.map pairP)
  have ne : ¬ (((x :: l).map pairP).length : Int) = 0 := by simp; omega
  have lk : ixG (.lst ((x :: l).map pairP)) (.int 0) = some (pairP x) := ix_hd
  have lw : (w : Int) ≤ (P.map pairP).length := by rw [List.length_map]; exact p3
  rw [hl] at bo
  have hh' : addO (.int 2) (.int r1) = some (.int h, false) := by rw [addI_ok, hh]
  have hw' : addO (.int 2) (.int r2) = some (.int w, false) := by rw [addI_ok, hw]
  generalize hL : (x :: l).map pairP = L at cp0 bo e2 ne lk
  simp only [shP, Bool.not_true] at c6 d6 vt hA hB uA lB bA bo co p4 cp0 cp1 e1 e2
  simp only [F__law_is_right, b__law_is_right, shP, a1, b1, hh', hw', c6, d6, vt, hA, hB, isTT, uA, lB, bA, cp0, ne, co, lk, e1, bo, e2, p4, cp1, al, lw, seqS_ap, kSeq_nx, kSeq_rt, kSeq_bk, kSeq_ct, retS_ap, kRet_ap, retN_ap, exprS_ap, kNx_ap, ifS_ap, ifE_ap, ifO_ap, kIf_t, kIf_f, badS_ap, nextS_ap, setS_ap, kSet_v, kSet_o, cellS_ap, kCell_ap, parS_ap, kPar_2, kPar_3, kPar_4, putSl_v, putSl_o, asgS_ap, kAsg_ap, kAsg2_ap, asgT_nm, asgT_tp, asgTs_nil, asgTs_nm, augS_ap, kAug_ap, kAug1_ap, kAug2_ap, nameE_ap, kNm_v, kNm_o, nameB_ap, kNb_o, kNb_v, kNc_cell, kNd_ap, kNc_int, kNc_bl, kNc_non, kNc_str, kNc_tup, kNc_lst, kNc_scr, kNc_dK, kNc_dT, kNc_ins, kMod_o, kMod_c, kMc_ap, kMo_ap, kMd_ap, appE_ap, kAp_ap, kAp2_ap, appU_ok, setIxS_ap, kSi_ap, kSi2_ap, kSi3_ap, setU_lst, augIxS_ap, kAx_ap, kAx1_ap, kAx1b_ap, kAx2_ap, kAx3_ap, kAx4_ap, lixG_ok, sharedE_ap, kSh_ap, plainE_ap, kPl_ap, constE_ap, nilA_ap, consA_ap, kCo_ap, kCo2_ap, nilL_ap, consL_ap, tupE_ap, lstE_ap, kTu_ap, kLs_ap, kOp_ap, kOp_no, binO_ap, kBi_ap, kBi2_ap, binE_ap, kBe_ap, kBe2_ap, chainE_ap, kCh_ap, kCh2_ap, kCh3_t, kCh3_f, kCh4_ap, testE_ap, toB_ap, andE_ap, orE_ap, notE_ap, kAnd_t, kAnd_f, kOr_t, kOr_f, kNot_ap, andT_ap, orT_ap, notT_ap, kAndT_t, kAndT_f, kOrT_t, kOrT_f, kNotT_ap, negE_ap, kNeg_ap, callO_ap, kCall_ap, kFr_ap, kFr_exc, un1O_ap, kUn_ap, un1E_ap, kUe_ap, lenG_lst, lenG_tup, lenG_scr, tupG_lst, tupG_tup, listG_lst, listG_tup, intG_int, intG_bl, absG_int, ixN_ap, kIx_ap, kIx2_ap, kIx3_ap, ixE_ap, kIe_ap, kIe2_ap, ixG_lst, ixG_tup, ixG_scr, noQ_ap, someQ_ap, kSq_ap, cutO_ap, kCt_ap, kCt2_ap, kCt3_ap, cutN_ap, kCn_ap, kCn2_ap, kCn3_ap, kCn4_ap, newK_ap, newT_ap, seqI_ap, seqP_lst, seqP_tup, seqP_scr, range1I_ap, kR1_ap, range2I_ap, kR2_ap, kR2b_ap, forS_ap, bodyF_ap, kBody_rt, kBody_nx, kBody_exc, yesT_ap, ix0, ix1, allG_ok, anyG_ok, sumG_ok, bind_ok, bind_bad, bind_exc, noX_ok, isi_int_int, isi_int_bool, isi_tup_tup, isi_lst_lst, isi_lst_tup, isi_tup_lst, subI_ok, addI_ok, ltI_ok, leI_ok, gtI_ok, geI_ok, cmpI_ok, max2_ok, min2_ok, eq_int, mul_modL, List.set_cons_zero, List.set_cons_succ, List.length_cons, List.length_nil, List.nil_append, List.cons_append, Nat.reduceAdd, Nat.reduceLeDiff, Nat.reduceLT, Nat.le_refl, decide_true, decide_false, Bool.not_true, Bool.not_false, Bool.true_and, Bool.false_and, Bool.and_true, Bool.and_false, Bool.true_or, Bool.false_or, Bool.or_true, Bool.or_false, Bool.false_bne, Bool.true_bne, Int.reduceLT, Int.reduceLE, Int.reducePow, Int.reduceNeg, Int.reduceToNat, if_true, if_false, frameE, List.map_cons, List.map_nil, List.replicate_succ, List.replicate_zero, Nat.reduceSub, List.replicate, ix0, ix1, and_self, true_and, and_true, pow_10_18, forL_nil, forL_ap, kFor_ap, kFor2_nx, kFor2_ct, kFor2_bk, kFor2_rt, lenA_lst, lenA_tup, lenA_scr, lenA_dK, lenA_dT, addI_ap]
theorem v_hand (ns : List Int) (hl : ns.length ≤ 63) : ∃ hand, F__law_hand [.scr (ns.map .int)] [] = .ok hand true [] ∧ HandOk hand := by
  obtain ⟨ms, e, hm⟩ : ∃ ms : List Int, cutP (ns.map PV.int) none (some 63) = ms.map .int ∧ ms.length ≤ 63 := by
    unfold cutP
    refine ⟨(ns.drop (HT.sIx (ns.map PV.int).length 0 none)).take (HT.sIx (ns.map PV.int).length (ns.map PV.int).length (some 63) - HT.sIx (ns.map PV.int).length 0 none), ?_, ?_⟩
    · rw [List.map_take, List.map_drop]
    · rw [List.length_take, List.length_drop]
      omega
  have cut : cutG (.scr (ns.map .int)) none (some 63) = some (.lst (ms.map .int), true) := by
    show some (PV.lst (cutP (ns.map PV.int) none (some 63)), true) = _
    rw [e]
  have c : cp0__law_hand ⟨[.val (.scr (ns.map .int)), .no, .no], []⟩ = .ok (.lst ((ms.map fun i => if i < 0 then -i else i).map .int), true) ⟨[.val (.scr (ns.map .int)), .no, .no], []⟩ := by
    refine (lcO_map0 (s1 := ⟨[.val (.scr (ns.map .int)), .no, .no], []⟩) (ps := ms.map .int) (fun p => .int (if toI p < 0 then -toI p else toI p)) ?_ (fun p hp => ?_) (by rw [List.length_map]; exact small (by omega))).trans ?_
    · simp only [cut, seqS_ap, kSeq_nx, kSeq_rt, kSeq_bk, kSeq_ct, retS_ap, kRet_ap, retN_ap, exprS_ap, kNx_ap, ifS_ap, ifE_ap, ifO_ap, kIf_t, kIf_f, badS_ap, nextS_ap, setS_ap, kSet_v, kSet_o, cellS_ap, kCell_ap, parS_ap, kPar_2, kPar_3, kPar_4, putSl_v, putSl_o, asgS_ap, kAsg_ap, kAsg2_ap, asgT_nm, asgT_tp, asgTs_nil, asgTs_nm, augS_ap, kAug_ap, kAug1_ap, kAug2_ap, nameE_ap, kNm_v, kNm_o, nameB_ap, kNb_o, kNb_v, kNc_cell, kNd_ap, kNc_int, kNc_bl, kNc_non, kNc_str, kNc_tup, kNc_lst, kNc_scr, kNc_dK, kNc_dT, kNc_ins, kMod_o, kMod_c, kMc_ap, kMo_ap, kMd_ap, appE_ap, kAp_ap, kAp2_ap, appU_ok, setIxS_ap, kSi_ap, kSi2_ap, kSi3_ap, setU_lst, augIxS_ap, kAx_ap, kAx1_ap, kAx1b_ap, kAx2_ap, kAx3_ap, kAx4_ap, lixG_ok, sharedE_ap, kSh_ap, plainE_ap, kPl_ap, constE_ap, nilA_ap, consA_ap, kCo_ap, kCo2_ap, nilL_ap, consL_ap, tupE_ap, lstE_ap, kTu_ap, kLs_ap, kOp_ap, kOp_no, binO_ap, kBi_ap, kBi2_ap, binE_ap, kBe_ap, kBe2_ap, chainE_ap, kCh_ap, kCh2_ap, kCh3_t, kCh3_f, kCh4_ap, testE_ap, toB_ap, andE_ap, orE_ap, notE_ap, kAnd_t, kAnd_f, kOr_t, kOr_f, kNot_ap, andT_ap, orT_ap, notT_ap, kAndT_t, kAndT_f, kOrT_t, kOrT_f, kNotT_ap, negE_ap, kNeg_ap, callO_ap, kCall_ap, kFr_ap, kFr_exc, un1O_ap, kUn_ap, un1E_ap, kUe_ap, lenG_lst, lenG_tup, lenG_scr, tupG_lst, tupG_tup, listG_lst, listG_tup, intG_int, intG_bl, absG_int, ixN_ap, kIx_ap, kIx2_ap, kIx3_ap, ixE_ap, kIe_ap, kIe2_ap, ixG_lst, ixG_tup, ixG_scr, noQ_ap, someQ_ap, kSq_ap, cutO_ap, kCt_ap, kCt2_ap, kCt3_ap, cutN_ap, kCn_ap, kCn2_ap, kCn3_ap, kCn4_ap, newK_ap, newT_ap, seqI_ap, seqP_lst, seqP_tup, seqP_scr, range1I_ap, kR1_ap, range2I_ap, kR2_ap, kR2b_ap, forS_ap, bodyF_ap, kBody_rt, kBody_nx, kBody_exc, yesT_ap, ix0, ix1, allG_ok, anyG_ok, sumG_ok, bind_ok, bind_bad, bind_exc, noX_ok, isi_int_int, isi_int_bool, isi_tup_tup, isi_lst_lst, isi_lst_tup, isi_tup_lst, subI_ok, addI_ok, ltI_ok, leI_ok, gtI_ok, geI_ok, cmpI_ok, max2_ok, min2_ok, eq_int, mul_modL, List.set_cons_zero, List.set_cons_succ, List.length_cons, List.length_nil, List.nil_append, List.cons_append, Nat.reduceAdd, Nat.reduceLeDiff, Nat.reduceLT, Nat.le_refl, decide_true, decide_false, Bool.not_true, Bool.not_false, Bool.true_and, Bool.false_and, Bool.and_true, Bool.and_false, Bool.true_or, Bool.false_or, Bool.or_true, Bool.or_false, Bool.false_bne, Bool.true_bne, Int.reduceLT, Int.reduceLE, Int.reducePow, Int.reduceNeg, Int.reduceToNat, if_true, if_false, frameE, List.map_cons, List.map_nil, List.replicate_succ, List.replicate_zero, Nat.reduceSub, List.replicate, ix0, ix1, and_self, true_and, and_true, pow_10_18, forL_nil, forL_ap, kFor_ap, kFor2_nx, kFor2_ct, kFor2_bk, kFor2_rt, lenA_lst, lenA_tup, lenA_scr, lenA_dK, lenA_dT, addI_ap]
    · obtain ⟨i, hi, rfl⟩ := List.mem_map.mp hp
      refine ⟨_, rfl, ?_⟩
      simp only [wipeE, seqS_ap, kSeq_nx, kSeq_rt, kSeq_bk, kSeq_ct, retS_ap, kRet_ap, retN_ap, exprS_ap, kNx_ap, ifS_ap, ifE_ap, ifO_ap, kIf_t, kIf_f, badS_ap, nextS_ap, setS_ap, kSet_v, kSet_o, cellS_ap, kCell_ap, parS_ap, kPar_2, kPar_3, kPar_4, putSl_v, putSl_o, asgS_ap, kAsg_ap, kAsg2_ap, asgT_nm, asgT_tp, asgTs_nil, asgTs_nm, augS_ap, kAug_ap, kAug1_ap, kAug2_ap, nameE_ap, kNm_v, kNm_o, nameB_ap, kNb_o, kNb_v, kNc_cell, kNd_ap, kNc_int, kNc_bl, kNc_non, kNc_str, kNc_tup, kNc_lst, kNc_scr, kNc_dK, kNc_dT, kNc_ins, kMod_o, kMod_c, kMc_ap, kMo_ap, kMd_ap, appE_ap, kAp_ap, kAp2_ap, appU_ok, setIxS_ap, kSi_ap, kSi2_ap, kSi3_ap, setU_lst, augIxS_ap, kAx_ap, kAx1_ap, kAx1b_ap, kAx2_ap, kAx3_ap, kAx4_ap, lixG_ok, sharedE_ap, kSh_ap, plainE_ap, kPl_ap, constE_ap, nilA_ap, consA_ap, kCo_ap, kCo2_ap, nilL_ap, consL_ap, tupE_ap, lstE_ap, kTu_ap, kLs_ap, kOp_ap, kOp_no, binO_ap, kBi_ap, kBi2_ap, binE_ap, kBe_ap, kBe2_ap, chainE_ap, kCh_ap, kCh2_ap, kCh3_t, kCh3_f, kCh4_ap, testE_ap, toB_ap, andE_ap, orE_ap, notE_ap, kAnd_t, kAnd_f, kOr_t, kOr_f, kNot_ap, andT_ap, orT_ap, notT_ap, kAndT_t, kAndT_f, kOrT_t, kOrT_f, kNotT_ap, negE_ap, kNeg_ap, callO_ap, kCall_ap, kFr_ap, kFr_exc, un1O_ap, kUn_ap, un1E_ap, kUe_ap, lenG_lst, lenG_tup, lenG_scr, tupG_lst, tupG_tup, listG_lst, listG_tup, intG_int, intG_bl, absG_int, ixN_ap, kIx_ap, kIx2_ap, kIx3_ap, ixE_ap, kIe_ap, kIe2_ap, ixG_lst, ixG_tup, ixG_scr, noQ_ap, someQ_ap, kSq_ap, cutO_ap, kCt_ap, kCt2_ap, kCt3_ap, cutN_ap, kCn_ap, kCn2_ap, kCn3_ap, kCn4_ap, newK_ap, newT_ap, seqI_ap, seqP_lst, seqP_tup, seqP_scr, range1I_ap, kR1_ap, range2I_ap, kR2_ap, kR2b_ap, forS_ap, bodyF_ap, kBody_rt, kBody_nx, kBody_exc, yesT_ap, ix0, ix1, allG_ok, anyG_ok, sumG_ok, bind_ok, bind_bad, bind_exc, noX_ok, isi_int_int, isi_int_bool, isi_tup_tup, isi_lst_lst, isi_lst_tup, isi_tup_lst, subI_ok, addI_ok, ltI_ok, leI_ok, gtI_ok, geI_ok, cmpI_ok, max2_ok, min2_ok, eq_int, mul_modL, List.set_cons_zero, List.set_cons_succ, List.length_cons, List.length_nil, List.nil_append, List.cons_append, Nat.reduceAdd, Nat.reduceLeDiff, Nat.reduceLT, Nat.le_refl, decide_true, decide_false, Bool.not_true, Bool.not_false, Bool.true_and, Bool.false_and, Bool.and_true, Bool.and_false, Bool.true_or, Bool.false_or, Bool.or_true, Bool.or_false, Bool.false_bne, Bool.true_bne, Int.reduceLT, Int.reduceLE, Int.reducePow, Int.reduceNeg, Int.reduceToNat, if_true, if_false, frameE, List.map_cons, List.map_nil, List.replicate_succ, List.replicate_zero, Nat.reduceSub, List.replicate, ix0, ix1, and_self, true_and, and_true, pow_10_18, forL_nil, forL_ap, kFor_ap, kFor2_nx, kFor2_ct, kFor2_bk, kFor2_rt, lenA_lst, lenA_tup, lenA_scr, lenA_dK, lenA_dT, addI_ap, toI]
      rfl
    · have e : (ms.map PV.int).map (fun p => PV.int (if toI p < 0 then -toI p else toI p)) = (ms.map fun i => if i < 0 then -i else i).map .int := by
        rw [List.map_map, List.map_map]
        rfl
      rw [e]
      rfl
  refine ⟨HandP ((ms.map fun i => if i < 0 then -i else i).map .int) 0 0 (63 + 277 * (((ms.map fun i => if i < 0 then -i else i).map PV.int).length : Int)) 0, ?_, _, 0, 0, _, 0, ?_, by omega, by omega, rfl⟩
  · generalize (ms.map fun i => if i < 0 then -i else i).map PV.int = l at c
    simp only [F__law_hand, b__law_hand, c, seqS_ap, kSeq_nx, kSeq_rt, kSeq_bk, kSeq_ct, retS_ap, kRet_ap, retN_ap, exprS_ap, kNx_ap, ifS_ap, ifE_ap, ifO_ap, kIf_t, kIf_f, badS_ap, nextS_ap, setS_ap, kSet_v, kSet_o, cellS_ap, kCell_ap, parS_ap, kPar_2, kPar_3, kPar_4, putSl_v, putSl_o, asgS_ap, kAsg_ap, kAsg2_ap, asgT_nm, asgT_tp, asgTs_nil, asgTs_nm, augS_ap, kAug_ap, kAug1_ap, kAug2_ap, nameE_ap, kNm_v, kNm_o, nameB_ap, kNb_o, kNb_v, kNc_cell, kNd_ap, kNc_int, kNc_bl, kNc_non, kNc_str, kNc_tup, kNc_lst, kNc_scr, kNc_dK, kNc_dT, kNc_ins, kMod_o, kMod_c, kMc_ap, kMo_ap, kMd_ap, appE_ap, kAp_ap, kAp2_ap, appU_ok, setIxS_ap, kSi_ap, kSi2_ap, kSi3_ap, setU_lst, augIxS_ap, kAx_ap, kAx1_ap, kAx1b_ap, kAx2_ap, kAx3_ap, kAx4_ap, lixG_ok, sharedE_ap, kSh_ap, plainE_ap, kPl_ap, constE_ap, nilA_ap, consA_ap, kCo_ap, kCo2_ap, nilL_ap, consL_ap, tupE_ap, lstE_ap, kTu_ap, kLs_ap, kOp_ap, kOp_no, binO_ap, kBi_ap, kBi2_ap, binE_ap, kBe_ap, kBe2_ap, chainE_ap, kCh_ap, kCh2_ap, kCh3_t, kCh3_f, kCh4_ap, testE_ap, toB_ap, andE_ap, orE_ap, notE_ap, kAnd_t, kAnd_f, kOr_t, kOr_f, kNot_ap, andT_ap, orT_ap, notT_ap, kAndT_t, kAndT_f, kOrT_t, kOrT_f, kNotT_ap, negE_ap, kNeg_ap, callO_ap, kCall_ap, kFr_ap, kFr_exc, un1O_ap, kUn_ap, un1E_ap, kUe_ap, lenG_lst, lenG_tup, lenG_scr, tupG_lst, tupG_tup, listG_lst, listG_tup, intG_int, intG_bl, absG_int, ixN_ap, kIx_ap, kIx2_ap, kIx3_ap, ixE_ap, kIe_ap, kIe2_ap, ixG_lst, ixG_tup, ixG_scr, noQ_ap, someQ_ap, kSq_ap, cutO_ap, kCt_ap, kCt2_ap, kCt3_ap, cutN_ap, kCn_ap, kCn2_ap, kCn3_ap, kCn4_ap, newK_ap, newT_ap, seqI_ap, seqP_lst, seqP_tup, seqP_scr, range1I_ap, kR1_ap, range2I_ap, kR2_ap, kR2b_ap, forS_ap, bodyF_ap, kBody_rt, kBody_nx, kBody_exc, yesT_ap, ix0, ix1, allG_ok, anyG_ok, sumG_ok, bind_ok, bind_bad, bind_exc, noX_ok, isi_int_int, isi_int_bool, isi_tup_tup, isi_lst_lst, isi_lst_tup, isi_tup_lst, subI_ok, addI_ok, ltI_ok, leI_ok, gtI_ok, geI_ok, cmpI_ok, max2_ok, min2_ok, eq_int, mul_modL, List.set_cons_zero, List.set_cons_succ, List.length_cons, List.length_nil, List.nil_append, List.cons_append, Nat.reduceAdd, Nat.reduceLeDiff, Nat.reduceLT, Nat.le_refl, decide_true, decide_false, Bool.not_true, Bool.not_false, Bool.true_and, Bool.false_and, Bool.and_true, Bool.and_false, Bool.true_or, Bool.false_or, Bool.or_true, Bool.or_false, Bool.false_bne, Bool.true_bne, Int.reduceLT, Int.reduceLE, Int.reducePow, Int.reduceNeg, Int.reduceToNat, if_true, if_false, frameE, List.map_cons, List.map_nil, List.replicate_succ, List.replicate_zero, Nat.reduceSub, List.replicate, ix0, ix1, and_self, true_and, and_true, pow_10_18, forL_nil, forL_ap, kFor_ap, kFor2_nx, kFor2_ct, kFor2_bk, kFor2_rt, lenA_lst, lenA_tup, lenA_scr, lenA_dK, lenA_dT, addI_ap, mulI_l, HandP]
  · intro x hx
    obtain ⟨i, _, rfl⟩ := List.mem_map.mp hx
    split <;> omega
theorem lcO_inv {it : IM} {tg : Tg} {tt : TM} {f : EM} {vs : List Nat} {s s1 : DS} {ps : List PV} {Inv : DE → DT → Prop} {R : PV → Option PV → Prop} (hit : it s = .ok ps s1) (h : ∀ p ∈ ps, ∀ e t, Inv e t → ∃ e1 b s2, asgT tg p e = some e1 ∧ tt ⟨e1, t⟩ = .ok b s2 ∧ ((b = true ∧ ∃ y s3, f s2 = .ok y s3 ∧ R p (some y) ∧ Inv (wipeE vs s3.e) s3.t) ∨ (b = false ∧ R p none ∧ Inv (wipeE vs s2.e) s2.t)))
    (i : Inv (wipeE vs s1.e) s1.t) (hl : ps.length ≤ sizeLine) : ∃ (os : List (Option PV)) (s' : DS), lcO it tg tt f vs s = .ok (.lst (os.filterMap id), true) ⟨restE vs s1.e s'.e, s'.t⟩ ∧ All2 R ps os ∧ Inv (wipeE vs s'.e) s'.t := by
  obtain ⟨os, s', h1, h2, h3⟩ := lcL_inv (vs := vs) (tg := tg) (tt := tt) (f := f) ps [] s1 h i (by simpa using hl)
  refine ⟨os, s', ?_, h2, h3⟩
  unfold lcO
  rw [hit, bind_ok, h1, noX_ok, bind_ok]
  rfl
theorem law_holds (ns : List Int) (hl : ns.length ≤ 63) : ∃ t, F_law [.scr (ns.map .int)] [] = .ok (.bl true) false t := by
  obtain ⟨hand, h1, h2⟩ := v_hand ns hl
  have it : range1I (constE (.int 5)) ⟨[.val (.scr (ns.map .int)), .val (.cell 0), .no], [hand]⟩ = .ok (rangeP 0 5) ⟨[.val (.scr (ns.map .int)), .val (.cell 0), .no], [hand]⟩ := by
    simp only [seqS_ap, kSeq_nx, kSeq_rt, kSeq_bk, kSeq_ct, retS_ap, kRet_ap, retN_ap, exprS_ap, kNx_ap, ifS_ap, ifE_ap, ifO_ap, kIf_t, kIf_f, badS_ap, nextS_ap, setS_ap, kSet_v, kSet_o, cellS_ap, kCell_ap, parS_ap, kPar_2, kPar_3, kPar_4, putSl_v, putSl_o, asgS_ap, kAsg_ap, kAsg2_ap, asgT_nm, asgT_tp, asgTs_nil, asgTs_nm, augS_ap, kAug_ap, kAug1_ap, kAug2_ap, nameE_ap, kNm_v, kNm_o, nameB_ap, kNb_o, kNb_v, kNc_cell, kNd_ap, kNc_int, kNc_bl, kNc_non, kNc_str, kNc_tup, kNc_lst, kNc_scr, kNc_dK, kNc_dT, kNc_ins, kMod_o, kMod_c, kMc_ap, kMo_ap, kMd_ap, appE_ap, kAp_ap, kAp2_ap, appU_ok, setIxS_ap, kSi_ap, kSi2_ap, kSi3_ap, setU_lst, augIxS_ap, kAx_ap, kAx1_ap, kAx1b_ap, kAx2_ap, kAx3_ap, kAx4_ap, lixG_ok, sharedE_ap, kSh_ap, plainE_ap, kPl_ap, constE_ap, nilA_ap, consA_ap, kCo_ap, kCo2_ap, nilL_ap, consL_ap, tupE_ap, lstE_ap, kTu_ap, kLs_ap, kOp_ap, kOp_no, binO_ap, kBi_ap, kBi2_ap, binE_ap, kBe_ap, kBe2_ap, chainE_ap, kCh_ap, kCh2_ap, kCh3_t, kCh3_f, kCh4_ap, testE_ap, toB_ap, andE_ap, orE_ap, notE_ap, kAnd_t, kAnd_f, kOr_t, kOr_f, kNot_ap, andT_ap, orT_ap, notT_ap, kAndT_t, kAndT_f, kOrT_t, kOrT_f, kNotT_ap, negE_ap, kNeg_ap, callO_ap, kCall_ap, kFr_ap, kFr_exc, un1O_ap, kUn_ap, un1E_ap, kUe_ap, lenG_lst, lenG_tup, lenG_scr, tupG_lst, tupG_tup, listG_lst, listG_tup, intG_int, intG_bl, absG_int, ixN_ap, kIx_ap, kIx2_ap, kIx3_ap, ixE_ap, kIe_ap, kIe2_ap, ixG_lst, ixG_tup, ixG_scr, noQ_ap, someQ_ap, kSq_ap, cutO_ap, kCt_ap, kCt2_ap, kCt3_ap, cutN_ap, kCn_ap, kCn2_ap, kCn3_ap, kCn4_ap, newK_ap, newT_ap, seqI_ap, seqP_lst, seqP_tup, seqP_scr, range1I_ap, kR1_ap, range2I_ap, kR2_ap, kR2b_ap, forS_ap, bodyF_ap, kBody_rt, kBody_nx, kBody_exc, yesT_ap, ix0, ix1, allG_ok, anyG_ok, sumG_ok, bind_ok, bind_bad, bind_exc, noX_ok, isi_int_int, isi_int_bool, isi_tup_tup, isi_lst_lst, isi_lst_tup, isi_tup_lst, subI_ok, addI_ok, ltI_ok, leI_ok, gtI_ok, geI_ok, cmpI_ok, max2_ok, min2_ok, eq_int, mul_modL, List.set_cons_zero, List.set_cons_succ, List.length_cons, List.length_nil, List.nil_append, List.cons_append, Nat.reduceAdd, Nat.reduceLeDiff, Nat.reduceLT, Nat.le_refl, decide_true, decide_false, Bool.not_true, Bool.not_false, Bool.true_and, Bool.false_and, Bool.and_true, Bool.and_false, Bool.true_or, Bool.false_or, Bool.or_true, Bool.or_false, Bool.false_bne, Bool.true_bne, Int.reduceLT, Int.reduceLE, Int.reducePow, Int.reduceNeg, Int.reduceToNat, if_true, if_false, frameE, List.map_cons, List.map_nil, List.replicate_succ, List.replicate_zero, Nat.reduceSub, List.replicate, ix0, ix1, and_self, true_and, and_true, pow_10_18, forL_nil, forL_ap, kFor_ap, kFor2_nx, kFor2_ct, kFor2_bk, kFor2_rt, lenA_lst, lenA_tup, lenA_scr, lenA_dK, lenA_dT, addI_ap, kR1_ap (x := 5) (by decide) (by decide)]
  obtain ⟨os, s', g1, g2, g3, hand', g4, g5⟩ := lcO_inv (tg := .nm 2) (tt := yesT) (f := plainE (callO F__law_is_right (consA (nameE 1) nilA))) (vs := [2]) (Inv := fun e t => e = [.val (.scr (ns.map .int)), .val (.cell 0), .no] ∧ ∃ hand, t = [hand] ∧ HandOk hand) (R := fun _ o => o = some (.bl true)) it (fun p hp e t ⟨he, hd, ht, ho⟩ => by
    subst he ht
    obtain ⟨hd', k1, k2⟩ := v_right ho
    refine ⟨_, true, _, rfl, rfl, .inl ⟨rfl, .bl true, ⟨[.val (.scr (ns.map .int)), .val (.cell 0), .val p], [hd']⟩, ?_, rfl, rfl, hd', rfl, k2⟩⟩
    simp only [k1, seqS_ap, kSeq_nx, kSeq_rt, kSeq_bk, kSeq_ct, retS_ap, kRet_ap, retN_ap, exprS_ap, kNx_ap, ifS_ap, ifE_ap, ifO_ap, kIf_t, kIf_f, badS_ap, nextS_ap, setS_ap, kSet_v, kSet_o, cellS_ap, kCell_ap, parS_ap, kPar_2, kPar_3, kPar_4, putSl_v, putSl_o, asgS_ap, kAsg_ap, kAsg2_ap, asgT_nm, asgT_tp, asgTs_nil, asgTs_nm, augS_ap, kAug_ap, kAug1_ap, kAug2_ap, nameE_ap, kNm_v, kNm_o, nameB_ap, kNb_o, kNb_v, kNc_cell, kNd_ap, kNc_int, kNc_bl, kNc_non, kNc_str, kNc_tup, kNc_lst, kNc_scr, kNc_dK, kNc_dT, kNc_ins, kMod_o, kMod_c, kMc_ap, kMo_ap, kMd_ap, appE_ap, kAp_ap, kAp2_ap, appU_ok, setIxS_ap, kSi_ap, kSi2_ap, kSi3_ap, setU_lst, augIxS_ap, kAx_ap, kAx1_ap, kAx1b_ap, kAx2_ap, kAx3_ap, kAx4_ap, lixG_ok, sharedE_ap, kSh_ap, plainE_ap, kPl_ap, constE_ap, nilA_ap, consA_ap, kCo_ap, kCo2_ap, nilL_ap, consL_ap, tupE_ap, lstE_ap, kTu_ap, kLs_ap, kOp_ap, kOp_no, binO_ap, kBi_ap, kBi2_ap, binE_ap, kBe_ap, kBe2_ap, chainE_ap, kCh_ap, kCh2_ap, kCh3_t, kCh3_f, kCh4_ap, testE_ap, toB_ap, andE_ap, orE_ap, notE_ap, kAnd_t, kAnd_f, kOr_t, kOr_f, kNot_ap, andT_ap, orT_ap, notT_ap, kAndT_t, kAndT_f, kOrT_t, kOrT_f, kNotT_ap, negE_ap, kNeg_ap, callO_ap, kCall_ap, kFr_ap, kFr_exc, un1O_ap, kUn_ap, un1E_ap, kUe_ap, lenG_lst, lenG_tup, lenG_scr, tupG_lst, tupG_tup, listG_lst, listG_tup, intG_int, intG_bl, absG_int, ixN_ap, kIx_ap, kIx2_ap, kIx3_ap, ixE_ap, kIe_ap, kIe2_ap, ixG_lst, ixG_tup, ixG_scr, noQ_ap, someQ_ap, kSq_ap, cutO_ap, kCt_ap, kCt2_ap, kCt3_ap, cutN_ap, kCn_ap, kCn2_ap, kCn3_ap, kCn4_ap, newK_ap, newT_ap, seqI_ap, seqP_lst, seqP_tup, seqP_scr, range1I_ap, kR1_ap, range2I_ap, kR2_ap, kR2b_ap, forS_ap, bodyF_ap, kBody_rt, kBody_nx, kBody_exc, yesT_ap, ix0, ix1, allG_ok, anyG_ok, sumG_ok, bind_ok, bind_bad, bind_exc, noX_ok, isi_int_int, isi_int_bool, isi_tup_tup, isi_lst_lst, isi_lst_tup, isi_tup_lst, subI_ok, addI_ok, ltI_ok, leI_ok, gtI_ok, geI_ok, cmpI_ok, max2_ok, min2_ok, eq_int, mul_modL, List.set_cons_zero, List.set_cons_succ, List.length_cons, List.length_nil, List.nil_append, List.cons_append, Nat.reduceAdd, Nat.reduceLeDiff, Nat.reduceLT, Nat.le_refl, decide_true, decide_false, Bool.not_true, Bool.not_false, Bool.true_and, Bool.false_and, Bool.and_true, Bool.and_false, Bool.true_or, Bool.false_or, Bool.or_true, Bool.or_false, Bool.false_bne, Bool.true_bne, Int.reduceLT, Int.reduceLE, Int.reducePow, Int.reduceNeg, Int.reduceToNat, if_true, if_false, frameE, List.map_cons, List.map_nil, List.replicate_succ, List.replicate_zero, Nat.reduceSub, List.replicate, ix0, ix1, and_self, true_and, and_true, pow_10_18, forL_nil, forL_ap, kFor_ap, kFor2_nx, kFor2_ct, kFor2_bk, kFor2_rt, lenA_lst, lenA_tup, lenA_scr, lenA_dK, lenA_dT, addI_ap]) ⟨rfl, hand, rfl, h2⟩ (small (by rw [rangeP_len]; decide))
  have e : os = (rangeP 0 5).map fun _ => some (PV.bl true) := g2.fn fun _ _ z => z
  have fm : os.filterMap id = (rangeP 0 5).map fun _ => PV.bl true := by
    rw [e]
    rfl
  rw [fm] at g1
  have s00 : Sheet 2 2 [[0, 0], [0, 0]] := ⟨by decide, by decide, by decide, by decide, rfl, by simp, by simp, fun a b a' b' ha hb ha' hb' _ _ _ _ => by
    have : ∀ a : Nat, a < 2 → ∀ b : Nat, b < 2 → at2 [[0, 0], [0, 0]] a b = 0 := by decide
    rw [this a ha b hb, this a' ha' b' hb']
    decide⟩
  have s01 : Sheet 2 2 [[0, 1], [0, 1]] := ⟨by decide, by decide, by decide, by decide, rfl, by simp, by simp, fun a b a' b' ha hb ha' hb' _ _ _ _ => by
    have : ∀ a : Nat, a < 2 → ∀ b : Nat, b < 2 → 0 ≤ at2 [[0, 1], [0, 1]] a b ∧ at2 [[0, 1], [0, 1]] a b ≤ 1 := by decide
    have h1 := this a ha b hb
    have h2 := this a' ha' b' hb'
    omega⟩
  have bo := v_both s00 s01 [hand]
  have gr : (grid 2 2 fun a b => zero [[0, 0], [0, 0]] a b && zero [[0, 1], [0, 1]] a b) = [(0, 0), (1, 0)] := by decide
  rw [gr] at bo
  have eq := eqG_self true (okD_pairs [(0, 0), (1, 0)])
  simp only [shP, rowP, pairP, List.map_cons, List.map_nil, Bool.not_true] at bo eq
  have al := all_true (rangeP 0 5)
  have cp : cp0_law ⟨[.val (.scr (ns.map .int)), .val (.cell 0), .no], [hand]⟩ = .ok (.lst ((rangeP 0 5).map fun _ => PV.bl true), true) ⟨restE [2] [.val (.scr (ns.map .int)), .val (.cell 0), .no] s'.e, s'.t⟩ := g1
  generalize restE [2] [.val (.scr (ns.map .int)), .val (.cell 0), .no] s'.e = e9 at cp
  refine ⟨s'.t, ?_⟩
  change F_both_noughts [.int 2, .int 2, _, _] _ = _ at bo
  simp only [F_law, b_law, h1, bo, eq, cp, al, seqS_ap, kSeq_nx, kSeq_rt, kSeq_bk, kSeq_ct, retS_ap, kRet_ap, retN_ap, exprS_ap, kNx_ap, ifS_ap, ifE_ap, ifO_ap, kIf_t, kIf_f, badS_ap, nextS_ap, setS_ap, kSet_v, kSet_o, cellS_ap, kCell_ap, parS_ap, kPar_2, kPar_3, kPar_4, putSl_v, putSl_o, asgS_ap, kAsg_ap, kAsg2_ap, asgT_nm, asgT_tp, asgTs_nil, asgTs_nm, augS_ap, kAug_ap, kAug1_ap, kAug2_ap, nameE_ap, kNm_v, kNm_o, nameB_ap, kNb_o, kNb_v, kNc_cell, kNd_ap, kNc_int, kNc_bl, kNc_non, kNc_str, kNc_tup, kNc_lst, kNc_scr, kNc_dK, kNc_dT, kNc_ins, kMod_o, kMod_c, kMc_ap, kMo_ap, kMd_ap, appE_ap, kAp_ap, kAp2_ap, appU_ok, setIxS_ap, kSi_ap, kSi2_ap, kSi3_ap, setU_lst, augIxS_ap, kAx_ap, kAx1_ap, kAx1b_ap, kAx2_ap, kAx3_ap, kAx4_ap, lixG_ok, sharedE_ap, kSh_ap, plainE_ap, kPl_ap, constE_ap, nilA_ap, consA_ap, kCo_ap, kCo2_ap, nilL_ap, consL_ap, tupE_ap, lstE_ap, kTu_ap, kLs_ap, kOp_ap, kOp_no, binO_ap, kBi_ap, kBi2_ap, binE_ap, kBe_ap, kBe2_ap, chainE_ap, kCh_ap, kCh2_ap, kCh3_t, kCh3_f, kCh4_ap, testE_ap, toB_ap, andE_ap, orE_ap, notE_ap, kAnd_t, kAnd_f, kOr_t, kOr_f, kNot_ap, andT_ap, orT_ap, notT_ap, kAndT_t, kAndT_f, kOrT_t, kOrT_f, kNotT_ap, negE_ap, kNeg_ap, callO_ap, kCall_ap, kFr_ap, kFr_exc, un1O_ap, kUn_ap, un1E_ap, kUe_ap, lenG_lst, lenG_tup, lenG_scr, tupG_lst, tupG_tup, listG_lst, listG_tup, intG_int, intG_bl, absG_int, ixN_ap, kIx_ap, kIx2_ap, kIx3_ap, ixE_ap, kIe_ap, kIe2_ap, ixG_lst, ixG_tup, ixG_scr, noQ_ap, someQ_ap, kSq_ap, cutO_ap, kCt_ap, kCt2_ap, kCt3_ap, cutN_ap, kCn_ap, kCn2_ap, kCn3_ap, kCn4_ap, newK_ap, newT_ap, seqI_ap, seqP_lst, seqP_tup, seqP_scr, range1I_ap, kR1_ap, range2I_ap, kR2_ap, kR2b_ap, forS_ap, bodyF_ap, kBody_rt, kBody_nx, kBody_exc, yesT_ap, ix0, ix1, allG_ok, anyG_ok, sumG_ok, bind_ok, bind_bad, bind_exc, noX_ok, isi_int_int, isi_int_bool, isi_tup_tup, isi_lst_lst, isi_lst_tup, isi_tup_lst, subI_ok, addI_ok, ltI_ok, leI_ok, gtI_ok, geI_ok, cmpI_ok, max2_ok, min2_ok, eq_int, mul_modL, List.set_cons_zero, List.set_cons_succ, List.length_cons, List.length_nil, List.nil_append, List.cons_append, Nat.reduceAdd, Nat.reduceLeDiff, Nat.reduceLT, Nat.le_refl, decide_true, decide_false, Bool.not_true, Bool.not_false, Bool.true_and, Bool.false_and, Bool.and_true, Bool.and_false, Bool.true_or, Bool.false_or, Bool.or_true, Bool.or_false, Bool.false_bne, Bool.true_bne, Int.reduceLT, Int.reduceLE, Int.reducePow, Int.reduceNeg, Int.reduceToNat, if_true, if_false, frameE, List.map_cons, List.map_nil, List.replicate_succ, List.replicate_zero, Nat.reduceSub, List.replicate, ix0, ix1, and_self, true_and, and_true, pow_10_18, forL_nil, forL_ap, kFor_ap, kFor2_nx, kFor2_ct, kFor2_bk, kFor2_rt, lenA_lst, lenA_tup, lenA_scr, lenA_dK, lenA_dT, addI_ap]
end K63
open PySem PySem.W PySem.Calls PyProof.Rows
theorem PySem.Challenge.rw_doorroads_k63_whole_common_cells_of_stee_holds_of (law : ∀ ns : List Int, ns.length ≤ 63 → ∃ t, K63.F_law [.scr (ns.map .int)] [] = .ok (.bl true) false t) : PySem.Challenge.rw_doorroads_k63_whole_common_cells_of_stee.Holds := by
  w_on; o_law
  refine HandSHeadRun.head_any (r := K63.R) (q := view K63.R.prog [29]) (H := K63.hk) (ob := K63.ob) (M := 3000) (loose := K63.loose) (d := HandSHeadRun.topDef K63.R.prog 29) (kwd := []) K63.ob_eq
    (by kernel_rfl) (fun s => by kernel_rfl) K63.run (by kernel_rfl) (by kernel_rfl) (by kernel_rfl) (by rfl) (by first | assumption | decide +kernel) (by decide +kernel) ⟨rfl, rfl, rfl, rfl, rfl, by decide +kernel⟩ ?hw ?hc
  case hw => w_witness2
  case hc =>
    refine DR.walkW (l := PySem.Challenge.rw_doorroads_k63_whole_common_cells_of_stee) (n := 63) (k := 9) (x := "script") (CX := fun w => L2.CX (PySem.Challenge.rw_doorroads_k63_whole_common_cells_of_stee).prog w) rfl (by decide) (by kernel_rfl) ⟨rfl, by decide, by decide⟩ DR.cx_closed ?_
    intro w mg fa h Y G hmg0
    obtain ⟨K, KX, c⟩ := Y
    have hmg : mg ("law" : PySem.Str) = some (.ref fa) := by
      have e : (HandSHeadRun.topDef K63.R.prog 29).name = ("law" : PySem.Str) := by kernel_rfl
      rw [← e]
      exact hmg0
    obtain ⟨fd, hb, hF⟩ := K63.facts (P := (PySem.Challenge.rw_doorroads_k63_whole_common_cells_of_stee).prog) (w := w) KX G hmg c
    exact ⟨K, fd, DR.spF K 1 K63.F_law, KX, hb, DR.promise law, hF⟩
theorem PySem.Challenge.cw_doorroads_k63_whole_common_cells_of_stee_holds : PySem.Challenge.rw_doorroads_k63_whole_common_cells_of_stee.Holds := by
  exact PySem.Challenge.rw_doorroads_k63_whole_common_cells_of_stee_holds_of K63.law_holds
