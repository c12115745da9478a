import PyProof.Rows.All
import Wide.All
import OpenK.AllK
import Wide.FinOn
import HandS.ForMost
import HandS.ForExc
import HandS.Walk
import HandS.Lambda
import HandS.TupAny
import HandS.TupLe
import HandS.IsInst
import HandS.Style
import HandS.Wide
import HandS.Zip
import HandS.CallSlots
import HandS.Defaults
import HandS.SortInts
import HandS.Deep
import HandS.Dict
import HandS.Small
import HandS.TupLen
import HandS.Text
import KE.DatumOrd
import HandS.HeadEnd
import HandS.HeadHook2
import HandS.Head2
import KE.SortData
import HandS.RaiseMore
import HandS.SetFor
import KE.GoesEnum
import HandS.Iter
import HandS.DictComp
import PySem.Challenge.RW_doorroads_k95_whole_two_heights_that_mee
set_option Elab.async false
set_option linter.all false
set_option maxRecDepth 100000
/-! DR core: Python values as trees, the heap hidden. -/
namespace DR
open PySem PySem.Spec PyProof.Rows L2
/-! ### values -/
inductive PV where
  | non | bl (b : Bool) | int (i : Int) | str (x : Str) | ty (n : String) | fn (a : Addr) | cell (k : Nat)
  | tup (c : Bool) (xs : List PV) | lst (xs : List PV) | scr (xs : List PV)
  | dK (kvs : List (Key × PV)) | dT (kvs : List (List Key × PV))
  | ins (C : Addr) (fs : List (Str × PV)) | exn (C : Addr) (b : Bool) (fs : List (Str × PV)) | tab (P : Addr) (q : Str) | lam (f c : Addr) (q : Str) (ps : List PV) (vs : List V)
  deriving Inhabited
/-- an exception in hand: its record at a, its dict at d -/
def exi (a C : Addr) (d : Option Addr) : HO := .ext fun h => ∃ (vs : Array Value) (sl : Array (Option Value)), h.get? a = some { cls := .ref C, dict := d, data := .fields vs, slots := sl }
/-- a table of code objects that all bear the name q -/
def TabOk (H : Hp) (q : Str) (ps : Array Value) : Prop := TriplesOk ps.toList ∧ ∀ (pos : Pos) (cv : Value), codeAmong pos ps.toList = some cv → ∃ c, cv = .ref c ∧ H c = some (LamX.CodeO c q)
theorem TabOk.mono {H H' : Hp} {q : Str} {ps : Array Value} (s : Same H H') (t : TabOk H q ps) : TabOk H' q ps := ⟨t.1, fun pos cv h => let ⟨c, e1, e2⟩ := t.2 pos cv h; ⟨c, e1, s _ _ e2⟩⟩
mutual
def Rep (K : PySem.W.Frag) (cs : List Addr) (H : Hp) : PV → V → Prop
  | .non, v => v = .non
  | .bl b, v => v = .bl b
  | .int i, v => v = .int i
  | .str x, v => v = .str x
  | .ty n, v => v = .ty n
  | .fn a, v => v = .ref a
  | .cell k, v => ∃ a, v = .ref a ∧ cs[k]? = some a
  | .tup c ps, v => ∃ a vs, v = .ref a ∧ (if c = true then SqT K H a vs else H a = some (.tup vs)) ∧ Reps K cs H ps vs
  | .lst ps, v => ∃ a vs, v = .ref a ∧ H a = some (.lst vs) ∧ Reps K cs H ps vs
  | .scr ps, v => ∃ a vs, v = .ref a ∧ SqL K H a vs ∧ Reps K cs H ps vs
  | .dK kvs, v => ∃ a ws, v = .ref a ∧ H a = some (.dK ws) ∧ RepK K cs H kvs ws
  | .dT kvs, v => ∃ a ws, v = .ref a ∧ H a = some (.dT ws) ∧ RepT K cs H kvs ws
  | .ins C fs, v => ∃ a dx ws, v = .ref a ∧ H a = some (.ins C dx ws) ∧ RepF K cs H fs ws
  | .exn C b fs, v => ∃ (a : Addr) (d : Option Addr) (ws : List (Str × V)), v = .ref a ∧ H a = some (exi a C d) ∧ RepF K cs H fs ws ∧ (if b = true then ∃ dd, d = some dd ∧ H dd = some (.xd ws) else d = none)
  | .tab P q, v => ∃ ps, v = .ref P ∧ H P = some (.tbl ps) ∧ TabOk H q ps
  | .lam f c q ps vs, v => v = .ref f ∧ H c = some (LamX.CodeO c q) ∧ Reps K cs H ps vs
def Reps (K : PySem.W.Frag) (cs : List Addr) (H : Hp) : List PV → List V → Prop
  | [], vs => vs = []
  | p :: ps, vs => ∃ v r, vs = v :: r ∧ Rep K cs H p v ∧ Reps K cs H ps r
def RepK (K : PySem.W.Frag) (cs : List Addr) (H : Hp) : List (Key × PV) → List (Key × V) → Prop
  | [], ws => ws = []
  | (k, p) :: ps, ws => ∃ v r, ws = (k, v) :: r ∧ Rep K cs H p v ∧ RepK K cs H ps r
def RepT (K : PySem.W.Frag) (cs : List Addr) (H : Hp) : List (List Key × PV) → List (List Key × V) → Prop
  | [], ws => ws = []
  | (k, p) :: ps, ws => ∃ v r, ws = (k, v) :: r ∧ Rep K cs H p v ∧ RepT K cs H ps r
def RepF (K : PySem.W.Frag) (cs : List Addr) (H : Hp) : List (Str × PV) → List (Str × V) → Prop
  | [], ws => ws = []
  | (k, p) :: ps, ws => ∃ v r, ws = (k, v) :: r ∧ Rep K cs H p v ∧ RepF K cs H ps r
end
def Pre (cs cs' : List Addr) : Prop := ∀ (k : Nat) (a : Addr), cs[k]? = some a → cs'[k]? = some a
theorem Pre.refl (cs : List Addr) : Pre cs cs := fun _ _ h => h
theorem Pre.trans {a b c : List Addr} (h : Pre a b) (g : Pre b c) : Pre a c := fun k x e => g k x (h k x e)
theorem Pre.app (cs more : List Addr) : Pre cs (cs ++ more) := fun k a e => by
  have hk : k < cs.length := (List.getElem?_eq_some_iff.mp e).1
  rw [List.getElem?_append_left hk]
  exact e
theorem rd_mono {H H' : Hp} {a : Addr} {u : HO} (s : Same H H') (r : Rd H a u) : Rd H' a u := by
  rcases r with r | ⟨o, r⟩
  · exact .inl (s _ _ r)
  · exact .inr ⟨o, s _ _ r⟩
theorem sqL_mono {K : PySem.W.Frag} {H H' : Hp} {a : Addr} {vs : List V} (s : Same H H') (r : SqL K H a vs) : SqL K H' a vs := r.imp (rd_mono s) id
theorem sqT_mono {K : PySem.W.Frag} {H H' : Hp} {a : Addr} {vs : List V} (s : Same H H') (r : SqT K H a vs) : SqT K H' a vs := r.imp (rd_mono s) id
section
variable {K : PySem.W.Frag} {cs cs' : List Addr} {H H' : Hp}
mutual
theorem Rep.mono (hc : Pre cs cs') (s : Same H H') : ∀ (p : PV) (v : V), Rep K cs H p v → Rep K cs' H' p v
  | .non, _, h => by unfold Rep at h ⊢; exact h
  | .bl _, _, h => by unfold Rep at h ⊢; exact h
  | .int _, _, h => by unfold Rep at h ⊢; exact h
  | .str _, _, h => by unfold Rep at h ⊢; exact h
  | .ty _, _, h => by unfold Rep at h ⊢; exact h
  | .fn _, _, h => by unfold Rep at h ⊢; exact h
  | .cell _, _, h => by
    unfold Rep at h ⊢
    obtain ⟨a, e, h⟩ := h
    exact ⟨a, e, hc _ _ h⟩
  | .tup true ps, _, h => by
    unfold Rep at h ⊢
    obtain ⟨a, vs, e, h, r⟩ := h
    rw [if_pos rfl] at h
    exact ⟨a, vs, e, by rw [if_pos rfl]; exact sqT_mono s h, Reps.mono hc s ps vs r⟩
  | .tup false ps, _, h => by
    unfold Rep at h ⊢
    obtain ⟨a, vs, e, h, r⟩ := h
    rw [if_neg (by decide)] at h
    exact ⟨a, vs, e, by rw [if_neg (by decide)]; exact s _ _ h, Reps.mono hc s ps vs r⟩
  | .lst ps, _, h => by
    unfold Rep at h ⊢
    obtain ⟨a, vs, e, h, r⟩ := h
    exact ⟨a, vs, e, s _ _ h, Reps.mono hc s ps vs r⟩
  | .scr ps, _, h => by
    unfold Rep at h ⊢
    obtain ⟨a, vs, e, h, r⟩ := h
    exact ⟨a, vs, e, sqL_mono s h, Reps.mono hc s ps vs r⟩
  | .dK ps, _, h => by
    unfold Rep at h ⊢
    obtain ⟨a, vs, e, h, r⟩ := h
    exact ⟨a, vs, e, s _ _ h, RepK.mono hc s ps vs r⟩
  | .dT ps, _, h => by
    unfold Rep at h ⊢
    obtain ⟨a, vs, e, h, r⟩ := h
    exact ⟨a, vs, e, s _ _ h, RepT.mono hc s ps vs r⟩
  | .ins C ps, _, h => by
    unfold Rep at h ⊢
    obtain ⟨a, dx, vs, e, h, r⟩ := h
    exact ⟨a, dx, vs, e, s _ _ h, RepF.mono hc s ps vs r⟩
  | .exn C b ps, _, h => by
    unfold Rep at h ⊢
    obtain ⟨a, d, ws, e, h, r, z⟩ := h
    refine ⟨a, d, ws, e, s _ _ h, RepF.mono hc s ps ws r, ?_⟩
    cases b with
    | false => exact z
    | true =>
      rw [if_pos rfl] at z ⊢
      obtain ⟨dd, e1, e2⟩ := z
      exact ⟨dd, e1, s _ _ e2⟩
  | .tab P q, _, h => by
    unfold Rep at h ⊢
    obtain ⟨ps, e, h, r⟩ := h
    exact ⟨ps, e, s _ _ h, r.mono s⟩
  | .lam f c q ps vs, _, h => by
    unfold Rep at h ⊢
    obtain ⟨e, h, r⟩ := h
    exact ⟨e, s _ _ h, Reps.mono hc s ps vs r⟩
theorem Reps.mono (hc : Pre cs cs') (s : Same H H') : ∀ (ps : List PV) (vs : List V), Reps K cs H ps vs → Reps K cs' H' ps vs
  | [], _, h => by unfold Reps at h ⊢; exact h
  | p :: ps, _, h => by
    unfold Reps at h ⊢
    obtain ⟨v, r, e, a, b⟩ := h
    exact ⟨v, r, e, Rep.mono hc s p v a, Reps.mono hc s ps r b⟩
theorem RepK.mono (hc : Pre cs cs') (s : Same H H') : ∀ (ps : List (Key × PV)) (vs : List (Key × V)), RepK K cs H ps vs → RepK K cs' H' ps vs
  | [], _, h => by unfold RepK at h ⊢; exact h
  | (k, p) :: ps, _, h => by
    unfold RepK at h ⊢
    obtain ⟨v, r, e, a, b⟩ := h
    exact ⟨v, r, e, Rep.mono hc s p v a, RepK.mono hc s ps r b⟩
theorem RepT.mono (hc : Pre cs cs') (s : Same H H') : ∀ (ps : List (List Key × PV)) (vs : List (List Key × V)), RepT K cs H ps vs → RepT K cs' H' ps vs
  | [], _, h => by unfold RepT at h ⊢; exact h
  | (k, p) :: ps, _, h => by
    unfold RepT at h ⊢
    obtain ⟨v, r, e, a, b⟩ := h
    exact ⟨v, r, e, Rep.mono hc s p v a, RepT.mono hc s ps r b⟩
theorem RepF.mono (hc : Pre cs cs') (s : Same H H') : ∀ (ps : List (Str × PV)) (vs : List (Str × V)), RepF K cs H ps vs → RepF K cs' H' ps vs
  | [], _, h => by unfold RepF at h ⊢; exact h
  | (k, p) :: ps, _, h => by
    unfold RepF at h ⊢
    obtain ⟨v, r, e, a, b⟩ := h
    exact ⟨v, r, e, Rep.mono hc s p v a, RepF.mono hc s ps r b⟩
end
theorem rep_tup {c : Bool} {ps : List PV} {v : V} (r : Rep K cs H (.tup c ps) v) : ∃ a vs, v = .ref a ∧ SqT K H a vs ∧ Reps K cs H ps vs := by
  unfold Rep at r
  obtain ⟨a, vs, e, h, g⟩ := r
  refine ⟨a, vs, e, ?_, g⟩
  cases c with
  | true => rw [if_pos rfl] at h; exact h
  | false => rw [if_neg (by decide)] at h; exact SqT.of h
theorem rep_tup_mk {c : Bool} {ps : List PV} {a : Addr} {vs : List V} (h : H a = some (.tup vs)) (g : Reps K cs H ps vs) : Rep K cs H (.tup c ps) (.ref a) := by
  unfold Rep
  refine ⟨a, vs, rfl, ?_, g⟩
  cases c with
  | true => rw [if_pos rfl]; exact SqT.of h
  | false => rw [if_neg (by decide)]; exact h
theorem rep_tup_mkT {ps : List PV} {a : Addr} {vs : List V} (h : SqT K H a vs) (g : Reps K cs H ps vs) : Rep K cs H (.tup true ps) (.ref a) := by
  unfold Rep
  exact ⟨a, vs, rfl, by rw [if_pos rfl]; exact h, g⟩
theorem rep_tup_up {c d : Bool} {ps : List PV} {v : V} (hcd : c = true → d = true) (r : Rep K cs H (.tup c ps) v) : Rep K cs H (.tup d ps) v := by
  cases d with
  | true => obtain ⟨a, vs, rfl, h, g⟩ := rep_tup r; exact rep_tup_mkT h g
  | false =>
    cases c with
    | true => exact nomatch hcd rfl
    | false => exact r
theorem reps_cons {p : PV} {ps : List PV} {v : V} {vs : List V} (a : Rep K cs H p v) (b : Reps K cs H ps vs) : Reps K cs H (p :: ps) (v :: vs) := by
  unfold Reps
  exact ⟨v, vs, rfl, a, b⟩
theorem reps_nil : Reps K cs H [] [] := by unfold Reps; rfl
theorem Reps.len : ∀ {ps : List PV} {vs : List V}, Reps K cs H ps vs → vs.length = ps.length
  | [], _, h => by unfold Reps at h; subst h; rfl
  | p :: ps, _, h => by
    unfold Reps at h
    obtain ⟨v, r, e, a, b⟩ := h
    subst e
    simp [Reps.len b]
theorem Reps.get : ∀ {ps : List PV} {vs : List V} {i : Nat} {p : PV}, Reps K cs H ps vs → ps[i]? = some p → ∃ v, vs[i]? = some v ∧ Rep K cs H p v
  | [], _, _, _, _, e => by simp at e
  | p :: ps, _, 0, q, h, e => by
    unfold Reps at h
    obtain ⟨v, r, e1, a, b⟩ := h
    subst e1
    simp at e
    subst e
    exact ⟨v, rfl, a⟩
  | p :: ps, _, i + 1, q, h, e => by
    unfold Reps at h
    obtain ⟨v, r, e1, a, b⟩ := h
    subst e1
    simpa using Reps.get (i := i) b (by simpa using e)
theorem Reps.get' {ps : List PV} {vs : List V} {i : Nat} {v : V} (h : Reps K cs H ps vs) (e : vs[i]? = some v) : ∃ p, ps[i]? = some p ∧ Rep K cs H p v := by
  have hi : i < ps.length := by
    have := (List.getElem?_eq_some_iff.mp e).1
    rw [h.len] at this
    exact this
  obtain ⟨w, e2, r⟩ := h.get (List.getElem?_eq_getElem hi)
  rw [e] at e2
  cases e2
  exact ⟨_, List.getElem?_eq_getElem hi, r⟩
theorem Reps.app : ∀ {ps qs : List PV} {vs ws : List V}, Reps K cs H ps vs → Reps K cs H qs ws → Reps K cs H (ps ++ qs) (vs ++ ws)
  | [], _, _, _, h, g => by unfold Reps at h; subst h; exact g
  | p :: ps, _, _, _, h, g => by
    unfold Reps at h
    obtain ⟨v, r, e1, a, b⟩ := h
    subst e1
    exact reps_cons a (Reps.app b g)
theorem Reps.set : ∀ {ps : List PV} {vs : List V} {i : Nat} {p : PV} {v : V}, Reps K cs H ps vs → Rep K cs H p v → Reps K cs H (ps.set i p) (vs.set i v)
  | [], _, _, _, _, h, g => by unfold Reps at h; subst h; exact reps_nil
  | p :: ps, _, 0, _, _, h, g => by
    unfold Reps at h
    obtain ⟨v, r, e1, a, b⟩ := h
    subst e1
    exact reps_cons g b
  | p :: ps, _, i + 1, _, _, h, g => by
    unfold Reps at h
    obtain ⟨v, r, e1, a, b⟩ := h
    subst e1
    exact reps_cons a (Reps.set b g)
theorem Reps.take : ∀ {ps : List PV} {vs : List V} (n : Nat), Reps K cs H ps vs → Reps K cs H (ps.take n) (vs.take n)
  | [], _, n, h => by unfold Reps at h; subst h; simpa using reps_nil
  | p :: ps, _, 0, h => by simpa using reps_nil
  | p :: ps, _, n + 1, h => by
    unfold Reps at h
    obtain ⟨v, r, e1, a, b⟩ := h
    subst e1
    exact reps_cons a (Reps.take n b)
theorem Reps.drop : ∀ {ps : List PV} {vs : List V} (n : Nat), Reps K cs H ps vs → Reps K cs H (ps.drop n) (vs.drop n)
  | [], _, n, h => by unfold Reps at h; subst h; simpa using reps_nil
  | p :: ps, _, 0, h => h
  | p :: ps, _, n + 1, h => by
    unfold Reps at h
    obtain ⟨v, r, e1, a, b⟩ := h
    subst e1
    exact Reps.drop n b
theorem Reps.rev : ∀ {ps : List PV} {vs : List V}, Reps K cs H ps vs → Reps K cs H ps.reverse vs.reverse
  | [], _, h => by unfold Reps at h; subst h; exact reps_nil
  | p :: ps, _, h => by
    unfold Reps at h
    obtain ⟨v, r, e1, a, b⟩ := h
    subst e1
    simp only [List.reverse_cons]
    exact (Reps.rev b).app (reps_cons a reps_nil)
end
/-! ### masks and worlds -/
/-- the heap without the addresses of L -/
def msk (L : List Addr) (H : Hp) : Hp := fun a => if a ∈ L then none else H a
theorem msk_in {L : List Addr} {H : Hp} {a : Addr} (h : a ∈ L) : msk L H a = none := if_pos h
theorem msk_out {L : List Addr} {H : Hp} {a : Addr} (h : a ∉ L) : msk L H a = H a := if_neg h
theorem msk_some {L : List Addr} {H : Hp} {a : Addr} {o : HO} : msk L H a = some o ↔ a ∉ L ∧ H a = some o := by
  unfold msk
  split
  · simp [*]
  · simp [*]
theorem msk_sub (L : List Addr) (H : Hp) : Same (msk L H) H := fun b o e => (msk_some.mp e).2
/-- O: what only one name (or a value in flight) reaches; S: the store; P: what the code around keeps to itself -/
structure Wd where
  O : List Addr
  S : List Addr
  P : List Addr
def Wd.L (W : Wd) : List Addr := W.O ++ (W.S ++ W.P)
theorem Wd.notL {W : Wd} {a : Addr} : a ∉ W.L ↔ a ∉ W.O ∧ a ∉ W.S ∧ a ∉ W.P := by simp [Wd.L]
def Wd.m (W : Wd) (H : Hp) : Hp := msk W.L H
structure Step (W : Wd) (H : Hp) (W' : Wd) (H' : Hp) : Prop where
  same : Same (W.m H) (W'.m H')
  there : ∀ b, H' b = none → H b = none
  new : ∀ b ∈ W'.O, b ∈ W.O ∨ H b = none
  pre : Pre W.S W'.S
  sto : ∀ b ∈ W'.S, b ∈ W.S ∨ b ∈ W.O ∨ H b = none
  prv : W'.P = W.P
  pk : ∀ b ∈ W.P, H' b = H b
theorem Step.refl (W : Wd) (H : Hp) : Step W H W H := ⟨Same.refl _, fun _ h => h, fun _ h => .inl h, Pre.refl _, fun _ h => .inl h, rfl, fun _ _ => rfl⟩
theorem Step.trans {W W1 W2 : Wd} {H H1 H2 : Hp} (a : Step W H W1 H1) (b : Step W1 H1 W2 H2) : Step W H W2 H2 where
  same := a.same.trans b.same
  there := fun c h => a.there c (b.there c h)
  new := fun c h => (b.new c h).elim (a.new c) fun h => .inr (a.there c h)
  pre := a.pre.trans b.pre
  sto := fun c h => (b.sto c h).elim (a.sto c) fun h => h.elim (fun h => .inr (a.new c h)) fun h => .inr (.inr (a.there c h))
  prv := b.prv.trans a.prv
  pk := fun c h => (b.pk c (by rw [a.prv]; exact h)).trans (a.pk c h)
section
variable {K : PySem.W.Frag} {W W' : Wd} {H H' : Hp}
/-- p as v, reached by anything -/
abbrev RV (K : PySem.W.Frag) (W : Wd) (H : Hp) (p : PV) (v : V) : Prop := Rep K W.S (W.m H) p v
abbrev RVs (K : PySem.W.Frag) (W : Wd) (H : Hp) (p : List PV) (v : List V) : Prop := Reps K W.S (W.m H) p v
theorem Step.rv {p : PV} {v : V} (s : Step W H W' H') (r : RV K W H p v) : RV K W' H' p v := r.mono s.pre s.same
theorem Step.rvs {p : List PV} {v : List V} (s : Step W H W' H') (r : RVs K W H p v) : RVs K W' H' p v := r.mono s.pre s.same
/-- what stands at a, the object itself perhaps owned -/
def Con (K : PySem.W.Frag) (W : Wd) (H : Hp) (p : PV) (a : Addr) : Prop :=
  match p with
  | .lst ps => ∃ vs, H a = some (.lst vs) ∧ Reps K W.S (W.m H) ps vs
  | .dK ps => ∃ vs, H a = some (.dK vs) ∧ RepK K W.S (W.m H) ps vs
  | .dT ps => ∃ vs, H a = some (.dT vs) ∧ RepT K W.S (W.m H) ps vs
  | .ins C ps => ∃ dx vs, H a = some (.ins C dx vs) ∧ RepF K W.S (W.m H) ps vs
  | .tab P q => a = P ∧ ∃ ps, H a = some (.tbl ps) ∧ TabOk (W.m H) q ps
  | _ => False
theorem Con.step {p : PV} {a : Addr} (s : Step W H W' H') (h : Con K W H p a) (e : H' a = H a) : Con K W' H' p a := by
  cases p with
  | lst ps => obtain ⟨vs, h1, h2⟩ := h; exact ⟨vs, e.trans h1, h2.mono s.pre s.same⟩
  | dK ps => obtain ⟨vs, h1, h2⟩ := h; exact ⟨vs, e.trans h1, h2.mono s.pre s.same⟩
  | dT ps => obtain ⟨vs, h1, h2⟩ := h; exact ⟨vs, e.trans h1, h2.mono s.pre s.same⟩
  | ins C ps => obtain ⟨dx, vs, h1, h2⟩ := h; exact ⟨dx, vs, e.trans h1, h2.mono s.pre s.same⟩
  | tab P q => obtain ⟨h0, ps, h1, h2⟩ := h; exact ⟨h0, ps, e.trans h1, h2.mono s.same⟩
  | _ => exact h.elim
theorem Con.there {p : PV} {a : Addr} (h : Con K W H p a) : ∃ o, H a = some o := by
  cases p with
  | lst ps => obtain ⟨vs, h1, h2⟩ := h; exact ⟨_, h1⟩
  | dK ps => obtain ⟨vs, h1, h2⟩ := h; exact ⟨_, h1⟩
  | dT ps => obtain ⟨vs, h1, h2⟩ := h; exact ⟨_, h1⟩
  | ins C ps => obtain ⟨dx, vs, h1, h2⟩ := h; exact ⟨_, h1⟩
  | tab P q => obtain ⟨h0, ps, h1, h2⟩ := h; exact ⟨_, h1⟩
  | _ => exact h.elim
/-- no longer owned: a plain value -/
theorem Con.rv {p : PV} {a : Addr} (h : Con K W H p a) (ha : a ∉ W.L) : RV K W H p (.ref a) := by
  have q : ∀ o, H a = some o → W.m H a = some o := fun o e => msk_some.mpr ⟨ha, e⟩
  cases p with
  | lst ps => obtain ⟨vs, h1, h2⟩ := h; unfold RV Rep; exact ⟨a, vs, rfl, q _ h1, h2⟩
  | dK ps => obtain ⟨vs, h1, h2⟩ := h; unfold RV Rep; exact ⟨a, vs, rfl, q _ h1, h2⟩
  | dT ps => obtain ⟨vs, h1, h2⟩ := h; unfold RV Rep; exact ⟨a, vs, rfl, q _ h1, h2⟩
  | ins C ps => obtain ⟨dx, vs, h1, h2⟩ := h; unfold RV Rep; exact ⟨a, dx, vs, rfl, q _ h1, h2⟩
  | tab P q' => obtain ⟨h0, ps, h1, h2⟩ := h; subst h0; unfold RV Rep; exact ⟨ps, rfl, q _ h1, h2⟩
  | _ => exact h.elim
end
/-! ### frames: slots, the store -/
inductive Sl where
  | no | val (p : PV) | own (p : PV)
  deriving Inhabited
abbrev DE := List Sl
abbrev DT := List PV
structure RE (K : PySem.W.Frag) (W : Wd) (H : Hp) (e : DE) (σ : L2.St) : Prop where
  len : e.length = σ.length
  at_ : ∀ (i : Nat) (p : PV), e[i]? = some (.val p) → ∃ v, σ[i]? = some (some v) ∧ RV K W H p v
  ow : ∀ (i : Nat) (p : PV), e[i]? = some (.own p) → ∃ a, σ[i]? = some (some (.ref a)) ∧ a ∈ W.O ∧ Con K W H p a
  inj : ∀ (i j : Nat) (p q : PV) (a : Addr), e[i]? = some (.own p) → e[j]? = some (.own q) → σ[i]? = some (some (.ref a)) → σ[j]? = some (some (.ref a)) → i = j
structure RS (K : PySem.W.Frag) (W : Wd) (H : Hp) (t : DT) : Prop where
  len : t.length = W.S.length
  at_ : ∀ (k : Nat) (p : PV) (a : Addr), t[k]? = some p → W.S[k]? = some a → Con K W H p a
  nd : W.S.Nodup
  ap : ∀ a ∈ W.O, a ∉ W.S
  pt : ∀ a ∈ W.P, ∃ o, H a = some o
  pa : ∀ a ∈ W.O, a ∉ W.P
  ps : ∀ a ∈ W.S, a ∉ W.P
  ot : ∀ a ∈ W.O, ∃ o, H a = some o
structure DS where
  e : DE
  t : DT
/-- the whole state -/
structure RSt (K : PySem.W.Frag) (W : Wd) (H : Hp) (s : DS) (σ : L2.St) : Prop where
  e : RE K W H s.e σ
  t : RS K W H s.t
end DR
/-! DR: results, readings, names, displays, statements. -/
namespace DR
open PySem PySem.Spec PyProof.Rows L2
structure Exn where
  C : Addr
  fs : Option (List (Str × PV))
inductive Re (α : Type) where
  | ok (a : α) (s : DS) | exc (x : Exn) (s : DS) | bad
def Re.bind {α β : Type} (r : Re α) (g : α → DS → Re β) : Re β :=
  match r with
  | .ok a s => g a s
  | .exc x s => .exc x s
  | .bad => .bad
inductive Fl where
  | nx | rt (p : PV) (fr : Bool) | bk | ct
abbrev EM := DS → Re PV
abbrev OM := DS → Re (PV × Bool)
abbrev AM := DS → Re (List PV)
abbrev TM := DS → Re Bool
abbrev SM := DS → Re Fl
section
variable {K : PySem.W.Frag} {W W' W1 : Wd} {H H' H1 : Hp} {s s1 : DS} {σ : L2.St} {Z : WX}
/-- an exception as it lies -/
def XR (K : PySem.W.Frag) (W : Wd) (H : Hp) (x : Exn) (d : Option Addr) : Prop :=
  match x.fs with
  | none => d = none
  | some l => ∃ dd ws, d = some dd ∧ W.m H dd = some (.xd ws) ∧ RepF K W.S (W.m H) l ws
abbrev RT (α β : Type) := PySem.W.Frag → L2.St → Wd → Hp → DS → α → β → Prop
def Post {α β : Type} (R : RT α β) (K : PySem.W.Frag) (Z : WX) (σ : L2.St) (W : Wd) (H : Hp) (r : Re α) (Q : β → Hp → Prop) : Prop :=
  match r with
  | .ok a s' => ∀ b W' H', Step W H W' H' → RSt K W' H' s' σ → R K σ W' H' s' a b → Q b H'
  | .exc x s' => ∀ d W' H', Step W H W' H' → RSt K W' H' s' σ → XR K W' H' x d → Z (.ref x.C) d σ H'
  | .bad => False
def tG {α β : Type} (R : RT α β) (K : PySem.W.Frag) (Z : WX) (f : DS → Re α) : L2.St → Hp → (β → Hp → Prop) → Prop := fun σ H Q => ∃ W s, RSt K W H s σ ∧ Post R K Z σ W H (f s) Q
def rE : RT PV V := fun K _ W H _ p v => RV K W H p v
def rA : RT (List PV) (List V) := fun K _ W H _ p v => RVs K W H p v
def rT : RT Bool Bool := fun _ _ _ _ _ b c => c = b
/-- owned: a value that nothing else reaches -/
def Own (K : PySem.W.Frag) (σ : L2.St) (W : Wd) (H : Hp) (s : DS) (p : PV) (v : V) : Prop := ∃ a, v = .ref a ∧ a ∈ W.O ∧ Con K W H p a ∧ ∀ (i : Nat) (q : PV), s.e[i]? = some (.own q) → σ[i]? ≠ some (some (.ref a))
def rO : RT (PV × Bool) V := fun K σ W H s p v => if p.2 = true then Own K σ W H s p.1 v else RV K W H p.1 v
abbrev tE := @tG PV V rE
abbrev tA := @tG (List PV) (List V) rA
abbrev tT := @tG Bool Bool rT
abbrev tO := @tG (PV × Bool) V rO
def PostS (K : PySem.W.Frag) (Z : WX) (W : Wd) (H : Hp) (r : Re Fl) (D : Ends) : Prop :=
  match r with
  | .ok .nx s' => ∀ σ' W' H', Step W H W' H' → RSt K W' H' s' σ' → D.nx σ' H'
  | .ok .bk s' => ∀ σ' W' H', Step W H W' H' → RSt K W' H' s' σ' → D.bk σ' H'
  | .ok .ct s' => ∀ σ' W' H', Step W H W' H' → RSt K W' H' s' σ' → D.ct σ' H'
  | .ok (.rt p fr) s' => ∀ σ' v W' H', Step W H W' H' → RSt K W' H' s' σ' → rO K σ' W' H' s' (p, fr) v → D.rt v H'
  | .exc x s' => ∀ σ' d W' H', Step W H W' H' → RSt K W' H' s' σ' → XR K W' H' x d → Z (.ref x.C) d σ' H'
  | .bad => False
def tS (K : PySem.W.Frag) (Z : WX) (f : SM) : TS := fun D σ H => ∃ W s, RSt K W H s σ ∧ PostS K Z W H (f s) D
theorem Post.step {α β : Type} {R : RT α β} {r : Re α} {Q : β → Hp → Prop} (h : Post R K Z σ W H r Q) (st : Step W H W1 H1) : Post R K Z σ W1 H1 r Q := by
  cases r with
  | ok a s' => exact fun b W' H' st' rs rr => h b W' H' (st.trans st') rs rr
  | exc x s' => exact fun d W' H' st' rs rr => h d W' H' (st.trans st') rs rr
  | bad => exact h
theorem PostS.step {r : Re Fl} {D : Ends} (h : PostS K Z W H r D) (st : Step W H W1 H1) : PostS K Z W1 H1 r D := by
  cases r with
  | ok a s' =>
    cases a with
    | nx => exact fun b W' H' st' rs => h b W' H' (st.trans st') rs
    | bk => exact fun b W' H' st' rs => h b W' H' (st.trans st') rs
    | ct => exact fun b W' H' st' rs => h b W' H' (st.trans st') rs
    | rt p fr => exact fun b v W' H' st' rs rr => h b v W' H' (st.trans st') rs rr
  | exc x s' => exact fun b d W' H' st' rs rr => h b d W' H' (st.trans st') rs rr
  | bad => exact h
theorem Post.bind {α β γ δ : Type} {R : RT α β} {R' : RT γ δ} {r : Re α} {g : α → DS → Re γ} {Q : δ → Hp → Prop} {Q' : β → Hp → Prop} (h : Post R' K Z σ W H (r.bind g) Q)
    (k : ∀ a s1 b W1 H1, r = .ok a s1 → Step W H W1 H1 → RSt K W1 H1 s1 σ → R K σ W1 H1 s1 a b → Post R' K Z σ W1 H1 (g a s1) Q → Q' b H1) : Post R K Z σ W H r Q' := by
  cases r with
  | ok a s' => exact fun b W' H' st' rs rr => k a s' b W' H' rfl st' rs rr (Post.step h st')
  | exc x s' => exact h
  | bad => exact h
theorem PostS.bindE {α β : Type} {R : RT α β} {r : Re α} {g : α → DS → Re Fl} {D : Ends} {Q' : β → Hp → Prop} (h : PostS K Z W H (r.bind g) D)
    (k : ∀ a s1 b W1 H1, r = .ok a s1 → Step W H W1 H1 → RSt K W1 H1 s1 σ → R K σ W1 H1 s1 a b → PostS K Z W1 H1 (g a s1) D → Q' b H1) : Post R K Z σ W H r Q' := by
  cases r with
  | ok a s' => exact fun b W' H' st' rs rr => k a s' b W' H' rfl st' rs rr (PostS.step h st')
  | exc x s' => exact fun d W' H' st' rs rr => h σ d W' H' st' rs rr
  | bad => exact h
/-! ### the state: quiet steps, slots -/
theorem RSt.quiet (R : RSt K W H s σ) (st : Step W H W' H') (hO : ∀ a ∈ W.O, a ∈ W'.O) (hS : W'.S = W.S) (hk : ∀ a o, H a = some o → a ∈ W.O ∨ a ∈ W.S → H' a = H a) (ap : ∀ a ∈ W'.O, a ∉ W.S ∧ a ∉ W.P ∧ ∃ o, H' a = some o) : RSt K W' H' s σ := by
  refine ⟨⟨R.e.len, fun i p h => ?_, fun i p h => ?_, R.e.inj⟩, ⟨by rw [hS]; exact R.t.len, fun k p a h1 h2 => ?_, by rw [hS]; exact R.t.nd, fun a h => by rw [hS]; exact (ap a h).1, fun a h => ?_, fun a h => by rw [st.prv]; exact (ap a h).2.1, fun a h => by rw [st.prv]; rw [hS] at h; exact R.t.ps a h, fun a h => (ap a h).2.2⟩⟩
  · obtain ⟨v, h1, h2⟩ := R.e.at_ i p h
    exact ⟨v, h1, st.rv h2⟩
  · obtain ⟨a, h1, h2, h3⟩ := R.e.ow i p h
    obtain ⟨o, ho⟩ := h3.there
    exact ⟨a, h1, hO a h2, h3.step st (hk a o ho (.inl h2))⟩
  · rw [hS] at h2
    obtain ⟨o, ho⟩ := (R.t.at_ k p a h1 h2).there
    exact (R.t.at_ k p a h1 h2).step st (hk a o ho (.inr (List.mem_of_getElem? h2)))
  · rw [st.prv] at h
    obtain ⟨o, ho⟩ := R.t.pt a h
    exact ⟨o, by rw [st.pk a h]; exact ho⟩
theorem RSt.tracked (R : RSt K W H s σ) {a : Addr} (h : a ∈ W.S) : ∃ o, H a = some o := by
  obtain ⟨k, hk, e⟩ := List.mem_iff_getElem.mp h
  have hk2 : k < s.t.length := by rw [R.t.len]; exact hk
  exact (R.t.at_ k s.t[k] a (List.getElem?_eq_getElem hk2) (by rw [List.getElem?_eq_getElem hk, e])).there
theorem RSt.nS (R : RSt K W H s σ) {p : Addr} (hp : H p = none) : p ∉ W.S := fun h => by
  obtain ⟨o, e⟩ := R.tracked h
  rw [hp] at e
  cases e
theorem RSt.nP (R : RSt K W H s σ) {p : Addr} (hp : H p = none) : p ∉ W.P := fun h => by
  obtain ⟨o, e⟩ := R.t.pt p h
  rw [hp] at e
  cases e
theorem Step.alloc {p : Addr} {o : HO} (hp : H p = none) (hP : p ∉ W.P) : Step W H W (upd H p o) := by
  refine ⟨fun b u e => ?_, fun b h => ?_, fun _ h => .inl h, Pre.refl _, fun _ h => .inl h, rfl, fun b h => upd_ne fun z => hP (z ▸ h)⟩
  · obtain ⟨h1, h2⟩ := msk_some.mp e
    exact msk_some.mpr ⟨h1, by rw [upd_ne (ne_of_none h2 hp)]; exact h2⟩
  · by_cases e : b = p
    · rw [e]; exact hp
    · rw [upd_ne e] at h
      exact h
theorem RSt.alloc (R : RSt K W H s σ) {p : Addr} {o : HO} (hp : H p = none) : RSt K W (upd H p o) s σ :=
  R.quiet (Step.alloc hp (R.nP hp)) (fun _ h => h) rfl (fun a o e _ => upd_ne (ne_of_none e hp)) fun a h => ⟨R.t.ap a h, R.t.pa a h, let ⟨u, hu⟩ := R.t.ot a h; ⟨u, by rw [upd_ne (ne_of_none hu hp)]; exact hu⟩⟩
/-- with p owned -/
def Wd.own (W : Wd) (p : Addr) : Wd := ⟨p :: W.O, W.S, W.P⟩
theorem Step.allocO {p : Addr} {o : HO} (hp : H p = none) (hP : p ∉ W.P) : Step W H (W.own p) (upd H p o) := by
  refine ⟨fun b u e => ?_, (Step.alloc (W := W) (o := o) hp hP).there, fun b h => ?_, Pre.refl _, fun _ h => .inl h, rfl, fun b h => upd_ne fun z => hP (z ▸ h)⟩
  · obtain ⟨h1, h2⟩ := msk_some.mp e
    have n := ne_of_none h2 hp
    refine msk_some.mpr ⟨?_, by rw [upd_ne n]; exact h2⟩
    obtain ⟨a1, a2⟩ := Wd.notL.mp h1
    exact Wd.notL.mpr ⟨fun z => (List.mem_cons.mp z).elim n a1, a2⟩
  · rcases List.mem_cons.mp h with h | h
    · rw [h]; exact .inr hp
    · exact .inl h
theorem RSt.allocO (R : RSt K W H s σ) {p : Addr} {o : HO} (hp : H p = none) : RSt K (W.own p) (upd H p o) s σ := by
  refine R.quiet (Step.allocO hp (R.nP hp)) (fun _ h => List.mem_cons_of_mem _ h) rfl (fun a o e _ => upd_ne (ne_of_none e hp)) fun a h => ?_
  rcases List.mem_cons.mp h with h | h
  · rw [h]; exact ⟨R.nS hp, R.nP hp, _, upd_same⟩
  · exact ⟨R.t.ap a h, R.t.pa a h, let ⟨u, hu⟩ := R.t.ot a h; ⟨u, by rw [upd_ne (ne_of_none hu hp)]; exact hu⟩⟩
/-- no longer owned -/
def Wd.drop (W : Wd) (a : Addr) : Wd := ⟨W.O.filter fun b => decide (b ≠ a), W.S, W.P⟩
theorem Step.drop {a : Addr} : Step W H (W.drop a) H := by
  refine ⟨fun b u e => ?_, fun _ h => h, fun b h => .inl (List.mem_filter.mp h).1, Pre.refl _, fun _ h => .inl h, rfl, fun _ _ => rfl⟩
  obtain ⟨h1, h2⟩ := msk_some.mp e
  obtain ⟨a1, a2⟩ := Wd.notL.mp h1
  exact msk_some.mpr ⟨Wd.notL.mpr ⟨fun z => a1 (List.mem_filter.mp z).1, a2⟩, h2⟩
theorem Wd.drop_in {a b : Addr} : b ∈ (W.drop a).O ↔ b ∈ W.O ∧ b ≠ a := by simp [Wd.drop]
theorem RSt.drop_L (R : RSt K W H s σ) {a : Addr} (h : a ∈ W.O) : a ∉ (W.drop a).L :=
  Wd.notL.mpr ⟨fun z => (Wd.drop_in.mp z).2 rfl, R.t.ap a h, R.t.pa a h⟩
theorem RS.drop {t : DT} (R : RS K W H t) (a : Addr) : RS K (W.drop a) H t :=
  ⟨R.len, fun k q b h1 h2 => (R.at_ k q b h1 h2).step Step.drop rfl, R.nd, fun b h => R.ap b (Wd.drop_in.mp h).1, R.pt, fun b h => R.pa b (Wd.drop_in.mp h).1, R.ps, fun b h => R.ot b (Wd.drop_in.mp h).1⟩
/-- the value in flight is let go: it may be reached by anything -/
theorem Own.demote (R : RSt K W H s σ) {p : PV} {v : V} (o : Own K σ W H s p v) : ∃ W1, Step W H W1 H ∧ RSt K W1 H s σ ∧ RV K W1 H p v := by
  obtain ⟨a, e, ha, hc, hn⟩ := o
  have st : Step W H (W.drop a) H := Step.drop
  refine ⟨W.drop a, st, ⟨⟨R.e.len, fun i q h => ?_, fun i q h => ?_, R.e.inj⟩, R.t.drop a⟩, ?_⟩
  · obtain ⟨w, h1, h2⟩ := R.e.at_ i q h
    exact ⟨w, h1, st.rv h2⟩
  · obtain ⟨b, h1, h2, h3⟩ := R.e.ow i q h
    refine ⟨b, h1, Wd.drop_in.mpr ⟨h2, fun z => hn i q h (by rw [h1, z])⟩, h3.step st rfl⟩
  · rw [e]
    exact (hc.step st rfl).rv (R.drop_L ha)
theorem rO_demote (R : RSt K W H s σ) {p : PV} {fr : Bool} {v : V} (o : rO K σ W H s (p, fr) v) : ∃ W1, Step W H W1 H ∧ RSt K W1 H s σ ∧ RV K W1 H p v := by
  cases fr with
  | false => exact ⟨W, Step.refl _ _, R, o⟩
  | true => exact Own.demote R o
/-- a slot's own list is let go -/
theorem RSt.demote (R : RSt K W H s σ) {i : Nat} {p : PV} (h : s.e[i]? = some (.own p)) : ∃ v W1, σ[i]? = some (some v) ∧ Step W H W1 H ∧ RSt K W1 H ⟨s.e.set i (.val p), s.t⟩ σ ∧ RV K W1 H p v := by
  obtain ⟨a, h1, h2, h3⟩ := R.e.ow i p h
  have st : Step W H (W.drop a) H := Step.drop
  have hi : i < s.e.length := (List.getElem?_eq_some_iff.mp h).1
  have rv : RV K (W.drop a) H p (.ref a) := (h3.step st rfl).rv (R.drop_L h2)
  have get : ∀ (j : Nat) (sl : Sl), (s.e.set i (.val p))[j]? = some sl → (j = i ∧ sl = .val p) ∨ (j ≠ i ∧ s.e[j]? = some sl) := fun j sl e => by
    by_cases hj : j = i
    · subst hj
      rw [List.getElem?_set_self hi] at e
      exact .inl ⟨rfl, (Option.some.inj e).symm⟩
    · rw [List.getElem?_set_ne (Ne.symm hj)] at e
      exact .inr ⟨hj, e⟩
  refine ⟨.ref a, W.drop a, h1, st, ⟨⟨by simp [R.e.len], fun j q e => ?_, fun j q e => ?_, fun j k q r b e1 e2 e3 e4 => ?_⟩, R.t.drop a⟩, rv⟩
  · rcases get j _ e with ⟨rfl, e'⟩ | ⟨hj, e'⟩
    · cases e'
      exact ⟨.ref a, h1, rv⟩
    · obtain ⟨w, g1, g2⟩ := R.e.at_ j q e'
      exact ⟨w, g1, st.rv g2⟩
  · rcases get j _ e with ⟨rfl, e'⟩ | ⟨hj, e'⟩
    · cases e'
    · obtain ⟨b, g1, g2, g3⟩ := R.e.ow j q e'
      exact ⟨b, g1, Wd.drop_in.mpr ⟨g2, fun z => hj (R.e.inj j i q p a e' h (by rw [g1, z]) h1)⟩, g3.step st rfl⟩
  · rcases get j _ e1 with ⟨rfl, e'⟩ | ⟨hj, e'⟩
    · cases e'
    · rcases get k _ e2 with ⟨rfl, e''⟩ | ⟨hk, e''⟩
      · cases e''
      · exact R.e.inj j k q r b e' e'' e3 e4
theorem get_set {e : DE} {i j : Nat} {x y : Sl} (h : (e.set i x)[j]? = some y) : (j = i ∧ y = x) ∨ (j ≠ i ∧ e[j]? = some y) := by
  by_cases hj : j = i
  · subst hj
    by_cases hi : j < e.length
    · rw [List.getElem?_set_self hi] at h
      exact .inl ⟨rfl, (Option.some.inj h).symm⟩
    · rw [List.getElem?_eq_none (by simpa using hi)] at h
      cases h
  · rw [List.getElem?_set_ne (Ne.symm hj)] at h
    exact .inr ⟨hj, h⟩
/-- a plain value is stored -/
theorem RSt.setv (R : RSt K W H s σ) {i : Nat} {p : PV} {v : V} (r : RV K W H p v) : RSt K W H ⟨s.e.set i (.val p), s.t⟩ (σ.set i (some v)) := by
  have ne : ∀ {j : Nat}, j ≠ i → (σ.set i (some v))[j]? = σ[j]? := fun h => List.getElem?_set_ne (Ne.symm h)
  refine ⟨⟨by simp [R.e.len], fun j q e => ?_, fun j q e => ?_, fun j k q r b e1 e2 e3 e4 => ?_⟩, R.t⟩
  · rcases get_set e with ⟨rfl, e'⟩ | ⟨hj, e'⟩
    · cases e'
      have hi : j < σ.length := by
        have := (List.getElem?_eq_some_iff.mp e).1
        rw [List.length_set, R.e.len] at this
        exact this
      exact ⟨v, List.getElem?_set_self hi, r⟩
    · rw [ne hj]
      exact R.e.at_ j q e'
  · rcases get_set e with ⟨rfl, e'⟩ | ⟨hj, e'⟩
    · cases e'
    · rw [ne hj]
      exact R.e.ow j q e'
  · rcases get_set e1 with ⟨rfl, e'⟩ | ⟨hj, e'⟩
    · cases e'
    · rcases get_set e2 with ⟨rfl, e''⟩ | ⟨hk, e''⟩
      · cases e''
      · rw [ne hj] at e3
        rw [ne hk] at e4
        exact R.e.inj j k q r b e' e'' e3 e4
/-- an owned value is stored -/
theorem RSt.seto (R : RSt K W H s σ) {i : Nat} {p : PV} {v : V} (o : Own K σ W H s p v) : RSt K W H ⟨s.e.set i (.own p), s.t⟩ (σ.set i (some v)) := by
  obtain ⟨a, e0, ha, hc, hn⟩ := o
  subst e0
  have ne : ∀ {j : Nat}, j ≠ i → (σ.set i (some (V.ref a)))[j]? = σ[j]? := fun h => List.getElem?_set_ne (Ne.symm h)
  have at_i : ∀ {y}, (s.e.set i y)[i]? = some y → (σ.set i (some (V.ref a)))[i]? = some (some (.ref a)) := fun {y} e => by
    have := (List.getElem?_eq_some_iff.mp e).1
    rw [List.length_set, R.e.len] at this
    exact List.getElem?_set_self this
  refine ⟨⟨by simp [R.e.len], fun j q e => ?_, fun j q e => ?_, fun j k q r b e1 e2 e3 e4 => ?_⟩, R.t⟩
  · rcases get_set e with ⟨rfl, e'⟩ | ⟨hj, e'⟩
    · cases e'
    · rw [ne hj]
      exact R.e.at_ j q e'
  · rcases get_set e with ⟨rfl, e'⟩ | ⟨hj, e'⟩
    · cases e'
      exact ⟨a, at_i e, ha, hc⟩
    · rw [ne hj]
      exact R.e.ow j q e'
  · rcases get_set e1 with ⟨rfl, e'⟩ | ⟨hj, e'⟩
    · rcases get_set e2 with ⟨rfl, e''⟩ | ⟨hk, e''⟩
      · rfl
      · cases e'
        rw [at_i e1] at e3
        cases e3
        rw [ne hk] at e4
        exact absurd e4 (hn k r e'')
    · rcases get_set e2 with ⟨rfl, e''⟩ | ⟨hk, e''⟩
      · cases e''
        rw [at_i e2] at e4
        cases e4
        rw [ne hj] at e3
        exact absurd e3 (hn j q e')
      · rw [ne hj] at e3
        rw [ne hk] at e4
        exact R.e.inj j k q r b e' e'' e3 e4
end
/-! ### the judgements -/
structure PX (X : Cx) (Z : WX) (e : Expr) (f : EM) : Prop where
  pe : PE X e (tE X.K Z f)
structure PO (X : Cx) (Z : WX) (e : Expr) (f : OM) : Prop where
  pe : PE X e (tO X.K Z f)
structure PAX (X : Cx) (Z : WX) (es : List Expr) (f : AM) : Prop where
  pa : PA X es (tA X.K Z f)
structure PTX (X : Cx) (Z : WX) (e : Expr) (f : TM) : Prop where
  pt : PT X e (tT X.K Z f)
structure PSX (X : Cx) (Z : WX) (st : Stmt) (f : SM) : Prop where
  ps : PS X st (tS X.K Z f)
structure PSsX (X : Cx) (Z : WX) (st : List Stmt) (f : SM) : Prop where
  ps : PSs X st (tS X.K Z f)
theorem PE_imp {X : Cx} {e : Expr} {t t' : TE} (h : PE X e t) (i : ∀ σ H Q, t' σ H Q → t σ H Q) : PE X e t' := ⟨fun pins s σ H Q I q => h.run pins s σ H Q I (i σ H Q q)⟩
theorem PA_imp {X : Cx} {e : List Expr} {t t' : TA} (h : PA X e t) (i : ∀ σ H Q, t' σ H Q → t σ H Q) : PA X e t' := ⟨fun pos pins s σ H Q I q => h.run pos pins s σ H Q I (i σ H Q q)⟩
theorem PT_imp {X : Cx} {e : Expr} {t t' : TT} (h : PT X e t) (i : ∀ σ H Q, t' σ H Q → t σ H Q) : PT X e t' := ⟨fun pins s σ H Q I q => h.run pins s σ H Q I (i σ H Q q)⟩
theorem PW_imp {X : Cx} {e : Expr} {t t' : TT} (h : PW X e t) (i : ∀ σ H Q, t' σ H Q → t σ H Q) : PW X e t' := ⟨fun wh pins s σ H Q I q => h.run wh pins s σ H Q I (i σ H Q q)⟩
theorem PS_imp {X : Cx} {e : Stmt} {t t' : TS} (h : PS X e t) (i : ∀ D σ H, t' D σ H → t D σ H) : PS X e t' := ⟨fun pins s σ H D I q => h.run pins s σ H D I (i D σ H q)⟩
theorem PSs_imp {X : Cx} {e : List Stmt} {t t' : TS} (h : PSs X e t) (i : ∀ D σ H, t' D σ H → t D σ H) : PSs X e t' := ⟨fun pins s σ H D I q => h.run pins s σ H D I (i D σ H q)⟩
theorem PE_or {X : Cx} {e : Expr} {t t' : TE} (h : PE X e t) (g : PE X e t') : PE X e (fun σ H Q => t σ H Q ∨ t' σ H Q) := ⟨fun pins s σ H Q I q => q.elim (h.run pins s σ H Q I) (g.run pins s σ H Q I)⟩
theorem PE_any {X : Cx} {e : Expr} {ι : Type} {t : ι → TE} (h : ∀ i, PE X e (t i)) : PE X e (fun σ H Q => ∃ i, t i σ H Q) := ⟨fun pins s σ H Q I ⟨i, q⟩ => (h i).run pins s σ H Q I q⟩
section
variable {X : Cx} {Z : WX}
/-! ### names, constants -/
def nameE (i : Nat) : EM := fun s => match s.e[i]? with
  | some (.val p) => .ok p s
  | some (.own p) => .ok p ⟨s.e.set i (.val p), s.t⟩
  | _ => .bad
def constE (p : PV) : EM := fun s => .ok p s
theorem px_name {x : Str} {pos : Pos} (i : Nat) (hN : X.N[i]? = some x := by rfl) (hv : Vis X.env.scope x := by first | exact Or.inl rfl | exact Or.inr (Or.inl rfl) | exact Or.inr (Or.inr rfl)) (hd : (x == ("__debug__" : Str)) = false := by decide)
    (hcd : (x == ("__classdict__" : Str)) = false := by decide) : PX X Z (.Name x pos) (nameE i) := by
  refine ⟨PE_imp (pe_var hN hv hd hcd) fun σ H Q h => ?_⟩
  obtain ⟨W, s, R, h⟩ := h
  unfold nameE at h
  split at h
  · rename_i p e
    obtain ⟨v, h1, h2⟩ := R.e.at_ i p e
    exact ⟨v, h1, h v W H (Step.refl _ _) R h2⟩
  · rename_i p e
    obtain ⟨v, W1, h1, st, R1, rv⟩ := R.demote e
    exact ⟨v, h1, h v W1 H st R1 rv⟩
  · exact h.elim
theorem rv_int {K : PySem.W.Frag} {W : Wd} {H : Hp} {i : Int} : RV K W H (.int i) (.int i) := by unfold RV Rep; rfl
theorem rv_bl {K : PySem.W.Frag} {W : Wd} {H : Hp} {b : Bool} : RV K W H (.bl b) (.bl b) := by unfold RV Rep; rfl
theorem rv_non {K : PySem.W.Frag} {W : Wd} {H : Hp} : RV K W H .non .non := by unfold RV Rep; rfl
theorem rv_str {K : PySem.W.Frag} {W : Wd} {H : Hp} {x : Str} : RV K W H (.str x) (.str x) := by unfold RV Rep; rfl
theorem px_const {e : Expr} {p : PV} {v : V} (h : PE X e (tC v)) (r : ∀ K W H, RV K W H p v) : PX X Z e (constE p) := by
  refine ⟨PE_imp h fun σ H Q h => ?_⟩
  obtain ⟨W, s, R, h⟩ := h
  exact h v W H (Step.refl _ _) R (r _ _ _)
theorem px_int {i j pos} : PX X Z (.Constant (.int i) j pos) (constE (.int i)) := px_const pe_int fun _ _ _ => rv_int
theorem px_bl {i j pos} : PX X Z (.Constant (.bool i) j pos) (constE (.bl i)) := px_const pe_bl fun _ _ _ => rv_bl
theorem px_non {j pos} : PX X Z (.Constant .none j pos) (constE .non) := px_const pe_non fun _ _ _ => rv_non
theorem px_str {i j pos} : PX X Z (.Constant (.str i) j pos) (constE (.str i)) := px_const pe_str fun _ _ _ => rv_str
/-- a def or a class of the module, as a value -/
theorem px_fn {x : Str} {a : Addr} {pos : Pos} (hg : Gl X x) (hm : X.mg x = some (.ref a)) (hd : (x == ("__debug__" : Str)) = false := by decide) : PX X Z (.Name x pos) (constE (.fn a)) :=
  px_const (pe_glob (v := .ref a) hg hm rfl hd) fun _ _ _ => by unfold RV Rep; rfl
/-- a constant of the module that is an int, a text .. -/
theorem px_globi {x : Str} {i : Int} {t : Tok} {pos : Pos} (hg : Gl X x) (hm : X.mg x = some (.int i t)) (hd : (x == ("__debug__" : Str)) = false := by decide) : PX X Z (.Name x pos) (constE (.int i)) :=
  px_const (pe_glob (v := .int i) hg hm ⟨_, rfl⟩ hd) fun _ _ _ => rv_int
/-! ### owned and plain -/
def plainE (f : OM) : EM := fun s => (f s).bind fun p s1 => .ok p.1 s1
def sharedE (f : EM) : OM := fun s => (f s).bind fun p s1 => .ok (p, false) s1
theorem px_of {e : Expr} {f : OM} (h : PO X Z e f) : PX X Z e (plainE f) := by
  refine ⟨PE_imp h.pe fun σ H Q h => ?_⟩
  obtain ⟨W, s, R, h⟩ := h
  refine ⟨W, s, R, Post.bind h fun a s1 b W1 H1 _ st R1 r q => ?_⟩
  obtain ⟨p, fr⟩ := a
  obtain ⟨W2, st2, R2, rv⟩ := rO_demote R1 r
  exact q b W2 H1 st2 R2 rv
theorem po_of {e : Expr} {f : EM} (h : PX X Z e f) : PO X Z e (sharedE f) := by
  refine ⟨PE_imp h.pe fun σ H Q h => ?_⟩
  obtain ⟨W, s, R, h⟩ := h
  exact ⟨W, s, R, Post.bind h fun a s1 b W1 H1 _ st R1 r q => q b W1 H1 (Step.refl _ _) R1 r⟩
/-! ### argument lists, displays -/
def nilA : AM := fun s => .ok [] s
def consA (f : EM) (g : AM) : AM := fun s => (f s).bind fun p s1 => (g s1).bind fun ps s2 => .ok (p :: ps) s2
theorem pa_nilX : PAX X Z [] nilA := ⟨PA_imp pa_nil fun σ H Q ⟨W, s, R, h⟩ => h [] W H (Step.refl _ _) R (show Reps X.K W.S (W.m H) [] [] from reps_nil)⟩
theorem pa_consX {e : Expr} {es : List Expr} {f : EM} {g : AM} (ha : PX X Z e f) (hr : PAX X Z es g) (hs : starEach (e :: es) X.env = (false, eval e X.env) :: starEach es X.env := by rfl) : PAX X Z (e :: es) (consA f g) := by
  refine ⟨PA_imp (L2.pa_cons ha.pe hr.pa hs) fun σ H Q ⟨W, s, R, h⟩ => ?_⟩
  refine ⟨W, s, R, Post.bind h fun p s1 v W1 H1 _ st R1 rv q => ⟨W1, s1, R1, Post.bind q fun ps s2 vs W2 H2 _ st2 R2 rvs q2 => q2 _ W2 H2 (Step.refl _ _) R2 (reps_cons (st2.rv rv) rvs)⟩⟩
def lineOk (n : Nat) : Bool := decide (n ≤ sizeLine)
def tupE (f : AM) : EM := fun s => (f s).bind fun ps s1 => if lineOk ps.length then .ok (.tup false ps) s1 else .bad
def lstE (f : AM) : OM := fun s => (f s).bind fun ps s1 => if lineOk ps.length then .ok (.lst ps, true) s1 else .bad
theorem new_tup {c : Bool} {K : PySem.W.Frag} {W : Wd} {H : Hp} {p : Addr} {ps : List PV} {vs : List V} (hp : H p = none) (hL : p ∉ W.L) (r : RVs K W H ps vs) : RV K W (upd H p (.tup vs)) (.tup c ps) (.ref p) := by
  exact rep_tup_mk (msk_some.mpr ⟨hL, upd_same⟩) ((Step.alloc hp (Wd.notL.mp hL).2.2).rvs r)
theorem RSt.newL {K : PySem.W.Frag} {W : Wd} {H : Hp} {s : DS} {σ : L2.St} (R : RSt K W H s σ) {p : Addr} (hp : H p = none) : ∃ W1, Step W H W1 H ∧ RSt K W1 H s σ ∧ p ∉ W1.L := by
  refine ⟨W.drop p, Step.drop, ⟨⟨R.e.len, fun i q h => ?_, fun i q h => ?_, R.e.inj⟩, R.t.drop p⟩, ?_⟩
  · obtain ⟨w, h1, h2⟩ := R.e.at_ i q h
    exact ⟨w, h1, Step.drop.rv h2⟩
  · obtain ⟨b, h1, h2, h3⟩ := R.e.ow i q h
    obtain ⟨o, ho⟩ := h3.there
    exact ⟨b, h1, Wd.drop_in.mpr ⟨h2, ne_of_none ho hp⟩, h3.step Step.drop rfl⟩
  · exact Wd.notL.mpr ⟨fun z => (Wd.drop_in.mp z).2 rfl, R.nS hp, R.nP hp⟩
/-- a new plain object -/
theorem Post.newP {σ : L2.St} {W : Wd} {H : Hp} {K : PySem.W.Frag} {s : DS} {p : Addr} {o : HO} {q : PV} {Q : VK} (R : RSt K W H s σ) (hp : H p = none) (h : Post rE K Z σ W H (.ok q s) Q)
    (r : ∀ W1, Step W H W1 H → p ∉ W1.L → RV K W1 (upd H p o) q (.ref p)) : Q (.ref p) (upd H p o) := by
  obtain ⟨W1, st, R1, hL⟩ := R.newL hp
  exact h _ W1 _ (st.trans (Step.alloc hp (R1.nP hp))) (R1.alloc hp) (r W1 st hL)
/-- a new owned object -/
theorem Post.newO {σ : L2.St} {W : Wd} {H : Hp} {K : PySem.W.Frag} {s : DS} {p : Addr} {o : HO} {q : PV} {Q : VK} (R : RSt K W H s σ) (hp : H p = none) (h : Post rO K Z σ W H (.ok (q, true) s) Q)
    (r : Con K (W.own p) (upd H p o) q p) : Q (.ref p) (upd H p o) := by
  refine h _ (W.own p) _ (Step.allocO hp (R.nP hp)) (R.allocO hp) ⟨p, rfl, List.mem_cons_self, r, fun i q' e z => ?_⟩
  obtain ⟨a, h1, h2, h3⟩ := R.e.ow i q' e
  obtain ⟨o', ho⟩ := h3.there
  rw [h1] at z
  cases z
  rw [hp] at ho
  cases ho
theorem px_tup {es : List Expr} {f : AM} {x1 pos} (h : PAX X Z es f) : PX X Z (.Tuple es x1 pos) (tupE f) := by
  refine ⟨PE_imp (pe_tup h.pa) fun σ H Q ⟨W, s, R, h⟩ => ⟨W, s, R, Post.bind h fun ps s1 vs W1 H1 _ st R1 r q => ?_⟩⟩
  have r : RVs X.K W1 H1 ps vs := r
  by_cases hl : lineOk ps.length = true
  · rw [if_pos hl] at q
    refine ⟨by rw [r.len]; exact of_decide_eq_true hl, fun p hp => Post.newP R1 hp q fun W2 st2 hL => new_tup hp hL (st2.rvs r)⟩
  · rw [if_neg hl] at q
    exact q.elim
theorem po_lst {es : List Expr} {f : AM} {pos} (h : PAX X Z es f) : PO X Z (.List es pos) (lstE f) := by
  refine ⟨PE_imp (pe_lst h.pa) fun σ H Q ⟨W, s, R, h⟩ => ⟨W, s, R, Post.bind h fun ps s1 vs W1 H1 _ st R1 r q => ?_⟩⟩
  have r : RVs X.K W1 H1 ps vs := r
  by_cases hl : lineOk ps.length = true
  · rw [if_pos hl] at q
    exact ⟨by rw [r.len]; exact of_decide_eq_true hl, fun p hp => Post.newO R1 hp q ⟨vs, upd_same, (Step.allocO hp (R1.nP hp)).rvs r⟩⟩
  · rw [if_neg hl] at q
    exact q.elim
end
end DR
/-! DR: operators, comparisons, tests. -/
namespace DR
open PySem PySem.Spec PyProof.Rows L2
/-! ### data that == takes -/
mutual
def toD : PV → Option PyData
  | .non => some .none
  | .bl b => some (.bool b)
  | .int i => some (.int i)
  | .str x => some (.str x)
  | .tup _ ps => (toDs ps).map .tuple
  | .lst ps => (toDs ps).map .list
  | _ => none
def toDs : List PV → Option (List PyData)
  | [] => some []
  | p :: ps => match toD p, toDs ps with
    | some d, some ds => some (d :: ds)
    | _, _ => none
end
section
variable {K : PySem.W.Frag} {cs : List Addr} {H H' : Hp}
mutual
theorem rep_dp (sub : Same H H') : ∀ (p : PV) (v : V) (d : PyData), Rep K cs H p v → toD p = some d → Dp K H' v d
  | .non, v, d, r, e => by
    unfold Rep at r
    simp only [toD, Option.some.injEq] at e
    subst r e
    exact .non
  | .bl b, v, d, r, e => by
    unfold Rep at r
    simp only [toD, Option.some.injEq] at e
    subst r e
    exact .bl b
  | .int b, v, d, r, e => by
    unfold Rep at r
    simp only [toD, Option.some.injEq] at e
    subst r e
    exact .int b
  | .str b, v, d, r, e => by
    unfold Rep at r
    simp only [toD, Option.some.injEq] at e
    subst r e
    exact .str b
  | .tup _ ps, v, d, r, e => by
    replace r := rep_tup r
    simp only [toD, Option.map_eq_some_iff] at e
    obtain ⟨a, vs, rfl, h1, h2⟩ := r
    obtain ⟨ds, h3, rfl⟩ := e
    exact .tup (sqT_mono sub h1) (reps_dp sub ps vs ds h2 h3)
  | .lst ps, v, d, r, e => by
    unfold Rep at r
    simp only [toD, Option.map_eq_some_iff] at e
    obtain ⟨a, vs, rfl, h1, h2⟩ := r
    obtain ⟨ds, h3, rfl⟩ := e
    exact .lst (SqL.of (sub _ _ h1)) (reps_dp sub ps vs ds h2 h3)
  | .ty _, _, _, _, e => by simp [toD] at e
  | .fn _, _, _, _, e => by simp [toD] at e
  | .cell _, _, _, _, e => by simp [toD] at e
  | .scr _, _, _, _, e => by simp [toD] at e
  | .dK _, _, _, _, e => by simp [toD] at e
  | .dT _, _, _, _, e => by simp [toD] at e
  | .ins _ _, _, _, _, e => by simp [toD] at e
theorem reps_dp (sub : Same H H') : ∀ (ps : List PV) (vs : List V) (ds : List PyData), Reps K cs H ps vs → toDs ps = some ds → DpAll K H' vs ds
  | [], vs, ds, r, e => by
    unfold Reps at r
    simp only [toDs, Option.some.injEq] at e
    subst r e
    exact .nil
  | p :: ps, vs, ds, r, e => by
    unfold Reps at r
    obtain ⟨v, w, rfl, h1, h2⟩ := r
    simp only [toDs] at e
    cases e1 : toD p with
    | none => rw [e1] at e; simp at e
    | some d =>
      cases e2 : toDs ps with
      | none => rw [e1, e2] at e; simp at e
      | some ds' =>
        rw [e1, e2] at e
        simp only [Option.some.injEq] at e
        subst e
        exact .cons (rep_dp sub p v d h1 e1) (reps_dp sub ps w ds' h2 e2)
end
end
/-- data of at most sixty-four deep -/
def okD (p : PV) : Bool := match toD p with
  | some d => SeqAt.shaped d
  | none => false
/-- Python's == over data -/
def eqD (p q : PV) : Bool := match toD p, toD q with
  | some d, some e => PyData.eqv d e
  | _, _ => false
abbrev B2 := PV → PV → Option (PV × Bool)
/-- what a two-place operator is worth -/
def BinR (X : Cx) (f : Value → Value → Sem Value) (g : B2) : Prop :=
  ∀ (Z : WX), ∃ r : R2, OpR X f r ∧ ∀ (W : Wd) (H : Hp) (s : DS) (σ : L2.St) (p q : PV) (x y : V) (res : PV × Bool) (Q : VK), RSt X.K W H s σ → RV X.K W H p x → RV X.K W H q y → g p q = some res → Post rO X.K Z σ W H (.ok res s) Q → r x y H Q
def binO (g : B2) (fa fb : EM) : OM := fun s => (fa s).bind fun p s1 => (fb s1).bind fun q s2 => match g p q with
  | some r => .ok r s2
  | none => .bad
theorem OpR_or {X : Cx} {f : Value → Value → Sem Value} {r r' : R2} (h : OpR X f r) (h' : OpR X f r') : OpR X f (fun x y H Q => r x y H Q ∨ r' x y H Q) := fun pins s σ H x y v u Q I rx ry q => q.elim (h pins s σ H x y v u Q I rx ry) (h' pins s σ H x y v u Q I rx ry)
theorem BinR.or {X : Cx} {f : Value → Value → Sem Value} {g g' : B2} (h : BinR X f g) (h' : BinR X f g') : BinR X f (fun p q => (g p q).or (g' p q)) := fun Z => by
  obtain ⟨r, o, k⟩ := h Z
  obtain ⟨r', o', k'⟩ := h' Z
  refine ⟨_, OpR_or o o', fun W H s σ p q x y res Q R rx ry e po => ?_⟩
  replace e : (g p q).or (g' p q) = some res := e
  cases e1 : g p q with
  | some z =>
    rw [e1] at e
    exact .inl (k W H s σ p q x y res Q R rx ry (by rw [e1]; simpa using e) po)
  | none =>
    rw [e1] at e
    exact .inr (k' W H s σ p q x y res Q R rx ry (by simpa using e) po)
section
variable {X : Cx} {Z : WX} {a b : Expr} {fa fb : EM} {pos : Pos} {g : B2}
theorem tO_bin {r : R2} (k : ∀ (W : Wd) (H : Hp) (s : DS) (σ : L2.St) (p q : PV) (x y : V) (res : PV × Bool) (Q : VK), RSt X.K W H s σ → RV X.K W H p x → RV X.K W H q y → g p q = some res → Post rO X.K Z σ W H (.ok res s) Q → r x y H Q)
    (σ : L2.St) (H : Hp) (Q : VK) (h : tO X.K Z (binO g fa fb) σ H Q) : tOp r (tE X.K Z fa) (tE X.K Z fb) σ H Q := by
  obtain ⟨W, s, R, h⟩ := h
  refine ⟨W, s, R, Post.bind h fun p s1 x W1 H1 _ st R1 rx q => ⟨W1, s1, R1, Post.bind q fun p2 s2 y W2 H2 _ st2 R2 ry q2 => ?_⟩⟩
  cases e : g p p2 with
  | none => simp only [e] at q2; exact q2.elim
  | some res =>
    simp only [e] at q2
    exact k W2 H2 s2 σ p p2 x y res Q R2 (st2.rv rx) ry e q2
theorem po_bin {op : Operator} (hg : BinR X (binaryOp op) g) (ha : PX X Z a fa) (hb : PX X Z b fb) : PO X Z (.BinOp a op b pos) (binO g fa fb) := by
  obtain ⟨r, o, k⟩ := hg Z
  exact ⟨PE_imp (L2.pe_op o ha.pe hb.pe) fun σ H Q h => tO_bin k σ H Q h⟩
/-- an operator with plain answers -/
abbrev P2 := PV → PV → Option PV
def p2 (g : P2) : B2 := fun p q => (g p q).map fun r => (r, false)
def binE (g : P2) (fa fb : EM) : EM := plainE (binO (p2 g) fa fb)
theorem px_bin {op : Operator} {g : P2} (hg : BinR X (binaryOp op) (p2 g)) (ha : PX X Z a fa) (hb : PX X Z b fb) : PX X Z (.BinOp a op b pos) (binE g fa fb) := px_of (po_bin hg ha hb)
theorem px_cmp {op : CmpOp} {g : P2} (hg : BinR X (compareOp op) (p2 g)) (ha : PX X Z a fa) (hb : PX X Z b fb) (hm : behindInMarks op b = false := by first | exact nomark _ | rfl | with_unfolding_all rfl) : PX X Z (.Compare a [op] [b] pos) (binE g fa fb) := by
  obtain ⟨r, o, k⟩ := hg Z
  exact px_of ⟨PE_imp (L2.pe_cmpR o ha.pe hb.pe hm) fun σ H Q h => tO_bin k σ H Q h⟩
/-- a rule over plain values, by their trees -/
theorem BinR.plain {f : Value → Value → Sem Value} {r : R2} {g : P2} (o : OpR X f r) (k : ∀ (W : Wd) (H : Hp) (p q : PV) (x y : V) (res : PV) (Q : VK), RV X.K W H p x → RV X.K W H q y → g p q = some res → (∀ v, RV X.K W H res v → Q v H) → r x y H Q) : BinR X f (p2 g) := fun Z => by
  refine ⟨r, o, fun W H s σ p q x y res Q R rx ry e po => ?_⟩
  simp only [p2, Option.map_eq_some_iff] at e
  obtain ⟨z, e, rfl⟩ := e
  exact k W H p q x y z Q rx ry e fun v rv => po v W H (Step.refl _ _) R rv
/-- two ints -/
def ii (C : Int → Int → Bool) (g : Int → Int → PV) : P2 := fun p q => match p, q with
  | .int i, .int j => if C i j then some (g i j) else none
  | _, _ => none
theorem ii_some {C : Int → Int → Bool} {g : Int → Int → PV} {p q r : PV} (e : ii C g p q = some r) : ∃ i j, p = .int i ∧ q = .int j ∧ C i j = true ∧ r = g i j := by
  unfold ii at e
  split at e
  · rename_i i j
    split at e
    · rename_i h
      exact ⟨i, j, rfl, rfl, h, (Option.some.inj e).symm⟩
    · cases e
  · cases e
theorem rv_int_inv {K : PySem.W.Frag} {W : Wd} {H : Hp} {i : Int} {v : V} (r : RV K W H (.int i) v) : v = .int i := by unfold RV Rep at r; exact r
theorem rv_bl_inv {K : PySem.W.Frag} {W : Wd} {H : Hp} {i : Bool} {v : V} (r : RV K W H (.bl i) v) : v = .bl i := by unfold RV Rep at r; exact r
theorem rv_str_inv {K : PySem.W.Frag} {W : Wd} {H : Hp} {i : Str} {v : V} (r : RV K W H (.str i) v) : v = .str i := by unfold RV Rep at r; exact r
theorem rE_bl {K : PySem.W.Frag} {σ : L2.St} {W : Wd} {H : Hp} {s : DS} {i : Bool} : rE K σ W H s (.bl i) (.bl i) := rv_bl (K := K) (W := W) (H := H)
theorem rE_int {K : PySem.W.Frag} {σ : L2.St} {W : Wd} {H : Hp} {s : DS} {i : Int} : rE K σ W H s (.int i) (.int i) := rv_int (K := K) (W := W) (H := H)
theorem rE_bl_inv {K : PySem.W.Frag} {σ : L2.St} {W : Wd} {H : Hp} {s : DS} {i : Bool} {v : V} (r : rE K σ W H s (.bl i) v) : v = .bl i := rv_bl_inv (K := K) (W := W) (H := H) r
theorem rE_int_inv {K : PySem.W.Frag} {σ : L2.St} {W : Wd} {H : Hp} {s : DS} {i : Int} {v : V} (r : rE K σ W H s (.int i) v) : v = .int i := rv_int_inv (K := K) (W := W) (H := H) r
theorem rv_tup_inv {K : PySem.W.Frag} {W : Wd} {H : Hp} {c : Bool} {ps : List PV} {v : V} (r : RV K W H (.tup c ps) v) : ∃ a vs, v = .ref a ∧ SqT K H a vs ∧ RVs K W H ps vs := by
  obtain ⟨a, vs, e, h1, h2⟩ := rep_tup r
  exact ⟨a, vs, e, sqT_mono (msk_sub _ _) h1, h2⟩
theorem rv_lst_inv {K : PySem.W.Frag} {W : Wd} {H : Hp} {ps : List PV} {v : V} (r : RV K W H (.lst ps) v) : ∃ a vs, v = .ref a ∧ a ∉ W.L ∧ H a = some (.lst vs) ∧ RVs K W H ps vs := by
  unfold RV Rep at r
  obtain ⟨a, vs, e, h1, h2⟩ := r
  obtain ⟨h3, h4⟩ := msk_some.mp h1
  exact ⟨a, vs, e, h3, h4, h2⟩
theorem BinR.ints {f : Value → Value → Sem Value} {C' : Int → Int → Prop} {C : Int → Int → Bool} {g : Int → Int → V} {g' : Int → Int → PV} (o : OpR X f (rI C' g)) (hC : ∀ i j, C i j = true → C' i j) (hg : ∀ W H i j, RV X.K W H (g' i j) (g i j)) : BinR X f (p2 (ii C g')) :=
  BinR.plain o fun W H p q x y res Q rx ry e k => by
    obtain ⟨i, j, rfl, rfl, hc, rfl⟩ := ii_some e
    exact ⟨i, j, rv_int_inv rx, rv_int_inv ry, hC i j hc, k _ (hg W H i j)⟩
theorem BinR.ints0 {f : Value → Value → Sem Value} {g : Int → Int → V} {g' : Int → Int → PV} (o : OpR X f (rI0 g)) (hg : ∀ W H i j, RV X.K W H (g' i j) (g i j)) : BinR X f (p2 (ii (fun _ _ => true) g')) :=
  BinR.plain o fun W H p q x y res Q rx ry e k => by
    obtain ⟨i, j, rfl, rfl, hc, rfl⟩ := ii_some e
    exact ⟨i, j, rv_int_inv rx, rv_int_inv ry, k _ (hg W H i j)⟩
def subI : P2 := ii (fun _ _ => true) fun i j => .int (i - j)
theorem br_sub : BinR X (binaryOp .Sub) (p2 subI) := BinR.ints0 op_sub fun _ _ _ _ => rv_int
def fdivI : P2 := ii (fun _ j => decide (0 < j ∧ j < 1073741824)) fun i j => .int (i / j)
theorem br_fdiv : BinR X (binaryOp .FloorDiv) (p2 fdivI) := BinR.ints op_fdiv (fun i j h => show 0 < j ∧ j < 1073741824 from of_decide_eq_true h) fun _ _ _ _ => rv_int
def modI : P2 := ii (fun _ j => decide (0 < j)) fun i j => .int (i % j)
theorem br_mod : BinR X (binaryOp .Mod) (p2 modI) := BinR.ints op_mod (fun _ _ h => of_decide_eq_true h) fun _ _ _ _ => rv_int
def powI : P2 := ii (fun i j => decide (0 ≤ j ∧ j ≤ 1000000 ∧ i.natAbs < 2 ^ 64)) fun i j => .int (i ^ j.toNat)
theorem br_pow : BinR X (binaryOp .Pow) (p2 powI) := BinR.ints op_pow (fun i j h => show 0 ≤ j ∧ j ≤ 1000000 ∧ i.natAbs < 2 ^ 64 from of_decide_eq_true h) fun _ _ _ _ => rv_int
def mulI : P2 := ii (fun i j => decide ((-18446744073709551616 < i ∧ i < 18446744073709551616) ∨ (-18446744073709551616 < j ∧ j < 18446744073709551616))) fun i j => .int (i * j)
theorem br_mulI : BinR X (binaryOp .Mult) (p2 mulI) := BinR.ints op_mul (fun _ _ h => by
  have h := of_decide_eq_true h
  unfold CMul
  omega) fun _ _ _ _ => rv_int
def cmpI (c : Int → Int → Bool) : P2 := ii (fun _ _ => true) fun i j => .bl (c i j)
abbrev ltI : P2 := cmpI fun i j => decide (i < j)
abbrev leI : P2 := cmpI fun i j => decide (i ≤ j)
abbrev gtI : P2 := cmpI fun i j => decide (j < i)
abbrev geI : P2 := cmpI fun i j => decide (j ≤ i)
theorem br_lt : BinR X (compareOp .Lt) (p2 ltI) := BinR.ints0 op_lt fun _ _ _ _ => rv_bl
theorem br_le : BinR X (compareOp .LtE) (p2 leI) := BinR.ints0 op_le fun _ _ _ _ => rv_bl
theorem br_gt : BinR X (compareOp .Gt) (p2 gtI) := BinR.ints0 op_gt fun _ _ _ _ => rv_bl
theorem br_ge : BinR X (compareOp .GtE) (p2 geI) := BinR.ints0 op_ge fun _ _ _ _ => rv_bl
/-- == and != over data -/
def eqG (n : Bool) : P2 := fun p q => if okD p && okD q then some (.bl (n != eqD p q)) else none
theorem okD_data {p : PV} (h : okD p = true) : ∃ d, toD p = some d ∧ SeqAt.shaped d = true := by
  unfold okD at h
  split at h
  · rename_i d e
    exact ⟨d, e, h⟩
  · cases h
theorem eqG_some {n : Bool} {p q r : PV} (e : eqG n p q = some r) : ∃ d d', toD p = some d ∧ toD q = some d' ∧ SeqAt.shaped d = true ∧ SeqAt.shaped d' = true ∧ r = .bl (n != PyData.eqv d d') := by
  unfold eqG at e
  split at e
  · rename_i h
    rw [Bool.and_eq_true] at h
    obtain ⟨d, e1, s1⟩ := okD_data h.1
    obtain ⟨d', e2, s2⟩ := okD_data h.2
    refine ⟨d, d', e1, e2, s1, s2, ?_⟩
    rw [← Option.some.inj e]
    simp [eqD, e1, e2]
  · cases e
theorem br_eq (hu : X.A.units + 64 < cLine) : BinR X (compareOp .Eq) (p2 (eqG false)) := BinR.plain (op_eqD hu) fun W H p q x y res Q rx ry e k => by
  obtain ⟨d, d', e1, e2, s1, s2, rfl⟩ := eqG_some e
  refine ⟨d, d', rep_dp (msk_sub _ _) p x d rx e1, rep_dp (msk_sub _ _) q y d' ry e2, s1, s2, ?_⟩
  have := k (.bl (PyData.eqv d d')) (by simp only [Bool.false_bne]; exact rv_bl)
  exact this
theorem br_ne (hu : X.A.units + 64 < cLine) : BinR X (compareOp .NotEq) (p2 (eqG true)) := BinR.plain (op_neD hu) fun W H p q x y res Q rx ry e k => by
  obtain ⟨d, d', e1, e2, s1, s2, rfl⟩ := eqG_some e
  refine ⟨d, d', rep_dp (msk_sub _ _) p x d rx e1, rep_dp (msk_sub _ _) q y d' ry e2, s1, s2, ?_⟩
  have := k (.bl (!PyData.eqv d d')) (by simp only [Bool.true_bne]; exact rv_bl)
  exact this
/-- a + b -/
def addStr : P2 := fun p q => match p, q with
  | .str i, .str j => if lineOk (i.length + j.length) then some (.str (i ++ j)) else none
  | _, _ => none
theorem br_addStr : BinR X (binaryOp .Add) (p2 addStr) := BinR.plain op_add_str fun W H p q x y res Q rx ry e k => by
  unfold addStr at e
  split at e
  · rename_i i j
    split at e
    · rename_i h
      cases e
      exact ⟨i, j, rv_str_inv rx, rv_str_inv ry, of_decide_eq_true h, k _ rv_str⟩
    · cases e
  · cases e
def addI : P2 := ii (fun _ _ => true) fun i j => .int (i + j)
theorem br_addI : BinR X (binaryOp .Add) (p2 addI) := BinR.ints0 op_add fun _ _ _ _ => rv_int
def addL : B2 := fun p q => match p, q with
  | .lst a, .lst b => if lineOk (a.length + b.length) then some (.lst (a ++ b), true) else none
  | _, _ => none
theorem br_addL : BinR X (binaryOp .Add) addL := fun Z => by
  refine ⟨_, op_cat, fun W H s σ p q x y res Q R rx ry e po => ?_⟩
  unfold addL at e
  split at e
  · rename_i u w
    split at e
    · rename_i h
      cases e
      obtain ⟨a1, vs, rfl, n1, h1, g1⟩ := rv_lst_inv rx
      obtain ⟨a2, ws, rfl, n2, h2, g2⟩ := rv_lst_inv ry
      refine ⟨a1, a2, vs, ws, rfl, rfl, h1, h2, by rw [g1.len, g2.len]; exact of_decide_eq_true h, fun p hp => Post.newO R hp po ⟨_, upd_same, (Step.allocO hp (R.nP hp)).rvs (g1.app g2)⟩⟩
    · cases e
  · cases e
def addT : P2 := fun p q => match p, q with
  | .tup c a, .tup d b => if lineOk (a.length + b.length) then some (.tup (c || d) (a ++ b)) else none
  | _, _ => none
theorem br_addT : BinR X (binaryOp .Add) (p2 addT) := fun Z => by
  refine ⟨_, op_catA, fun W H s σ p q x y res Q R rx ry e po => ?_⟩
  simp only [p2, Option.map_eq_some_iff] at e
  obtain ⟨z, e, rfl⟩ := e
  unfold addT at e
  split at e
  · rename_i c u d w
    split at e
    · rename_i h
      cases e
      obtain ⟨a1, vs, e1, h1, g1⟩ := rv_tup_inv rx
      obtain ⟨a2, ws, e2, h2, g2⟩ := rv_tup_inv ry
      refine ⟨a1, a2, vs, ws, e1, e2, h1, h2, by rw [g1.len, g2.len]; exact of_decide_eq_true h, fun hz => ?_, fun _ hz => ?_, fun _ _ p hp => ?_⟩
      · have hu : u = [] := List.eq_nil_of_length_eq_zero (by rw [← g1.len, hz]; rfl)
        subst hu
        rw [← e2]
        exact po y W H (Step.refl _ _) R (rep_tup_up (c := d) (by intro h; rw [h]; exact Bool.or_true _) ry)
      · have hw : w = [] := List.eq_nil_of_length_eq_zero (by rw [← g2.len, hz]; rfl)
        subst hw
        rw [← e1]
        exact po x W H (Step.refl _ _) R (by rw [List.append_nil]; exact rep_tup_up (c := c) (by intro h; rw [h]; exact Bool.true_or _) rx)
      · obtain ⟨W1, st, R1, hL⟩ := R.newL hp
        exact po _ W1 _ (st.trans (Step.alloc hp (R1.nP hp))) (R1.alloc hp) (new_tup hp hL (st.rvs (g1.app g2)))
    · cases e
  · cases e
/-- a + b, all kinds -/
def addO : B2 := fun p q => (p2 addI p q).or ((addL p q).or ((p2 addT p q).or (p2 addStr p q)))
theorem br_add : BinR X (binaryOp .Add) addO := br_addI.or (br_addL.or (br_addT.or br_addStr))
def mulL : B2 := fun p q => match p, q with
  | .lst a, .int k => if decide (-9223372036854775808 ≤ k ∧ k < 9223372036854775808) && lineOk (a.length * k.toNat) then some (.lst (List.replicate k.toNat a).flatten, true) else none
  | _, _ => none
theorem reps_rep {K : PySem.W.Frag} {cs : List Addr} {H : Hp} {ps : List PV} {vs : List V} (r : Reps K cs H ps vs) : ∀ n : Nat, Reps K cs H (List.replicate n ps).flatten (List.replicate n vs).flatten
  | 0 => reps_nil
  | n + 1 => by
    simp only [List.replicate_succ, List.flatten_cons]
    exact r.app (reps_rep r n)
theorem br_mulL : BinR X (binaryOp .Mult) mulL := fun Z => by
  refine ⟨_, op_rep, fun W H s σ p q x y res Q R rx ry e po => ?_⟩
  unfold mulL at e
  split at e
  · rename_i u k
    split at e
    · rename_i h
      cases e
      simp only [Bool.and_eq_true, decide_eq_true_eq] at h
      obtain ⟨a1, vs, rfl, n1, h1, g1⟩ := rv_lst_inv rx
      refine ⟨a1, k, vs, rfl, rv_int_inv ry, h1, by omega, by omega, by rw [g1.len]; exact of_decide_eq_true h.2, fun p hp => Post.newO R hp po ⟨_, upd_same, (Step.allocO hp (R.nP hp)).rvs (reps_rep g1 _)⟩⟩
    · cases e
  · cases e
def mulO : B2 := fun p q => (p2 mulI p q).or (mulL p q)
theorem br_mul : BinR X (binaryOp .Mult) mulO := br_mulI.or br_mulL
/-- is None, is not None; is of truth values -/
def isG (n : Bool) : P2 := fun p q => match p, q with
  | .bl a, .bl b => some (.bl (n != decide (a = b)))
  | .non, .non => some (.bl (!n))
  | .bl _, .non => some (.bl n) | .int _, .non => some (.bl n) | .str _, .non => some (.bl n) | .tup _ _, .non => some (.bl n) | .lst _, .non => some (.bl n) | .dK _, .non => some (.bl n) | .dT _, .non => some (.bl n)
  | _, _ => none
theorem isG_non {n : Bool} {p r : PV} {K : PySem.W.Frag} {W : Wd} {H : Hp} {x : V} (rx : RV K W H p x) (e : isG n p .non = some r) : r = .bl (n != decide (x = .non)) := by
  cases p <;> simp only [isG, Option.some.injEq] at e <;> (try cases e) <;> unfold RV Rep at rx
  · subst rx; cases n <;> rfl
  · subst rx; cases n <;> rfl
  · subst rx; cases n <;> rfl
  · subst rx; cases n <;> rfl
  · obtain ⟨a, vs, rfl, _⟩ := rx; cases n <;> rfl
  · obtain ⟨a, vs, rfl, _⟩ := rx; cases n <;> rfl
  · obtain ⟨a, vs, rfl, _⟩ := rx; cases n <;> rfl
  · obtain ⟨a, vs, rfl, _⟩ := rx; cases n <;> rfl
theorem isG_bl {n : Bool} {r : PV} {a b : Bool} (e : isG n (.bl a) (.bl b) = some r) : r = .bl (n != decide (a = b)) := by
  simp only [isG, Option.some.injEq] at e
  exact e.symm
theorem br_is : BinR X (compareOp .Is) (p2 (isG false)) := BinR.plain (OpR_or op_isN op_is_bl) fun W H p q x y res Q rx ry e k => by
  cases q with
  | non =>
    have hy : y = .non := by unfold RV Rep at ry; exact ry
    have hr := isG_non rx e
    subst hr
    exact .inl ⟨hy, k _ (by simp only [Bool.false_bne]; exact rv_bl)⟩
  | bl b =>
    cases p with
    | bl a =>
      have hr := isG_bl e
      subst hr
      exact .inr ⟨a, b, rv_bl_inv rx, rv_bl_inv ry, k _ (by simp only [Bool.false_bne]; exact rv_bl)⟩
    | _ => simp [isG] at e
  | _ => cases p <;> simp [isG] at e
theorem br_isnot : BinR X (compareOp .IsNot) (p2 (isG true)) := BinR.plain (OpR_or op_notN op_isnot_bl) fun W H p q x y res Q rx ry e k => by
  cases q with
  | non =>
    have hy : y = .non := by unfold RV Rep at ry; exact ry
    have hr := isG_non rx e
    subst hr
    exact .inl ⟨hy, k _ (by simp only [Bool.true_bne]; exact rv_bl)⟩
  | bl b =>
    cases p with
    | bl a =>
      have hr := isG_bl e
      subst hr
      exact .inr ⟨a, b, rv_bl_inv rx, rv_bl_inv ry, k _ (by simp only [Bool.true_bne]; exact rv_bl)⟩
    | _ => simp [isG] at e
  | _ => cases p <;> simp [isG] at e
/-! ### truth values -/
def toB (p : PV) (s : DS) : Re Bool := match p with
  | .bl b => .ok b s
  | _ => .bad
def testE (f : EM) : TM := fun s => (f s).bind toB
theorem toB_post {K : PySem.W.Frag} {W : Wd} {H : Hp} {s : DS} {σ : L2.St} {p : PV} {v : V} {Q : Bool → Hp → Prop} (R : RSt K W H s σ) (r : RV K W H p v) (q : Post rT K Z σ W H (toB p s) Q) : ∃ c, v = .bl c ∧ Q c H := by
  unfold toB at q
  split at q
  · rename_i b
    exact ⟨b, rv_bl_inv r, q b W H (Step.refl _ _) R rfl⟩
  · exact q.elim
theorem tT_test {f : EM} (σ : L2.St) (H : Hp) (Q : Bool → Hp → Prop) (h : tT X.K Z (testE f) σ H Q) : tB (tE X.K Z f) σ H Q := by
  obtain ⟨W, s, R, h⟩ := h
  exact ⟨W, s, R, Post.bind h fun p s1 x W1 H1 _ st R1 rx q => toB_post R1 rx q⟩
theorem pt_of {e : Expr} {f : EM} (h : PX X Z e f) (he : ∀ whole, isTrue e X.env whole = (do let v ← whole; standAt e.pos; holding [v] (truthy v)) := by intro _; rfl) : PTX X Z e (testE f) := ⟨PT_imp (L2.pt_val h.pe he) fun σ H Q h => tT_test σ H Q h⟩
theorem pt_cmp {op : CmpOp} {g : P2} (hg : BinR X (compareOp op) (p2 g)) (ha : PX X Z a fa) (hb : PX X Z b fb) (hm : behindInMarks op b = false := by first | exact nomark _ | rfl | with_unfolding_all rfl) : PTX X Z (.Compare a [op] [b] pos) (testE (binE g fa fb)) := by
  obtain ⟨r, o, k⟩ := hg Z
  refine ⟨PT_imp (L2.pt_cmpR o ha.pe hb.pe hm) fun σ H Q h => ?_⟩
  obtain ⟨W, s, R, h⟩ := h
  refine tO_bin k σ H _ ⟨W, s, R, ?_⟩
  unfold testE binE plainE at h
  cases e : binO (p2 g) fa fb s with
  | ok z s1 =>
    rw [e] at h
    intro v W1 H1 st R1 ro
    obtain ⟨p, fr⟩ := z
    obtain ⟨W2, st2, R2, rv⟩ := rO_demote R1 ro
    exact toB_post R2 rv (Post.step h (st.trans st2))
  | exc x s1 => rw [e] at h; exact h
  | bad => rw [e] at h; exact h
/-- a op b op' c -/
def chainE (g g' : P2) (fa fb fc : EM) : EM := fun s => (fa s).bind fun p s1 => (fb s1).bind fun q s2 => match g p q with
  | some (.bl true) => (fc s2).bind fun r s3 => match g' q r with
    | some z => .ok z s3
    | none => .bad
  | some (.bl false) => .ok (.bl false) s2
  | _ => .bad
theorem tE_chain {g g' : P2} {r r' : R2} {fc : EM} (k : ∀ (W : Wd) (H : Hp) (s : DS) (σ : L2.St) (p q : PV) (x y : V) (res : PV × Bool) (Q : VK), RSt X.K W H s σ → RV X.K W H p x → RV X.K W H q y → p2 g p q = some res → Post rO X.K Z σ W H (.ok res s) Q → r x y H Q)
    (k' : ∀ (W : Wd) (H : Hp) (s : DS) (σ : L2.St) (p q : PV) (x y : V) (res : PV × Bool) (Q : VK), RSt X.K W H s σ → RV X.K W H p x → RV X.K W H q y → p2 g' p q = some res → Post rO X.K Z σ W H (.ok res s) Q → r' x y H Q)
    (σ : L2.St) (H : Hp) (Q : VK) (h : tE X.K Z (chainE g g' fa fb fc) σ H Q) : tChain r r' (tE X.K Z fa) (tE X.K Z fb) (tE X.K Z fc) σ H Q := by
  obtain ⟨W, s, R, h⟩ := h
  refine ⟨W, s, R, Post.bind h fun p s1 x W1 H1 _ st R1 rx q => ⟨W1, s1, R1, Post.bind q fun p2 s2 y W2 H2 _ st2 R2 ry q2 => ?_⟩⟩
  cases e : g p p2 with
  | none => simp only [e] at q2; exact q2.elim
  | some z =>
    refine k W2 H2 s2 σ p p2 x y (z, false) _ R2 (st2.rv rx) ry (by simp [DR.p2, e]) fun v W3 H3 st3 R3 rz => ?_
    have rz : RV X.K W3 H3 z v := rz
    cases z with
    | bl c =>
      simp only [e] at q2
      refine ⟨c, rv_bl_inv rz, ?_⟩
      cases c with
      | true =>
        rw [if_pos rfl]
        refine ⟨W3, s2, R3, Post.bind (Post.step q2 st3) fun p3 s4 w W4 H4 _ st4 R4 rw' q4 => ?_⟩
        cases e4 : g' p2 p3 with
        | none => simp only [e4] at q4; exact q4.elim
        | some z4 =>
          simp only [e4] at q4
          exact k' W4 H4 s4 σ p2 p3 y w (z4, false) Q R4 ((st3.trans st4).rv ry) rw' (by simp [DR.p2, e4]) q4
      | false =>
        rw [if_neg (by decide)]
        exact Post.step q2 st3 _ W3 H3 (Step.refl _ _) R3 rE_bl
    | _ => simp only [e] at q2; exact q2.elim
theorem px_chain {op op' : CmpOp} {g g' : P2} {c : Expr} {fc : EM} (hg : BinR X (compareOp op) (p2 g)) (hg' : BinR X (compareOp op') (p2 g')) (ha : PX X Z a fa) (hb : PX X Z b fb) (hc : PX X Z c fc) (hm : lastMarks [op, op'] [b, c] = false := by with_unfolding_all rfl) :
    PX X Z (.Compare a [op, op'] [b, c] pos) (chainE g g' fa fb fc) := by
  obtain ⟨r, o, k⟩ := hg Z
  obtain ⟨r', o', k'⟩ := hg' Z
  exact ⟨PE_imp (L2.pe_chain o o' ha.pe hb.pe hc.pe hm) fun σ H Q h => tE_chain k k' σ H Q h⟩
theorem pt_chain {op op' : CmpOp} {g g' : P2} {c : Expr} {fc : EM} (hg : BinR X (compareOp op) (p2 g)) (hg' : BinR X (compareOp op') (p2 g')) (ha : PX X Z a fa) (hb : PX X Z b fb) (hc : PX X Z c fc) (hm : lastMarks [op, op'] [b, c] = false := by with_unfolding_all rfl) :
    PTX X Z (.Compare a [op, op'] [b, c] pos) (testE (chainE g g' fa fb fc)) := by
  obtain ⟨r, o, k⟩ := hg Z
  obtain ⟨r', o', k'⟩ := hg' Z
  refine ⟨PT_imp (L2.pt_chain o o' ha.pe hb.pe hc.pe hm) fun σ H Q h => ?_⟩
  obtain ⟨W, s, R, h⟩ := h
  refine tE_chain k k' σ H _ ⟨W, s, R, Post.bind (R := rE) h fun p s1 v W1 H1 _ st R1 rv q => toB_post R1 rv q⟩
/-! ### and, or, not, if .. else -/
def andE (f g : EM) : EM := fun s => (f s).bind fun p s1 => match p with
  | .bl true => g s1
  | .bl false => .ok (.bl false) s1
  | _ => .bad
def orE (f g : EM) : EM := fun s => (f s).bind fun p s1 => match p with
  | .bl true => .ok (.bl true) s1
  | .bl false => g s1
  | _ => .bad
def notE (f : EM) : EM := fun s => (f s).bind fun p s1 => match p with
  | .bl b => .ok (.bl (!b)) s1
  | _ => .bad
def andT (f g : TM) : TM := fun s => (f s).bind fun b s1 => if b = true then g s1 else .ok false s1
def orT (f g : TM) : TM := fun s => (f s).bind fun b s1 => if b = true then .ok true s1 else g s1
def notT (f : TM) : TM := fun s => (f s).bind fun b s1 => .ok (!b) s1
def ifE (t : TM) (f g : EM) : EM := fun s => (t s).bind fun b s1 => if b = true then f s1 else g s1
def ifO (t : TM) (f g : OM) : OM := fun s => (t s).bind fun b s1 => if b = true then f s1 else g s1
variable {rest : List Expr} {ta tb : TM}
theorem px_one {op : BoolOp} (h : PX X Z a fa) : PX X Z (.BoolOp op [a] pos) fa := ⟨L2.pe_one h.pe⟩
theorem px_and (ha : PX X Z a fa) (hb : PX X Z (.BoolOp .And (b :: rest) pos) fb) : PX X Z (.BoolOp .And (a :: b :: rest) pos) (andE fa fb) := by
  refine ⟨PE_imp (L2.pe_and ha.pe hb.pe) fun σ H Q h => ?_⟩
  obtain ⟨W, s, R, h⟩ := h
  refine ⟨W, s, R, Post.bind h fun p s1 x W1 H1 _ st R1 rx q => ?_⟩
  cases p with
  | bl c =>
    refine ⟨c, rE_bl_inv rx, ?_⟩
    cases c with
    | true => rw [if_pos rfl]; exact ⟨W1, s1, R1, q⟩
    | false => rw [if_neg (by decide)]; exact q _ W1 H1 (Step.refl _ _) R1 rE_bl
  | _ => exact q.elim
theorem px_or (ha : PX X Z a fa) (hb : PX X Z (.BoolOp .Or (b :: rest) pos) fb) : PX X Z (.BoolOp .Or (a :: b :: rest) pos) (orE fa fb) := by
  refine ⟨PE_imp (L2.pe_or ha.pe hb.pe) fun σ H Q h => ?_⟩
  obtain ⟨W, s, R, h⟩ := h
  refine ⟨W, s, R, Post.bind h fun p s1 x W1 H1 _ st R1 rx q => ?_⟩
  cases p with
  | bl c =>
    refine ⟨c, rE_bl_inv rx, ?_⟩
    cases c with
    | true => rw [if_pos rfl]; exact q _ W1 H1 (Step.refl _ _) R1 rE_bl
    | false => rw [if_neg (by decide)]; exact ⟨W1, s1, R1, q⟩
  | _ => exact q.elim
theorem px_not (ha : PX X Z a fa) : PX X Z (.UnaryOp .Not a pos) (notE fa) := by
  refine ⟨PE_imp (L2.pe_not ha.pe) fun σ H Q h => ?_⟩
  obtain ⟨W, s, R, h⟩ := h
  refine ⟨W, s, R, Post.bind h fun p s1 x W1 H1 _ st R1 rx q => ?_⟩
  cases p with
  | bl c => exact ⟨c, rE_bl_inv rx, q _ W1 H1 (Step.refl _ _) R1 rE_bl⟩
  | _ => exact q.elim
structure PWX (X : Cx) (Z : WX) (e : Expr) (f : TM) : Prop where
  pw : PW X e (tT X.K Z f)
theorem pw_lastA (ha : PTX X Z a ta) : PWX X Z (.BoolOp .And [a] pos) ta := ⟨L2.pw_and1 ha.pt⟩
theorem pw_lastO (ha : PTX X Z a ta) : PWX X Z (.BoolOp .Or [a] pos) ta := ⟨L2.pw_or1 ha.pt⟩
theorem pw_andX (ha : PTX X Z a ta) (hb : PWX X Z (.BoolOp .And (b :: rest) pos) tb) : PWX X Z (.BoolOp .And (a :: b :: rest) pos) (andT ta tb) := by
  refine ⟨PW_imp (L2.pw_and ha.pt hb.pw) fun σ H Q h => ?_⟩
  obtain ⟨W, s, R, h⟩ := h
  refine ⟨W, s, R, Post.bind h fun p s1 x W1 H1 _ st R1 rx q => ?_⟩
  obtain rfl : x = p := rx
  cases x with
  | true => rw [if_pos rfl]; exact ⟨W1, s1, R1, q⟩
  | false => rw [if_neg (by decide)]; exact q _ W1 H1 (Step.refl _ _) R1 rfl
theorem pw_orX (ha : PTX X Z a ta) (hb : PWX X Z (.BoolOp .Or (b :: rest) pos) tb) : PWX X Z (.BoolOp .Or (a :: b :: rest) pos) (orT ta tb) := by
  refine ⟨PW_imp (L2.pw_or ha.pt hb.pw) fun σ H Q h => ?_⟩
  obtain ⟨W, s, R, h⟩ := h
  refine ⟨W, s, R, Post.bind h fun p s1 x W1 H1 _ st R1 rx q => ?_⟩
  obtain rfl : x = p := rx
  cases x with
  | true => rw [if_pos rfl]; exact q _ W1 H1 (Step.refl _ _) R1 rfl
  | false => rw [if_neg (by decide)]; exact ⟨W1, s1, R1, q⟩
theorem pt_w {e : Expr} {t : TM} (h : PWX X Z e t) : PTX X Z e t := ⟨h.pw.pt⟩
theorem pt_notX (ha : PTX X Z a ta) : PTX X Z (.UnaryOp .Not a pos) (notT ta) := by
  refine ⟨PT_imp (L2.pt_not ha.pt) fun σ H Q h => ?_⟩
  obtain ⟨W, s, R, h⟩ := h
  refine ⟨W, s, R, Post.bind h fun p s1 x W1 H1 _ st R1 rx q => ?_⟩
  obtain rfl : x = p := rx
  exact q _ W1 H1 (Step.refl _ _) R1 rfl
theorem px_if {c : Expr} (hc : PTX X Z c ta) (ha : PX X Z a fa) (hb : PX X Z b fb) : PX X Z (.IfExp c a b pos) (ifE ta fa fb) := by
  refine ⟨PE_imp (L2.pe_ifExp hc.pt ha.pe hb.pe) fun σ H Q h => ?_⟩
  obtain ⟨W, s, R, h⟩ := h
  refine ⟨W, s, R, Post.bind h fun p s1 x W1 H1 _ st R1 rx q => ?_⟩
  obtain rfl : x = p := rx
  cases x with
  | true => rw [if_pos rfl] at q ⊢; exact ⟨W1, s1, R1, q⟩
  | false => rw [if_neg (by decide)] at q ⊢; exact ⟨W1, s1, R1, q⟩
theorem po_if {c : Expr} {ga gb : OM} (hc : PTX X Z c ta) (ha : PO X Z a ga) (hb : PO X Z b gb) : PO X Z (.IfExp c a b pos) (ifO ta ga gb) := by
  refine ⟨PE_imp (L2.pe_ifExp hc.pt ha.pe hb.pe) fun σ H Q h => ?_⟩
  obtain ⟨W, s, R, h⟩ := h
  refine ⟨W, s, R, Post.bind h fun p s1 x W1 H1 _ st R1 rx q => ?_⟩
  obtain rfl : x = p := rx
  cases x with
  | true => rw [if_pos rfl] at q ⊢; exact ⟨W1, s1, R1, q⟩
  | false => rw [if_neg (by decide)] at q ⊢; exact ⟨W1, s1, R1, q⟩
/-- -a -/
def negE (f : EM) : EM := fun s => (f s).bind fun p s1 => match p with
  | .int i => .ok (.int (-i)) s1
  | _ => .bad
theorem px_neg (ha : PX X Z a fa) : PX X Z (.UnaryOp .USub a pos) (negE fa) := by
  refine ⟨PE_imp (L2.pe_un un_neg ha.pe) fun σ H Q h => ?_⟩
  obtain ⟨W, s, R, h⟩ := h
  refine ⟨W, s, R, Post.bind h fun p s1 x W1 H1 _ st R1 rx q => ?_⟩
  cases p with
  | int c => exact ⟨c, rE_int_inv rx, q _ W1 H1 (Step.refl _ _) R1 rE_int⟩
  | _ => exact q.elim
end
end DR
/-! DR: statements, targets, loops, comprehensions. -/
namespace DR
open PySem PySem.Spec PyProof.Rows L2
section
variable {X : Cx} {Z : WX} {e : Expr} {f : EM} {g : OM} {st : Stmt} {rest : List Stmt} {u v : SM} {pos : Pos}
/-! ### blocks and small statements -/
def nextS : SM := fun s => .ok .nx s
def seqS (u v : SM) : SM := fun s => (u s).bind fun fl s1 => match fl with
  | .nx => v s1
  | o => .ok o s1
def retS (g : OM) : SM := fun s => (g s).bind fun p s1 => .ok (.rt p.1 p.2) s1
def retN : SM := fun s => .ok (.rt .non false) s
def exprS (f : EM) : SM := fun s => (f s).bind fun _ s1 => .ok .nx s1
def ifS (t : TM) (u v : SM) : SM := fun s => (t s).bind fun b s1 => if b = true then u s1 else v s1
def badS : SM := fun _ => .bad
theorem ss_nil : PSsX X Z [] nextS := ⟨PSs_imp L2.pss_nil fun D σ H ⟨W, s, R, h⟩ => h σ W H (Step.refl _ _) R⟩
theorem ss_cons (h1 : PSX X Z st u) (h2 : PSsX X Z rest v) : PSsX X Z (st :: rest) (seqS u v) := by
  refine ⟨PSs_imp (L2.pss_cons h1.ps h2.ps) fun D σ H ⟨W, s, R, h⟩ => ⟨W, s, R, ?_⟩⟩
  unfold seqS at h
  cases e : u s with
  | ok fl s1 =>
    rw [e] at h
    cases fl with
    | nx => exact fun σ' W' H' st' R' => ⟨W', s1, R', PostS.step h st'⟩
    | rt p fr => exact h
    | bk => exact h
    | ct => exact h
  | exc x s1 => rw [e] at h; exact h
  | bad => rw [e] at h; exact h
theorem ss_one (h1 : PSX X Z st u) : PSsX X Z [st] u := ⟨L2.pss_one h1.ps⟩
theorem ps_passX : PSX X Z (.Pass pos) nextS := ⟨PS_imp L2.ps_pass fun D σ H ⟨W, s, R, h⟩ => h σ W H (Step.refl _ _) R⟩
theorem ps_breakX : PSX X Z (.Break pos) (fun s => .ok .bk s) := ⟨PS_imp L2.ps_break fun D σ H ⟨W, s, R, h⟩ => h σ W H (Step.refl _ _) R⟩
theorem ps_contX : PSX X Z (.Continue pos) (fun s => .ok .ct s) := ⟨PS_imp L2.ps_continue fun D σ H ⟨W, s, R, h⟩ => h σ W H (Step.refl _ _) R⟩
theorem ps_badX : PSX X Z st badS := ⟨PS_imp L2.ps_never fun D σ H ⟨W, s, R, h⟩ => h.elim⟩
theorem ps_exprX (he : PX X Z e f) (hs : swapsWith e none pos.line X.env = pure false := by rfl) : PSX X Z (.Expr e pos) (exprS f) :=
  ⟨PS_imp (L2.ps_expr he.pe hs) fun D σ H ⟨W, s, R, h⟩ => ⟨W, s, R, PostS.bindE h fun p s1 x W1 H1 _ st R1 rx q => q σ W1 H1 (Step.refl _ _) R1⟩⟩
theorem ps_retX (he : PO X Z e g) : PSX X Z (.Return (some e) pos) (retS g) :=
  ⟨PS_imp (L2.ps_ret he.pe) fun D σ H ⟨W, s, R, h⟩ => ⟨W, s, R, PostS.bindE h fun p s1 x W1 H1 _ st R1 rx q => q σ x W1 H1 (Step.refl _ _) R1 rx⟩⟩
theorem ps_retNX : PSX X Z (.Return none pos) retN := ⟨PS_imp L2.ps_retN fun D σ H ⟨W, s, R, h⟩ => h σ .non W H (Step.refl _ _) R (show RV X.K W H .non .non from rv_non)⟩
theorem ps_ifX {c : Expr} {a b : List Stmt} {t : TM} (hc : PTX X Z c t) (ha : PSsX X Z a u) (hb : PSsX X Z b v) : PSX X Z (.If c a b pos) (ifS t u v) := by
  refine ⟨PS_imp (L2.ps_if hc.pt ha.ps hb.ps) fun D σ H ⟨W, s, R, h⟩ => ⟨W, s, R, PostS.bindE h fun p s1 x W1 H1 _ st R1 rx q => ?_⟩⟩
  obtain rfl : x = p := rx
  cases x with
  | true => rw [if_pos rfl] at q ⊢; exact ⟨W1, s1, R1, q⟩
  | false => rw [if_neg (by decide)] at q ⊢; exact ⟨W1, s1, R1, q⟩
/-! ### stores -/
def putSl (p : PV × Bool) : Sl := if p.2 = true then .own p.1 else .val p.1
def setS (i : Nat) (g : OM) : SM := fun s => (g s).bind fun p s1 => .ok .nx ⟨s1.e.set i (putSl p), s1.t⟩
theorem RSt.put {K : PySem.W.Frag} {W : Wd} {H : Hp} {s : DS} {σ : L2.St} (R : RSt K W H s σ) {i : Nat} {p : PV × Bool} {x : V} (r : rO K σ W H s p x) : RSt K W H ⟨s.e.set i (putSl p), s.t⟩ (σ.set i (some x)) := by
  obtain ⟨p, fr⟩ := p
  cases fr with
  | true => exact R.seto (show Own K σ W H s p x from r)
  | false => exact R.setv (show RV K W H p x from r)
theorem ps_setX (i : Nat) {x : Str} {pos' : Pos} (hN : X.N.Nodup) (he : PO X Z e g) (hi : X.N[i]? = some x := by rfl) (hx : Loc X.env.scope x := by first | exact Or.inl rfl | exact Or.inr rfl) (hs : swapsWith e (some (.Name x pos')) pos.line X.env = pure false := by rfl)
    (hf : X.fn x = true ∨ X.env.scope.names.lookup x = some .local := by first | exact .inl rfl | exact .inr rfl) : PSX X Z (.Assign [.Name x pos'] e pos) (setS i g) :=
  ⟨PS_imp (L2.ps_set hN hi hx he.pe hs hf) fun D σ H ⟨W, s, R, h⟩ => ⟨W, s, R, PostS.bindE h fun p s1 y W1 H1 _ st R1 ry q => q _ W1 H1 (Step.refl _ _) (R1.put ry)⟩⟩
/-- a, b = x, y over two plain locals: both are reckoned first -/
def setS2 (i j : Nat) (f g : EM) : SM := fun s => (f s).bind fun p s1 => (g s1).bind fun q s2 => .ok .nx ⟨(s2.e.set i (.val p)).set j (.val q), s2.t⟩
theorem ps_setX2 {i j : Nat} {x y : Str} {a b : Expr} {fa fb : EM} {px py pt : Pos} {kt k2 pt2} (hc : X.calm = true) (hN : X.N.Nodup) (hi : X.N[i]? = some x) (hj : X.N[j]? = some y) (hij : i ≠ j)
    (hx : X.env.scope.names.lookup x = some .local) (hy : X.env.scope.names.lookup y = some .local) (ha : PX X Z a fa) (hb : PX X Z b fb) (hst : starEach [a, b] X.env = (false, eval a X.env) :: starEach [b] X.env := by rfl) (hst2 : starEach [b] X.env = (false, eval b X.env) :: starEach [] X.env := by rfl)
    (hw : swappedStores [.Tuple [.Name x px, .Name y py] kt pt] (.Tuple [a, b] k2 pt2) X.env = pure (some [x, y]) := by rfl)
    (hs : swapsWithSole [.Tuple [.Name x px, .Name y py] kt pt] (.Tuple [a, b] k2 pt2) pos.line X.env = pure false := by rfl) :
    PSX X Z (.Assign [.Tuple [.Name x px, .Name y py] kt pt] (.Tuple [a, b] k2 pt2) pos) (setS2 i j fa fb) := by
  refine ⟨PS_imp (L2.ps_par hc hN hi hj hij hx hy (pa_consX ha (pa_consX hb pa_nilX hst2) hst).pa hw hs) fun D σ H ⟨W, s, R, h⟩ => ⟨W, s, R, ?_⟩⟩
  show Post rA X.K Z σ W H (consA fa (consA fb nilA) s) _
  unfold setS2 at h
  unfold consA nilA
  cases e1 : fa s with
  | bad => rw [e1] at h; exact h
  | exc x s1 => rw [e1] at h; exact fun d W' H' st' R' xr => h σ d W' H' st' R' xr
  | ok p s1 =>
    rw [e1] at h
    cases e2 : fb s1 with
    | bad => simp only [Re.bind, e2] at h; exact h.elim
    | exc x s2 => simp only [Re.bind, e2] at h ⊢; exact fun d W' H' st' R' xr => h σ d W' H' st' R' xr
    | ok q s2 =>
      simp only [Re.bind, e2] at h ⊢
      intro vs W' H' st' R' rv
      have rv : Reps X.K W'.S (W'.m H') [p, q] vs := rv
      unfold Reps at rv
      obtain ⟨v1, r1, rfl, a1, rv⟩ := rv
      unfold Reps at rv
      obtain ⟨v2, r2, rfl, a2, rv⟩ := rv
      unfold Reps at rv
      subst rv
      exact ⟨v1, v2, rfl, h _ W' H' st' ((R'.setv (i := i) a1).setv (i := j) a2)⟩
/-- targets -/
inductive Tg where
  | nm (i : Nat) | tp (ts : List Tg)
mutual
def asgT : Tg → PV → DE → Option DE
  | .nm i, p, e => some (e.set i (.val p))
  | .tp ts, .tup _ ps, e => asgTs ts ps e
  | .tp _, _, _ => none
def asgTs : List Tg → List PV → DE → Option DE
  | [], [], e => some e
  | t :: ts, p :: ps, e => match asgT t p e with
    | some e' => asgTs ts ps e'
    | none => none
  | _, _, _ => none
end
mutual
def tgIn : Tg → List Nat → Bool
  | .nm i, vs => decide (i ∈ vs)
  | .tp ts, vs => tgsIn ts vs
def tgsIn : List Tg → List Nat → Bool
  | [], _ => true
  | t :: ts, vs => tgIn t vs && tgsIn ts vs
end
theorem wipe_get (σ : L2.St) (j : Nat) : ∀ vs : List Nat, (wipe σ vs)[j]? = if j ∈ vs then σ[j]?.map (fun _ => none) else σ[j]?
  | [] => by simp [wipe]
  | v :: vs => by
    unfold wipe
    by_cases h : v = j
    · subst h
      rw [if_pos List.mem_cons_self]
      by_cases hv : v < σ.length
      · rw [List.getElem?_set_self (by rw [wipe_length]; exact hv), List.getElem?_eq_getElem hv]
        rfl
      · rw [List.getElem?_eq_none (by rw [List.length_set, wipe_length]; omega), List.getElem?_eq_none (by omega)]
        rfl
    · rw [List.getElem?_set_ne h, wipe_get σ j vs]
      by_cases hj : j ∈ vs
      · rw [if_pos hj, if_pos (List.mem_cons_of_mem _ hj)]
      · rw [if_neg hj, if_neg (by simp [hj, Ne.symm h])]
theorem wipe_set {σ : L2.St} {i : Nat} {x : Option V} {vs : List Nat} (h : i ∈ vs) : wipe (σ.set i x) vs = wipe σ vs := by
  refine List.ext_getElem? fun j => ?_
  rw [wipe_get, wipe_get]
  by_cases hj : j = i
  · subst hj
    rw [if_pos h, if_pos h]
    by_cases hv : j < σ.length
    · rw [List.getElem?_set_self hv, List.getElem?_eq_getElem hv]
      rfl
    · rw [List.getElem?_eq_none (by rw [List.length_set]; omega), List.getElem?_eq_none (by omega)]
  · rw [List.getElem?_set_ne (Ne.symm hj)]
def gX (K : PySem.W.Frag) (t : Tg) : TG := fun v σ H Q => ∃ W s p, RSt K W H s σ ∧ RV K W H p v ∧ ∃ e', asgT t p s.e = some e' ∧ ∀ σ', (∀ vs, tgIn t vs = true → wipe σ' vs = wipe σ vs) → RSt K W H ⟨e', s.t⟩ σ' → Q σ' H
def gsX (K : PySem.W.Frag) (t : List Tg) : TGs := fun vs σ H Q => ∃ W s ps, RSt K W H s σ ∧ RVs K W H ps vs ∧ ∃ e', asgTs t ps s.e = some e' ∧ ∀ σ', (∀ vs, tgsIn t vs = true → wipe σ' vs = wipe σ vs) → RSt K W H ⟨e', s.t⟩ σ' → Q σ' H
structure PGX (X : Cx) (e : Expr) (t : Tg) : Prop where
  pg : PG X e (gX X.K t)
structure PGsX (X : Cx) (es : List Expr) (t : List Tg) : Prop where
  pgs : PGs X es (gsX X.K t)
theorem PG_imp {X : Cx} {e : Expr} {t t' : TG} (h : PG X e t) (i : ∀ v σ H Q, t' v σ H Q → t v σ H Q) : PG X e t' := ⟨fun pins s σ H v u Q I r q => h.run pins s σ H v u Q I r (i v σ H Q q)⟩
theorem PGs_imp {X : Cx} {e : List Expr} {t t' : TGs} (h : PGs X e t) (i : ∀ v σ H Q, t' v σ H Q → t v σ H Q) : PGs X e t' := ⟨fun pins s σ H v u Q I r q => h.run pins s σ H v u Q I r (i v σ H Q q)⟩
theorem g_nm (i : Nat) {x : Str} {pos : Pos} (hN : X.N.Nodup) (hi : X.N[i]? = some x := by rfl) (hx : Loc X.env.scope x := by first | exact Or.inl rfl | exact Or.inr rfl) (hf : X.fn x = true ∨ X.env.scope.names.lookup x = some .local := by first | exact .inl rfl | exact .inr rfl) : PGX X (.Name x pos) (.nm i) := by
  refine ⟨PG_imp (L2.pg_name hN hi hx hf) fun v σ H Q ⟨W, s, p, R, rv, e', he, k⟩ => ?_⟩
  simp only [asgT, Option.some.injEq] at he
  subst he
  exact k _ (fun vs hv => wipe_set (of_decide_eq_true hv)) (R.setv rv)
theorem gs_nil : PGsX X [] [] := by
  refine ⟨PGs_imp L2.pgs_nil fun v σ H Q ⟨W, s, p, R, rv, e', he, k⟩ => ?_⟩
  cases p with
  | nil =>
    simp only [asgTs, Option.some.injEq] at he
    subst he
    unfold RVs Reps at rv
    exact ⟨rv, k σ (fun _ _ => rfl) R⟩
  | cons a b => simp [asgTs] at he
theorem gs_cons {e : Expr} {es : List Expr} {t : Tg} {ts : List Tg} (h1 : PGX X e t) (h2 : PGsX X es ts) (hs : (assignEach (e :: es) X.env).map (·.2) = assign e X.env :: (assignEach es X.env).map (·.2) := by rfl) : PGsX X (e :: es) (t :: ts) := by
  refine ⟨PGs_imp (L2.pgs_cons h1.pg h2.pgs hs) fun v σ H Q ⟨W, s, p, R, rv, e', he, k⟩ => ?_⟩
  cases p with
  | nil => simp [asgTs] at he
  | cons a b =>
    simp only [asgTs] at he
    cases e1 : asgT t a s.e with
    | none => rw [e1] at he; cases he
    | some e2 =>
      rw [e1] at he
      unfold RVs Reps at rv
      obtain ⟨v1, r1, rfl, ra, rb⟩ := rv
      refine ⟨v1, r1, rfl, W, s, a, R, ra, e2, e1, fun σ' hw R' => ⟨W, ⟨e2, s.t⟩, b, R', rb, e', he, fun σ2 hw2 R2 => k σ2 (fun vs hv => ?_) R2⟩⟩
      simp only [tgsIn, Bool.and_eq_true] at hv
      rw [hw2 vs hv.2, hw vs hv.1]
theorem g_tp {es : List Expr} {k : Nat} {ts : List Tg} {pos : Pos} (hc : X.calm = true) (h : PGsX X es ts) (hn : (assignEach es X.env).length = ts.length := by rfl) (hst : (assignEach es X.env).findIdx? (·.1) = none := by rfl) : PGX X (.Tuple es k pos) (.tp ts) := by
  refine ⟨PG_imp (L2.pg_tup hc h.pgs hn hst) fun v σ H Q ⟨W, s, p, R, rv, e', he, k⟩ => ?_⟩
  cases p with
  | tup c ps =>
    simp only [asgT] at he
    obtain ⟨a, vs, rfl, h1, h2⟩ := rv_tup_inv rv
    refine ⟨a, vs, rfl, h1, ?_, W, s, ps, R, h2, e', he, k⟩
    rw [h2.len]
    clear k rv h1 h2 R h hn hst
    have : ∀ (ts : List Tg) (ps : List PV) (e e' : DE), asgTs ts ps e = some e' → ps.length = ts.length := by
      intro ts
      induction ts with
      | nil =>
        intro ps e e' he
        cases ps with
        | nil => rfl
        | cons a b => simp [asgTs] at he
      | cons t ts ih =>
        intro ps e e' he
        cases ps with
        | nil => simp [asgTs] at he
        | cons a b =>
          simp only [asgTs] at he
          cases e1 : asgT t a e with
          | none => rw [e1] at he; cases he
          | some e2 =>
            rw [e1] at he
            simp [ih b e2 e' he]
    exact this ts ps s.e e' he
  | _ => simp [asgT] at he
/-- target = value, the target of any form -/
def asgS (t : Tg) (f : EM) : SM := fun s => (f s).bind fun p s1 => match asgT t p s1.e with
  | some e' => .ok .nx ⟨e', s1.t⟩
  | none => .bad
theorem ps_asgX {tg : Expr} {t : Tg} (he : PX X Z e f) (hg : PGX X tg t) (hs : swapsWithSole [tg] e pos.line X.env = pure false := by rfl) (hw : swappedStores [tg] e X.env = pure none := by rfl)
    (h1 : (assignEach [tg] X.env).map (·.2) = [assign tg X.env] := by rfl) : PSX X Z (.Assign [tg] e pos) (asgS t f) := by
  refine ⟨PS_imp (L2.ps_asg he.pe hg.pg hs hw h1) fun D σ H ⟨W, s, R, h⟩ => ⟨W, s, R, PostS.bindE h fun p s1 x W1 H1 _ st R1 rx q => ?_⟩⟩
  cases e1 : asgT t p s1.e with
  | none => simp only [e1] at q; exact q.elim
  | some e2 =>
    simp only [e1] at q
    exact ⟨W1, s1, p, R1, rx, e2, e1, fun σ' _ R' => q σ' W1 H1 (Step.refl _ _) R'⟩
/-! ### what is walked -/
/-- what could be reached can be reached -/
structure Vw (W : Wd) (H : Hp) (W' : Wd) (H' : Hp) : Prop where
  same : Same (W.m H) (W'.m H')
  pre : Pre W.S W'.S
theorem Step.vw {W W' : Wd} {H H' : Hp} (s : Step W H W' H') : Vw W H W' H' := ⟨s.same, s.pre⟩
theorem Vw.trans {W W1 W2 : Wd} {H H1 H2 : Hp} (a : Vw W H W1 H1) (b : Vw W1 H1 W2 H2) : Vw W H W2 H2 := ⟨a.same.trans b.same, a.pre.trans b.pre⟩
structure Goes (K : PySem.W.Frag) (J : It) (ps : List PV) (W : Wd) (H : Hp) : Prop where
  go : ∀ W1 H1 i, Vw W H W1 H1 → i < ps.length → J.go i H1
  stop : ∀ W1 H1, Vw W H W1 H1 → J.stop ps.length H1
  yld : ∀ (W1 : Wd) (H1 : Hp) (i : Nat) (x : V) (H2 : Hp) (p : PV) (s : DS) (σ : L2.St), Vw W H W1 H1 → ps[i]? = some p → RSt K W1 H1 s σ → J.yld i H1 x H2 → ∃ W2, Step W1 H1 W2 H2 ∧ RSt K W2 H2 s σ ∧ RV K W2 H2 p x
abbrev IM := DS → Re (List PV)
def rI : RT (List PV) It := fun K _ W H _ ps J => Goes K J ps W H
def tI (K : PySem.W.Frag) (Z : WX) (f : IM) : TI := fun σ H R => tG rI K Z f σ H R
structure PIX (X : Cx) (Z : WX) (tg e : Expr) (f : IM) : Prop where
  pi : PI X tg e (tI X.K Z f)
theorem PI_imp {X : Cx} {tg e : Expr} {t t' : TI} (h : PI X tg e t) (i : ∀ σ H Q, t' σ H Q → t σ H Q) : PI X tg e t' := ⟨fun pins s σ H R I q => h.run pins s σ H R I (i σ H R q)⟩
theorem PI_or {X : Cx} {tg e : Expr} {t t' : TI} (h : PI X tg e t) (h' : PI X tg e t') : PI X tg e (fun σ H R => t σ H R ∨ t' σ H R) := ⟨fun pins s σ H R I q => q.elim (h.run pins s σ H R I) (h'.run pins s σ H R I)⟩
def forL (t : Tg) (b : SM) : List PV → SM
  | [], s => .ok .nx s
  | p :: ps, s => match asgT t p s.e with
    | none => .bad
    | some e' => (b ⟨e', s.t⟩).bind fun fl s1 => match fl with
      | .nx => forL t b ps s1
      | .ct => forL t b ps s1
      | .bk => .ok .nx s1
      | .rt p fr => .ok (.rt p fr) s1
def forS (it : IM) (t : Tg) (b : SM) : SM := fun s => (it s).bind fun ps s1 => forL t b ps s1
theorem ps_forX {tg iter : Expr} {body : List Stmt} {it : IM} {t : Tg} {b : SM} (hp : PassesOwn (model X.prog X.w) X.A X.env X.xe) (hc : X.calm = true) (hi : PIX X Z tg iter it) (hg : PGX X tg t) (hb : PSsX X Z body b)
    (hs : ∀ x, foldedSetIterable iter X.env x = pure x := by intro _; rfl) : PSX X Z (.For tg iter body [] pos) (forS it t b) := by
  refine ⟨PS_imp (L2.ps_for hp hc hi.pi hg.pg hb.ps hs) fun D σ H ⟨W, s, R, h⟩ => ⟨W, s, R, PostS.bindE h fun ps s1 J W1 H1 _ st R1 G q => ?_⟩⟩
  have G : Goes X.K J ps W1 H1 := G
  refine ⟨fun i m σ2 H2 => m = ps.length - i ∧ i ≤ ps.length ∧ ∃ W2 s2, Step W1 H1 W2 H2 ∧ RSt X.K W2 H2 s2 σ2 ∧ PostS X.K Z W2 H2 (forL t b (ps.drop i) s2) D, ⟨ps.length, by simp, Nat.zero_le _, W1, s1, Step.refl _ _, R1, q⟩, ?_⟩
  rintro i m σ2 H2 ⟨rfl, hi, W2, s2, st2, R2, q2⟩
  by_cases hlt : i < ps.length
  · refine .inr ⟨G.go W2 H2 i st2.vw hlt, fun σ3 H3 => i + 1 ≤ ps.length ∧ ∃ W3 s3, Step W1 H1 W3 H3 ∧ RSt X.K W3 H3 s3 σ3 ∧ PostS X.K Z W3 H3 (forL t b (ps.drop (i + 1)) s3) D, fun σ' H' ⟨hi', W3, s3, a, b, c⟩ => ⟨ps.length - (i + 1), by omega, rfl, hi', W3, s3, a, b, c⟩, fun x H3 y => ?_⟩
    obtain ⟨W3, st3, R3, rv⟩ := G.yld W2 H2 i x H3 ps[i] s2 σ2 st2.vw (List.getElem?_eq_getElem hlt) R2 y
    rw [List.drop_eq_getElem_cons hlt] at q2
    unfold forL at q2
    cases e1 : asgT t ps[i] s2.e with
    | none => simp only [e1] at q2; exact q2.elim
    | some e2 =>
      simp only [e1] at q2
      refine ⟨W3, s2, ps[i], R3, rv, e2, e1, fun σ4 _ R4 => ⟨W3, ⟨e2, s2.t⟩, R4, ?_⟩⟩
      have q3 := PostS.step q2 st3
      cases e3 : b ⟨e2, s2.t⟩ with
      | bad => rw [e3] at q3; exact q3.elim
      | exc x s5 => rw [e3] at q3; exact q3
      | ok fl s5 =>
        rw [e3] at q3
        cases fl with
        | nx => exact fun σ' W' H' st' R' => ⟨hlt, W', s5, (st2.trans st3).trans st', R', PostS.step q3 st'⟩
        | ct => exact fun σ' W' H' st' R' => ⟨hlt, W', s5, (st2.trans st3).trans st', R', PostS.step q3 st'⟩
        | bk => exact q3
        | rt p fr => exact q3
  · have e : i = ps.length := by omega
    subst e
    rw [List.drop_length] at q2
    exact .inl ⟨G.stop W2 H2 st2.vw, q2 σ2 W2 H2 (Step.refl _ _) R2⟩
def whileN (t : TM) (b : SM) : Nat → SM
  | 0, _ => .bad
  | n + 1, s => (t s).bind fun c s1 => if c = true then (b s1).bind fun fl s2 => match fl with
      | .nx => whileN t b n s2
      | .ct => whileN t b n s2
      | .bk => .ok .nx s2
      | .rt p fr => .ok (.rt p fr) s2
    else .ok .nx s1
theorem ps_whileX {c : Expr} {body : List Stmt} {t : TM} {b : SM} (n : Nat) (hp : PassesOwn (model X.prog X.w) X.A X.env X.xe) (hc : PTX X Z c t) (hb : PSsX X Z body b) : PSX X Z (.While c body [] pos) (whileN t b n) := by
  refine ⟨PS_imp (L2.ps_while hp hc.pt hb.ps) fun D σ H ⟨W, s, R, h⟩ => ?_⟩
  refine ⟨fun m σ2 H2 => ∃ W2 s2, RSt X.K W2 H2 s2 σ2 ∧ PostS X.K Z W2 H2 (whileN t b m s2) D, ⟨n, W, s, R, h⟩, ?_⟩
  rintro m σ2 H2 ⟨W2, s2, R2, q2⟩
  cases m with
  | zero => exact q2.elim
  | succ m =>
    unfold whileN at q2
    refine ⟨W2, s2, R2, PostS.bindE q2 fun c s3 x W3 H3 _ st3 R3 rx q3 => ?_⟩
    obtain rfl : x = c := rx
    cases x with
    | false => rw [if_neg (by decide)] at q3 ⊢; exact q3 σ2 W3 H3 (Step.refl _ _) R3
    | true =>
      rw [if_pos rfl] at q3 ⊢
      refine ⟨fun σ4 H4 => ∃ W4 s4, RSt X.K W4 H4 s4 σ4 ∧ PostS X.K Z W4 H4 (whileN t b m s4) D, fun σ' H' q => ⟨m, Nat.lt_succ_self _, q⟩, W3, s3, R3, ?_⟩
      cases e3 : b s3 with
      | bad => rw [e3] at q3; exact q3.elim
      | exc x s5 => rw [e3] at q3; exact q3
      | ok fl s5 =>
        rw [e3] at q3
        cases fl with
        | nx => exact fun σ' W' H' st' R' => ⟨W', s5, R', PostS.step q3 st'⟩
        | ct => exact fun σ' W' H' st' R' => ⟨W', s5, R', PostS.step q3 st'⟩
        | bk => exact q3
        | rt p fr => exact q3
end
end DR
/-! DR: what is walked; list comprehensions. -/
namespace DR
open PySem PySem.Spec PyProof.Rows L2
section
variable {K : PySem.W.Frag} {W W1 : Wd} {H H1 : Hp} {a b : Addr} {ps qs : List PV} {vs ws : List V}
theorem yldP {H2 : Hp} {s : DS} {σ : L2.St} {x : V} {p : PV} (R : RSt K W1 H1 s σ) (e : H2 = H1) (r : RV K W1 H1 p x) : ∃ W3, Step W1 H1 W3 H2 ∧ RSt K W3 H2 s σ ∧ RV K W3 H2 p x := by
  subst e
  exact ⟨W1, Step.refl _ _, R, r⟩
theorem atRep (st : Vw W H W1 H1) (h : RVs K W H ps vs) {i : Nat} {p : PV} {x : V} (hp : ps[i]? = some p) (hx : vs[i]? = some x) : RV K W1 H1 p x := by
  obtain ⟨v, e, r⟩ := h.get hp
  rw [hx] at e
  cases e
  exact r.mono st.pre st.same
theorem goes_list (hL : a ∉ W.L) (h : H a = some (.lst vs)) (r : RVs K W H ps vs) : Goes K (Itl K a) ps W H := by
  have at_ : ∀ {W1 H1}, Vw W H W1 H1 → SqL K H1 a vs := fun st => SqL.of (msk_some.mp (st.same _ _ (msk_some.mpr ⟨hL, h⟩))).2
  refine ⟨fun W1 H1 i st hi => ?_, fun W1 H1 st => ⟨vs, at_ st, by rw [r.len]; exact Nat.le_refl _⟩, fun W1 H1 i x H2 p s σ st hp R y => ?_⟩
  · have hi' : i < vs.length := by rw [r.len]; exact hi
    exact ⟨vs, vs[i], at_ st, List.getElem?_eq_getElem hi'⟩
  · exact yldP R y.1 (atRep st r hp (y.2 _ (at_ st)))
theorem goes_scr (h : SqL K (W.m H) a vs) (r : RVs K W H ps vs) : Goes K (Itl K a) ps W H := by
  have at_ : ∀ {W1 H1}, Vw W H W1 H1 → SqL K H1 a vs := fun st => sqL_mono (msk_sub _ _) (sqL_mono st.same h)
  refine ⟨fun W1 H1 i st hi => ?_, fun W1 H1 st => ⟨vs, at_ st, by rw [r.len]; exact Nat.le_refl _⟩, fun W1 H1 i x H2 p s σ st hp R y => ?_⟩
  · have hi' : i < vs.length := by rw [r.len]; exact hi
    exact ⟨vs, vs[i], at_ st, List.getElem?_eq_getElem hi'⟩
  · exact yldP R y.1 (atRep st r hp (y.2 _ (at_ st)))
theorem goes_tup (h : SqT K (W.m H) a vs) (r : RVs K W H ps vs) : Goes K (Itt K a) ps W H := by
  have at_ : ∀ {W1 H1}, Vw W H W1 H1 → SqT K H1 a vs := fun st => sqT_mono (msk_sub _ _) (sqT_mono st.same h)
  refine ⟨fun W1 H1 i st hi => ?_, fun W1 H1 st => ⟨vs, at_ st, by rw [r.len]; exact Nat.le_refl _⟩, fun W1 H1 i x H2 p s σ st hp R y => ?_⟩
  · have hi' : i < vs.length := by rw [r.len]; exact hi
    exact ⟨vs, vs[i], at_ st, List.getElem?_eq_getElem hi'⟩
  · exact yldP R y.1 (atRep st r hp (y.2 _ (at_ st)))
def rangeP (lo : Int) (n : Nat) : List PV := (List.range n).map fun (i : Nat) => PV.int (lo + (i : Int))
theorem rangeP_len (lo : Int) (n : Nat) : (rangeP lo n).length = n := by simp [rangeP]
theorem rangeP_get {lo : Int} {n i : Nat} {p : PV} (h : (rangeP lo n)[i]? = some p) : p = .int (lo + (i : Int)) := by
  unfold rangeP at h
  rw [List.getElem?_map] at h
  cases e : (List.range n)[i]? with
  | none => rw [e] at h; cases h
  | some j =>
    rw [e] at h
    have hi := (List.getElem?_eq_some_iff.mp e)
    obtain ⟨hi, e2⟩ := hi
    simp at e2
    subst e2
    exact (Option.some.inj h).symm
theorem goes_range {lo : Int} {n : Nat} : Goes K (Itr lo n) (rangeP lo n) W H := by
  refine ⟨fun W1 H1 i st hi => by rw [rangeP_len] at hi; exact hi, fun W1 H1 st => by rw [rangeP_len]; exact Nat.le_refl _, fun W1 H1 i x H2 p s σ st hp R y => ?_⟩
  obtain ⟨e1, e2⟩ := y
  rw [rangeP_get hp, e2]
  exact yldP R e1 rv_int
/-- a new pair in flight -/
theorem yldPair {H2 : Hp} {s : DS} {σ : L2.St} {x y v : V} {p q : PV} {T : Addr} (R : RSt K W1 H1 s σ) (hT : H1 T = none) (e : H2 = upd H1 T (.tup [x, y])) (ev : v = .ref T) (r : RV K W1 H1 p x) (r' : RV K W1 H1 q y) :
    ∃ W3, Step W1 H1 W3 H2 ∧ RSt K W3 H2 s σ ∧ RV K W3 H2 (.tup false [p, q]) v := by
  subst e ev
  obtain ⟨W2, st, R2, hL⟩ := R.newL hT
  exact ⟨W2, st.trans (Step.alloc hT (R2.nP hT)), R2.alloc hT, new_tup hT hL (reps_cons (st.rv r) (reps_cons (st.rv r') reps_nil))⟩
def enumP : Nat → List PV → List PV
  | _, [] => []
  | i, p :: ps => .tup false [.int (i : Int), p] :: enumP (i + 1) ps
theorem enumP_len : ∀ (i : Nat) (ps : List PV), (enumP i ps).length = ps.length
  | _, [] => rfl
  | i, p :: ps => by simp [enumP, enumP_len (i + 1) ps]
theorem enumP_get : ∀ {i j : Nat} {ps : List PV} {p : PV}, (enumP i ps)[j]? = some p → ∃ q, ps[j]? = some q ∧ p = .tup false [.int ((i + j : Nat) : Int), q]
  | _, _, [], _, h => by simp [enumP] at h
  | i, 0, q :: ps, p, h => by
    simp [enumP] at h
    exact ⟨q, rfl, by rw [← h]; rfl⟩
  | i, j + 1, q :: ps, p, h => by
    simp only [enumP, List.getElem?_cons_succ] at h
    obtain ⟨r, h1, h2⟩ := enumP_get h
    exact ⟨r, by simpa using h1, by rw [h2]; congr 4; omega⟩
theorem goes_enum (hL : a ∉ W.L) (h : H a = some (.lst vs)) (r : RVs K W H ps vs) : Goes K (Ite K a) (enumP 0 ps) W H := by
  have at_ : ∀ {W1 H1}, Vw W H W1 H1 → SqL K H1 a vs := fun st => SqL.of (msk_some.mp (st.same _ _ (msk_some.mpr ⟨hL, h⟩))).2
  refine ⟨fun W1 H1 i st hi => ?_, fun W1 H1 st => ⟨vs, at_ st, by rw [enumP_len, r.len]; exact Nat.le_refl _⟩, fun W1 H1 i x H2 p s σ st hp R y => ?_⟩
  · have hi' : i < vs.length := by rw [enumP_len] at hi; rw [r.len]; exact hi
    exact ⟨vs, vs[i], at_ st, List.getElem?_eq_getElem hi'⟩
  · obtain ⟨T, z, e1, e2, e3, e4⟩ := y
    obtain ⟨q, h1, h2⟩ := enumP_get hp
    rw [h2]
    exact yldPair R e2 e3 e1 (by rw [Nat.zero_add]; exact rv_int) (atRep st r h1 (e4 _ (at_ st)))
def zipP : List PV → List PV → List PV
  | p :: ps, q :: qs => .tup false [p, q] :: zipP ps qs
  | _, _ => []
theorem zipP_len : ∀ (ps qs : List PV), (zipP ps qs).length = min ps.length qs.length
  | [], _ => by simp [zipP]
  | _ :: _, [] => by simp [zipP]
  | p :: ps, q :: qs => by simp [zipP, zipP_len ps qs]
theorem zipP_get : ∀ {j : Nat} {ps qs : List PV} {p : PV}, (zipP ps qs)[j]? = some p → ∃ x y, ps[j]? = some x ∧ qs[j]? = some y ∧ p = .tup false [x, y]
  | _, [], _, _, h => by simp [zipP] at h
  | _, _ :: _, [], _, h => by simp [zipP] at h
  | 0, x :: ps, y :: qs, p, h => by
    simp [zipP] at h
    exact ⟨x, y, rfl, rfl, h.symm⟩
  | j + 1, x :: ps, y :: qs, p, h => by
    simp only [zipP, List.getElem?_cons_succ] at h
    obtain ⟨u, v, h1, h2, h3⟩ := zipP_get h
    exact ⟨u, v, by simpa using h1, by simpa using h2, h3⟩
theorem goes_zipL (hL : a ∉ W.L) (h : H a = some (.lst vs)) (r : RVs K W H ps vs) (hM : b ∉ W.L) (h' : H b = some (.lst ws)) (r' : RVs K W H qs ws) : Goes K (Itz K a b) (zipP ps qs) W H := by
  have at_ : ∀ {W1 H1}, Vw W H W1 H1 → SqL K H1 a vs := fun st => SqL.of (msk_some.mp (st.same _ _ (msk_some.mpr ⟨hL, h⟩))).2
  have bt_ : ∀ {W1 H1}, Vw W H W1 H1 → SqL K H1 b ws := fun st => SqL.of (msk_some.mp (st.same _ _ (msk_some.mpr ⟨hM, h'⟩))).2
  refine ⟨fun W1 H1 i st hi => ?_, fun W1 H1 st => ⟨vs, ws, at_ st, bt_ st, by rw [zipP_len, r.len, r'.len]; omega⟩, fun W1 H1 i x H2 p s σ st hp R y => ?_⟩
  · rw [zipP_len] at hi
    have h1 : i < vs.length := by rw [r.len]; omega
    have h2 : i < ws.length := by rw [r'.len]; omega
    exact ⟨vs, ws, vs[i], ws[i], at_ st, bt_ st, List.getElem?_eq_getElem h1, List.getElem?_eq_getElem h2⟩
  · obtain ⟨T, z, z', e1, e2, e3, e4, e5⟩ := y
    obtain ⟨u, v, h1, h2, h3⟩ := zipP_get hp
    rw [h3]
    exact yldPair R e2 e3 e1 (atRep st r h1 (e4 _ (at_ st))) (atRep st r' h2 (e5 _ (bt_ st)))
theorem goes_zipT (h : SqT K (W.m H) a vs) (r : RVs K W H ps vs) (h' : SqT K (W.m H) b ws) (r' : RVs K W H qs ws) : Goes K (RZ.ItzT K a b) (zipP ps qs) W H := by
  have at_ : ∀ {W1 H1}, Vw W H W1 H1 → SqT K H1 a vs := fun st => sqT_mono (msk_sub _ _) (sqT_mono st.same h)
  have bt_ : ∀ {W1 H1}, Vw W H W1 H1 → SqT K H1 b ws := fun st => sqT_mono (msk_sub _ _) (sqT_mono st.same h')
  refine ⟨fun W1 H1 i st hi => ?_, fun W1 H1 st => ⟨vs, ws, at_ st, bt_ st, by rw [zipP_len, r.len, r'.len]; omega⟩, fun W1 H1 i x H2 p s σ st hp R y => ?_⟩
  · rw [zipP_len] at hi
    have h1 : i < vs.length := by rw [r.len]; omega
    have h2 : i < ws.length := by rw [r'.len]; omega
    exact ⟨vs, ws, vs[i], ws[i], at_ st, bt_ st, List.getElem?_eq_getElem h1, List.getElem?_eq_getElem h2⟩
  · obtain ⟨T, z, z', e1, e2, e3, e4, e5⟩ := y
    obtain ⟨u, v, h1, h2, h3⟩ := zipP_get hp
    rw [h3]
    exact yldPair R e2 e3 e1 (atRep st r h1 (e4 _ (at_ st))) (atRep st r' h2 (e5 _ (bt_ st)))
theorem rvT_m {c : Bool} {v : V} (r : RV K W H (.tup c ps) v) : ∃ a vs, v = .ref a ∧ SqT K (W.m H) a vs ∧ RVs K W H ps vs := rep_tup r
theorem rvS_m {v : V} (r : RV K W H (.scr ps) v) : ∃ a vs, v = .ref a ∧ SqL K (W.m H) a vs ∧ RVs K W H ps vs := by unfold RV Rep at r; exact r
end
section
variable {X : Cx} {Z : WX} {tg e e2 : Expr} {f f2 : EM} {ga : AM} {pos p : Pos}
def seqP (p : PV) (s : DS) : Re (List PV) := match p with
  | .lst ps => .ok ps s
  | .tup _ ps => .ok ps s
  | .scr ps => .ok ps s
  | _ => .bad
def seqI (f : EM) : IM := fun s => (f s).bind seqP
theorem i_seq (h : PX X Z e f) : PIX X Z tg e (seqI f) := by
  refine ⟨PI_imp (PI_or (L2.pi_list h.pe) (L2.pi_tup h.pe)) fun σ H Q ⟨W, s, R, h⟩ => ?_⟩
  unfold seqI at h
  cases e1 : f s with
  | bad => rw [e1] at h; exact h.elim
  | exc x s1 => rw [e1] at h; exact .inl ⟨W, s, R, by rw [e1]; exact h⟩
  | ok p s1 =>
    rw [e1] at h
    cases p with
    | lst ps =>
      refine .inl ⟨W, s, R, ?_⟩
      rw [e1]
      intro v W1 H1 st R1 rv
      obtain ⟨a, vs, rfl, h1, h2, h3⟩ := rv_lst_inv rv
      exact ⟨a, rfl, ⟨vs, SqL.of h2⟩, h _ W1 H1 st R1 (goes_list h1 h2 h3)⟩
    | scr ps =>
      refine .inl ⟨W, s, R, ?_⟩
      rw [e1]
      intro v W1 H1 st R1 rv
      obtain ⟨a, vs, rfl, h1, h3⟩ := rvS_m rv
      exact ⟨a, rfl, ⟨vs, sqL_mono (msk_sub _ _) h1⟩, h _ W1 H1 st R1 (goes_scr h1 h3)⟩
    | tup c ps =>
      refine .inr ⟨W, s, R, ?_⟩
      rw [e1]
      intro v W1 H1 st R1 rv
      obtain ⟨a, vs, rfl, h1, h3⟩ := rvT_m rv
      exact ⟨a, rfl, ⟨vs, sqT_mono (msk_sub _ _) h1⟩, h _ W1 H1 st R1 (goes_tup h1 h3)⟩
    | _ => exact h.elim
def big62 (i : Int) : Bool := decide (-(4611686018427387904) ≤ i ∧ i < 4611686018427387904)
def range1I (f : EM) : IM := fun s => (f s).bind fun p s1 => match p with
  | .int j => if big62 j then .ok (rangeP 0 j.toNat) s1 else .bad
  | _ => .bad
def range2I (f g : EM) : IM := fun s => (f s).bind fun p s1 => (g s1).bind fun q s2 => match p, q with
  | .int i, .int j => if big62 i && big62 j then .ok (rangeP i (j - i).toNat) s2 else .bad
  | _, _ => .bad
theorem i_range1 (hg : Gl X "range") (hm : X.mg "range" = none) (h : PX X Z e f) (hs : starEach [e] X.env = [(false, eval e X.env)] := by rfl) : PIX X Z tg (.Call (.Name "range" p) [e] [] pos) (range1I f) := by
  refine ⟨PI_imp (L2.pi_range1 hg hm (pa_consX h pa_nilX hs).pa hs) fun σ H Q ⟨W, s, R, h⟩ => ⟨W, s, R, ?_⟩⟩
  unfold range1I at h
  unfold consA nilA
  cases e1 : f s with
  | bad => rw [e1] at h; exact h.elim
  | exc x s1 => rw [e1] at h; exact h
  | ok p s1 =>
    rw [e1] at h
    intro vs W1 H1 st R1 rv
    have rv : Reps X.K W1.S (W1.m H1) [p] vs := rv
    unfold Reps at rv
    obtain ⟨v, r, rfl, h1, rv⟩ := rv
    unfold Reps at rv
    subst rv
    cases p with
    | int j =>
      simp only [Re.bind] at h
      by_cases hb : big62 j = true
      · rw [if_pos hb] at h
        have hb := of_decide_eq_true hb
        exact ⟨j, by rw [rv_int_inv h1], by omega, by omega, h _ W1 H1 st R1 goes_range⟩
      · rw [if_neg hb] at h
        exact h.elim
    | _ => exact h.elim
theorem i_range2 (hg : Gl X "range") (hm : X.mg "range" = none) (h : PX X Z e f) (h2 : PX X Z e2 f2) (hs : starEach [e, e2] X.env = [(false, eval e X.env), (false, eval e2 X.env)] := by rfl) (hs2 : starEach [e2] X.env = [(false, eval e2 X.env)] := by rfl) : PIX X Z tg (.Call (.Name "range" p) [e, e2] [] pos) (range2I f f2) := by
  refine ⟨PI_imp (L2.pi_range2 hg hm (pa_consX h (pa_consX h2 pa_nilX hs2) (by rw [hs, hs2])).pa hs hs2) fun σ H Q ⟨W, s, R, h⟩ => ⟨W, s, R, ?_⟩⟩
  unfold range2I at h
  unfold consA nilA
  cases e1 : f s with
  | bad => rw [e1] at h; exact h.elim
  | exc x s1 => rw [e1] at h; exact h
  | ok p s1 =>
    rw [e1] at h
    simp only [Re.bind] at h ⊢
    cases e3 : f2 s1 with
    | bad => rw [e3] at h; exact h.elim
    | exc x s2 => rw [e3] at h; exact h
    | ok q s2 =>
      rw [e3] at h
      intro vs W1 H1 st R1 rv
      have rv : Reps X.K W1.S (W1.m H1) [p, q] vs := rv
      unfold Reps at rv
      obtain ⟨v, r, rfl, h1, rv⟩ := rv
      unfold Reps at rv
      obtain ⟨v', r', rfl, h1', rv⟩ := rv
      unfold Reps at rv
      subst rv
      cases p with
      | int i =>
        cases q with
        | int j =>
          simp only at h
          by_cases hb : (big62 i && big62 j) = true
          · rw [if_pos hb] at h
            rw [Bool.and_eq_true] at hb
            have hb1 := of_decide_eq_true hb.1
            have hb2 := of_decide_eq_true hb.2
            exact ⟨i, j, by rw [rv_int_inv h1, rv_int_inv h1'], ⟨by omega, by omega, by omega, by omega⟩, h _ W1 H1 st R1 goes_range⟩
          · rw [if_neg hb] at h
            exact h.elim
        | _ => exact h.elim
      | _ => exact h.elim
def enumI (f : EM) : IM := fun s => (f s).bind fun p s1 => match p with
  | .lst ps => .ok (enumP 0 ps) s1
  | _ => .bad
theorem i_enum {elts : List Expr} {kk : Nat} {tpos : Pos} (hg : Gl X "enumerate") (hm : X.mg "enumerate" = none) (h : PX X Z e f) (hs : starEach [e] X.env = [(false, eval e X.env)] := by rfl) : PIX X Z (.Tuple elts kk tpos) (.Call (.Name "enumerate" p) [e] [] pos) (enumI f) := by
  refine ⟨PI_imp (L2.pi_enum hg hm (pa_consX h pa_nilX hs).pa hs) fun σ H Q ⟨W, s, R, h⟩ => ⟨W, s, R, ?_⟩⟩
  unfold enumI at h
  unfold consA nilA
  cases e1 : f s with
  | bad => rw [e1] at h; exact h.elim
  | exc x s1 => rw [e1] at h; exact h
  | ok p s1 =>
    rw [e1] at h
    intro vs W1 H1 st R1 rv
    have rv : Reps X.K W1.S (W1.m H1) [p] vs := rv
    unfold Reps at rv
    obtain ⟨v, r, rfl, h1, rv⟩ := rv
    unfold Reps at rv
    subst rv
    cases p with
    | lst ps =>
      obtain ⟨a, vs, rfl, g1, g2, g3⟩ := rv_lst_inv h1
      exact ⟨a, vs, rfl, SqL.of g2, h _ W1 H1 st R1 (goes_enum g1 g2 g3)⟩
    | _ => exact h.elim
def zipI (f g : EM) : IM := fun s => (f s).bind fun p s1 => (g s1).bind fun q s2 => match p, q with
  | .lst ps, .lst qs => .ok (zipP ps qs) s2
  | .tup _ ps, .tup _ qs => .ok (zipP ps qs) s2
  | _, _ => .bad
theorem i_zip {elts : List Expr} {kk : Nat} {tpos : Pos} (hg : Gl X "zip") (hm : X.mg "zip" = none) (h : PX X Z e f) (h2 : PX X Z e2 f2) (hs : starEach [e, e2] X.env = (false, eval e X.env) :: starEach [e2] X.env := by rfl) (hs2 : starEach [e2] X.env = (false, eval e2 X.env) :: starEach [] X.env := by rfl)
    (hpl : (backTo pos (starEach [e2] X.env)).any (·.1) = false := by rfl) : PIX X Z (.Tuple elts kk tpos) (.Call (.Name "zip" p) [e, e2] [] pos) (zipI f f2) := by
  refine ⟨PI_imp (RZ.pi_zipA hg hm (pa_consX h (pa_consX h2 pa_nilX hs2) hs).pa hs hpl) fun σ H Q ⟨W, s, R, h⟩ => ⟨W, s, R, ?_⟩⟩
  unfold zipI at h
  unfold consA nilA
  cases e1 : f s with
  | bad => rw [e1] at h; exact h.elim
  | exc x s1 => rw [e1] at h; exact h
  | ok p s1 =>
    rw [e1] at h
    simp only [Re.bind] at h ⊢
    cases e3 : f2 s1 with
    | bad => rw [e3] at h; exact h.elim
    | exc x s2 => rw [e3] at h; exact h
    | ok q s2 =>
      rw [e3] at h
      intro vs W1 H1 st R1 rv
      have rv : Reps X.K W1.S (W1.m H1) [p, q] vs := rv
      unfold Reps at rv
      obtain ⟨v, r, rfl, h1, rv⟩ := rv
      unfold Reps at rv
      obtain ⟨v', r', rfl, h1', rv⟩ := rv
      unfold Reps at rv
      subst rv
      cases p with
      | lst ps =>
        cases q with
        | lst qs =>
          obtain ⟨a, vs, rfl, g1, g2, g3⟩ := rv_lst_inv h1
          obtain ⟨b, ws, rfl, k1, k2, k3⟩ := rv_lst_inv h1'
          exact ⟨a, b, vs, ws, rfl, .inl ⟨SqL.of g2, SqL.of k2, h _ W1 H1 st R1 (goes_zipL g1 g2 g3 k1 k2 k3)⟩⟩
        | _ => exact h.elim
      | tup c ps =>
        cases q with
        | tup c' qs =>
          obtain ⟨a, vs, rfl, g1, g2⟩ := rvT_m h1
          obtain ⟨b, ws, rfl, k1, k2⟩ := rvT_m h1'
          exact ⟨a, b, vs, ws, rfl, .inr ⟨sqT_mono (msk_sub _ _) g1, sqT_mono (msk_sub _ _) k1, h _ W1 H1 st R1 (goes_zipT g1 g2 k1 k2)⟩⟩
        | _ => exact h.elim
      | _ => exact h.elim
/-! ### list comprehensions -/
def Z0 : WX := fun _ _ _ _ => False
def noX {α : Type} (r : Re α) : Re α := match r with
  | .exc _ _ => .bad
  | r => r
def wipeE : List Nat → DE → DE
  | [], e => e
  | v :: vs, e => (wipeE vs e).set v .no
def rest1 (sl : Sl) : Sl := match sl with
  | .val p => .val p
  | _ => .no
def restE : List Nat → DE → DE → DE
  | [], _, e => e
  | v :: vs, e0, e => (restE vs e0 e).set v (rest1 (e0.getD v .no))
def lcL (t : Tg) (tt : TM) (f : EM) (vs : List Nat) : List PV → List PV → DS → Re (List PV)
  | [], acc, s => .ok acc s
  | p :: ps, acc, s => match asgT t p (wipeE vs s.e) with
    | none => .bad
    | some e' => (tt ⟨e', s.t⟩).bind fun b s1 => if b = true then (f s1).bind fun y s2 => if acc.length < sizeLine then lcL t tt f vs ps (acc ++ [y]) s2 else .bad
      else lcL t tt f vs ps acc s1
def lcO (it : IM) (t : Tg) (tt : TM) (f : EM) (vs : List Nat) : OM := fun s => (it s).bind fun ps s1 => (noX (lcL t tt f vs ps [] s1)).bind fun acc s2 => .ok (.lst acc, true) ⟨restE vs s1.e s2.e, s2.t⟩
theorem wipeE_get (e : DE) (j : Nat) : ∀ vs : List Nat, (wipeE vs e)[j]? = if j ∈ vs then e[j]?.map (fun _ => Sl.no) else e[j]?
  | [] => by simp [wipeE]
  | v :: vs => by
    have hl : ∀ vs : List Nat, (wipeE vs e).length = e.length := fun vs => by
      induction vs with
      | nil => rfl
      | cons a b ih => simp [wipeE, ih]
    unfold wipeE
    by_cases h : v = j
    · subst h
      rw [if_pos List.mem_cons_self]
      by_cases hv : v < e.length
      · rw [List.getElem?_set_self (by rw [hl]; exact hv), List.getElem?_eq_getElem hv]
        rfl
      · rw [List.getElem?_eq_none (by rw [List.length_set, hl]; omega), List.getElem?_eq_none (by omega)]
        rfl
    · rw [List.getElem?_set_ne h, wipeE_get e j vs]
      by_cases hj : j ∈ vs
      · rw [if_pos hj, if_pos (List.mem_cons_of_mem _ hj)]
      · rw [if_neg hj, if_neg (by simp [hj, Ne.symm h])]
theorem wipeE_len (e : DE) : ∀ vs : List Nat, (wipeE vs e).length = e.length
  | [] => rfl
  | v :: vs => by simp [wipeE, wipeE_len e vs]
theorem restE_len (e0 e : DE) : ∀ vs : List Nat, (restE vs e0 e).length = e.length
  | [] => rfl
  | v :: vs => by simp [restE, restE_len e0 e vs]
theorem restE_get (e0 e : DE) (j : Nat) : ∀ vs : List Nat, (restE vs e0 e)[j]? = if j ∈ vs then e[j]?.map (fun _ => rest1 (e0.getD j .no)) else e[j]?
  | [] => by simp [restE]
  | v :: vs => by
    unfold restE
    by_cases h : v = j
    · subst h
      rw [if_pos List.mem_cons_self]
      by_cases hv : v < e.length
      · rw [List.getElem?_set_self (by rw [restE_len]; exact hv), List.getElem?_eq_getElem hv]
        rfl
      · rw [List.getElem?_eq_none (by rw [List.length_set, restE_len]; omega), List.getElem?_eq_none (by omega)]
        rfl
    · rw [List.getElem?_set_ne h, restE_get e0 e j vs]
      by_cases hj : j ∈ vs
      · rw [if_pos hj, if_pos (List.mem_cons_of_mem _ hj)]
      · rw [if_neg hj, if_neg (by simp [hj, Ne.symm h])]
section
variable {K : PySem.W.Frag} {W W1 W2 : Wd} {H H1 H2 : Hp} {s s1 : DS} {σ : L2.St}
theorem RSt.wipe (R : RSt K W H s σ) (vs : List Nat) : RSt K W H ⟨wipeE vs s.e, s.t⟩ (wipe σ vs) := by
  have get : ∀ {j : Nat} {sl : Sl}, (wipeE vs s.e)[j]? = some sl → sl ≠ .no → j ∉ vs ∧ s.e[j]? = some sl := fun {j sl} h hn => by
    rw [wipeE_get] at h
    split at h
    · cases e : s.e[j]? with
      | none => rw [e] at h; cases h
      | some z => rw [e] at h; exact absurd (Option.some.inj h).symm hn
    · rename_i hj
      exact ⟨hj, h⟩
  have at_ : ∀ {j : Nat}, j ∉ vs → (L2.wipe σ vs)[j]? = σ[j]? := fun {j} h => by rw [wipe_get, if_neg h]
  refine ⟨⟨by rw [wipeE_len, wipe_length]; exact R.e.len, fun i p h => ?_, fun i p h => ?_, fun i j p q a h1 h2 h3 h4 => ?_⟩, R.t⟩
  · obtain ⟨n, e⟩ := get h (by simp)
    rw [at_ n]
    exact R.e.at_ i p e
  · obtain ⟨n, e⟩ := get h (by simp)
    rw [at_ n]
    exact R.e.ow i p e
  · obtain ⟨n1, e1⟩ := get h1 (by simp)
    obtain ⟨n2, e2⟩ := get h2 (by simp)
    rw [at_ n1] at h3
    rw [at_ n2] at h4
    exact R.e.inj i j p q a e1 e2 h3 h4
theorem Wd.m_upd {D : Addr} {o : HO} (h : D ∈ W.L) : W.m (upd H D o) = W.m H := by
  funext b
  unfold Wd.m msk
  split
  · rfl
  · rename_i hb
    exact upd_ne fun z => hb (z ▸ h)
/-- what the code around keeps is changed by it -/
theorem RSt.poke (R : RSt K W H s σ) {D : Addr} {o : HO} (h : D ∈ W.P) : RSt K W (upd H D o) s σ := by
  have hL : D ∈ W.L := by simp [Wd.L, h]
  have con : ∀ {p : PV} {a : Addr}, a ≠ D → Con K W H p a → Con K W (upd H D o) p a := fun {p a} hn c => by
    unfold Con at c ⊢
    cases p <;> simp only [Wd.m_upd hL, upd_ne hn] <;> exact c
  refine ⟨⟨R.e.len, fun i p e => ?_, fun i p e => ?_, R.e.inj⟩, ⟨R.t.len, fun k p a e1 e2 => con (fun z => R.t.ps a (List.mem_of_getElem? e2) (z ▸ h)) (R.t.at_ k p a e1 e2), R.t.nd, R.t.ap, fun a ha => ?_, R.t.pa, R.t.ps, fun a ha => let ⟨u, hu⟩ := R.t.ot a ha; ⟨u, by rw [upd_ne (show a ≠ D from fun z => R.t.pa a ha (z ▸ h))]; exact hu⟩⟩⟩
  · obtain ⟨v, e1, r⟩ := R.e.at_ i p e
    refine ⟨v, e1, ?_⟩
    show Rep K W.S (W.m (upd H D o)) p v
    rw [Wd.m_upd hL]
    exact r
  · obtain ⟨a, e1, e2, c⟩ := R.e.ow i p e
    exact ⟨a, e1, e2, con (fun z => R.t.pa a e2 (z ▸ h)) c⟩
  · by_cases z : a = D
    · rw [z]; exact ⟨_, upd_same⟩
    · rw [upd_ne z]; exact R.t.pt a ha
/-- the world with D kept -/
def Wd.keep (W : Wd) (D : Addr) : Wd := ⟨W.O, W.S, D :: W.P⟩
/-- the world with what the code around keeps as it was at W0 -/
def Wd.un (W W0 : Wd) : Wd := ⟨W.O, W.S, W0.P⟩
theorem RSt.keep (R : RSt K W H s σ) {D : Addr} {o : HO} (hD : H D = none) (hO : D ∉ W.O) : RSt K (W.keep D) (upd H D o) s σ ∧ Vw W H (W.keep D) (upd H D o) := by
  have vw : Vw W H (W.keep D) (upd H D o) := by
    refine ⟨fun b u e => ?_, Pre.refl _⟩
    obtain ⟨h1, h2⟩ := msk_some.mp e
    have n := ne_of_none h2 hD
    obtain ⟨a1, a2, a3⟩ := Wd.notL.mp h1
    exact msk_some.mpr ⟨Wd.notL.mpr ⟨a1, a2, fun z => (List.mem_cons.mp z).elim n a3⟩, by rw [upd_ne n]; exact h2⟩
  have con : ∀ {p : PV} {a : Addr}, Con K W H p a → Con K (W.keep D) (upd H D o) p a := fun {p a} c => by
    obtain ⟨u, hu⟩ := c.there
    have n := ne_of_none hu hD
    unfold Con at c ⊢
    cases p with
    | lst ps => obtain ⟨vs, h1, h2⟩ := c; exact ⟨vs, by rw [upd_ne n]; exact h1, h2.mono vw.pre vw.same⟩
    | dK ps => obtain ⟨vs, h1, h2⟩ := c; exact ⟨vs, by rw [upd_ne n]; exact h1, h2.mono vw.pre vw.same⟩
    | dT ps => obtain ⟨vs, h1, h2⟩ := c; exact ⟨vs, by rw [upd_ne n]; exact h1, h2.mono vw.pre vw.same⟩
    | ins C ps => obtain ⟨dx, vs, h1, h2⟩ := c; exact ⟨dx, vs, by rw [upd_ne n]; exact h1, h2.mono vw.pre vw.same⟩
    | tab P q => obtain ⟨h0, ps, h1, h2⟩ := c; exact ⟨h0, ps, by rw [upd_ne n]; exact h1, h2.mono vw.same⟩
    | _ => exact c.elim
  refine ⟨⟨⟨R.e.len, fun i p e => ?_, fun i p e => ?_, R.e.inj⟩, ⟨R.t.len, fun k p a e1 e2 => con (R.t.at_ k p a e1 e2), R.t.nd, R.t.ap, fun a ha => ?_, fun a ha z => ?_, fun a ha z => ?_, fun a ha => let ⟨u, hu⟩ := R.t.ot a ha; ⟨u, by rw [upd_ne (ne_of_none hu hD)]; exact hu⟩⟩⟩, vw⟩
  · obtain ⟨v, e1, r⟩ := R.e.at_ i p e
    exact ⟨v, e1, r.mono vw.pre vw.same⟩
  · obtain ⟨a, e1, e2, c⟩ := R.e.ow i p e
    exact ⟨a, e1, e2, con c⟩
  · rcases List.mem_cons.mp ha with z | z
    · rw [z]; exact ⟨_, upd_same⟩
    · obtain ⟨u, hu⟩ := R.t.pt a z
      exact ⟨u, by rw [upd_ne (ne_of_none hu hD)]; exact hu⟩
  · rcases List.mem_cons.mp z with z | z
    · rw [z] at ha
      exact hO ha
    · exact R.t.pa a ha z
  · rcases List.mem_cons.mp z with z | z
    · rw [z] at ha
      exact R.nS hD ha
    · exact R.t.ps a ha z
/-- from the start W1, H1 of a comprehension: how a turn's state lies, its list at D -/
structure LSt (W1 : Wd) (H1 : Hp) (D : Addr) (W2 : Wd) (H2 : Hp) : Prop where
  st : Step W1 H1 (W2.un W1) H2
  P : W2.P = D :: W1.P
  fr : H1 D = none
  nP : D ∉ W1.P
theorem LSt.vw {D : Addr} (l : LSt W1 H1 D W2 H2) : Vw W1 H1 W2 H2 := by
  refine ⟨fun b u e => ?_, l.st.pre⟩
  have n : b ≠ D := ne_of_none (msk_some.mp e).2 l.fr
  obtain ⟨h1, h2⟩ := msk_some.mp (l.st.same b u e)
  obtain ⟨a1, a2, a3⟩ := Wd.notL.mp h1
  exact msk_some.mpr ⟨Wd.notL.mpr ⟨a1, a2, by rw [l.P]; exact fun z => (List.mem_cons.mp z).elim n a3⟩, h2⟩
theorem LSt.step {D : Addr} {W3 : Wd} {H3 : Hp} (l : LSt W1 H1 D W2 H2) (s : Step W2 H2 W3 H3) : LSt W1 H1 D W3 H3 := by
  have vw := l.vw.trans s.vw
  have hP : W3.P = D :: W1.P := s.prv.trans l.P
  refine ⟨⟨fun b u e => ?_, fun b h => l.st.there b (s.there b h), fun b h => (s.new b h).elim (l.st.new b) fun z => .inr (l.st.there b z), vw.pre, fun b h => ?_, rfl, fun b h => ?_⟩, hP, l.fr, l.nP⟩
  · obtain ⟨h1, h2⟩ := msk_some.mp (vw.same b u e)
    obtain ⟨a1, a2, a3⟩ := Wd.notL.mp h1
    exact msk_some.mpr ⟨Wd.notL.mpr ⟨a1, a2, fun z => a3 (by rw [hP]; exact List.mem_cons_of_mem _ z)⟩, h2⟩
  · rcases s.sto b h with z | z | z
    · exact l.st.sto b z
    · exact .inr (l.st.new b z)
    · exact .inr (.inr (l.st.there b z))
  · exact (s.pk b (by rw [l.P]; exact List.mem_cons_of_mem _ h)).trans (l.st.pk b h)
theorem LSt.poke {D : Addr} {o : HO} (l : LSt W1 H1 D W2 H2) : LSt W1 H1 D W2 (upd H2 D o) := by
  refine ⟨⟨fun b u e => ?_, fun b h => ?_, l.st.new, l.st.pre, l.st.sto, rfl, fun b h => ?_⟩, l.P, l.fr, l.nP⟩
  · obtain ⟨h1, h2⟩ := msk_some.mp (l.st.same b u e)
    exact msk_some.mpr ⟨h1, by rw [upd_ne (ne_of_none (msk_some.mp e).2 l.fr)]; exact h2⟩
  · by_cases z : b = D
    · rw [z]; exact l.fr
    · rw [upd_ne z] at h
      exact l.st.there b h
  · have n : b ≠ D := fun z => l.nP (z ▸ h)
    rw [upd_ne n]
    exact l.st.pk b h
theorem LSt.start {D : Addr} {o : HO} (hD : H1 D = none) (hP : D ∉ W1.P) : LSt W1 H1 D (W1.keep D) (upd H1 D o) := by
  refine ⟨?_, rfl, hD, hP⟩
  exact Step.alloc hD hP
/-- the end: the list is owned -/
theorem LSt.fin {D : Addr} (l : LSt W1 H1 D W2 H2) : Step W1 H1 ⟨D :: W2.O, W2.S, W1.P⟩ H2 := by
  refine ⟨fun b u e => ?_, l.st.there, fun b h => ?_, l.st.pre, l.st.sto, rfl, l.st.pk⟩
  · have n : b ≠ D := ne_of_none (msk_some.mp e).2 l.fr
    obtain ⟨h1, h2⟩ := msk_some.mp (l.st.same b u e)
    obtain ⟨a1, a2, a3⟩ := Wd.notL.mp h1
    exact msk_some.mpr ⟨Wd.notL.mpr ⟨fun z => (List.mem_cons.mp z).elim n a1, a2, a3⟩, h2⟩
  · rcases List.mem_cons.mp h with z | z
    · rw [z]; exact .inr l.fr
    · exact l.st.new b z
theorem LSt.fin_m {D : Addr} (l : LSt W1 H1 D W2 H2) : Wd.m ⟨D :: W2.O, W2.S, W1.P⟩ H2 = W2.m H2 := by
  funext b
  unfold Wd.m msk
  have e : b ∈ Wd.L ⟨D :: W2.O, W2.S, W1.P⟩ ↔ b ∈ W2.L := by
    simp only [Wd.L, l.P, List.mem_append, List.mem_cons]
    constructor
    · rintro ((h | h) | h | h) <;> simp [h]
    · rintro (h | h | h | h) <;> simp [h]
  by_cases h : b ∈ W2.L
  · rw [if_pos h, if_pos (e.mpr h)]
  · rw [if_neg h, if_neg (fun z => h (e.mp z))]
theorem LSt.fin_R {D : Addr} {vs : List Nat} {e0 : DE} (l : LSt W1 H1 D W2 H2) (hD : ∃ o, H2 D = some o) (R1 : RE K W1 H1 e0 σ) (R : RSt K W2 H2 ⟨wipeE vs s.e, s.t⟩ (L2.wipe σ vs)) : RSt K ⟨D :: W2.O, W2.S, W1.P⟩ H2 ⟨restE vs e0 s.e, s.t⟩ σ := by
  have hm := l.fin_m
  have con : ∀ {p : PV} {a : Addr}, Con K W2 H2 p a → Con K ⟨D :: W2.O, W2.S, W1.P⟩ H2 p a := fun {p a} c => by
    unfold Con at c ⊢
    rw [hm]
    exact c
  have stf := l.fin
  have len : s.e.length = σ.length := by
    have := R.e.len
    rw [wipeE_len, wipe_length] at this
    exact this
  have out : ∀ {j : Nat}, j ∉ vs → (wipeE vs s.e)[j]? = s.e[j]? ∧ (L2.wipe σ vs)[j]? = σ[j]? := fun {j} h => ⟨by rw [wipeE_get, if_neg h], by rw [wipe_get, if_neg h]⟩
  have get : ∀ {j : Nat} {p : PV}, (restE vs e0 s.e)[j]? = some (.own p) → j ∉ vs ∧ s.e[j]? = some (.own p) := fun {j p} h => by
    rw [restE_get] at h
    split at h
    · cases e : s.e[j]? with
      | none => rw [e] at h; cases h
      | some z =>
        rw [e] at h
        have h := Option.some.inj h
        unfold rest1 at h
        split at h <;> cases h
    · rename_i hj
      exact ⟨hj, h⟩
  refine ⟨⟨by rw [restE_len]; exact len, fun j p h => ?_, fun j p h => ?_, fun i j p q a h1 h2 h3 h4 => ?_⟩, ⟨R.t.len, fun k p a e1 e2 => con (R.t.at_ k p a e1 e2), R.t.nd, fun a ha => ?_, fun a ha => ?_, fun a ha z => ?_, fun a ha z => R.t.ps a ha (by rw [l.P]; exact List.mem_cons_of_mem _ z), fun a ha => (List.mem_cons.mp ha).elim (fun z => z ▸ hD) (R.t.ot a)⟩⟩
  · by_cases hj : j ∈ vs
    · rw [restE_get, if_pos hj] at h
      cases e : s.e[j]? with
      | none => rw [e] at h; cases h
      | some z =>
        rw [e] at h
        have h := Option.some.inj h
        unfold rest1 at h
        split at h
        · rename_i q hq
          have hq2 : e0[j]? = some (.val q) := by
            have : j < e0.length := by
              rw [R1.len, ← len]
              exact (List.getElem?_eq_some_iff.mp e).1
            rw [List.getD_eq_getElem?_getD, List.getElem?_eq_getElem this] at hq
            rw [List.getElem?_eq_getElem this]
            exact congrArg some hq
          cases h
          obtain ⟨v, e1, r⟩ := R1.at_ j _ hq2
          exact ⟨v, e1, stf.rv r⟩
        · cases h
    · obtain ⟨e1, e2⟩ := out hj
      rw [restE_get, if_neg hj, ← e1] at h
      obtain ⟨v, h1, h2⟩ := R.e.at_ j p h
      rw [e2] at h1
      refine ⟨v, h1, ?_⟩
      show Rep K W2.S (Wd.m ⟨D :: W2.O, W2.S, W1.P⟩ H2) p v
      rw [hm]
      exact h2
  · obtain ⟨hj, h⟩ := get h
    obtain ⟨e1, e2⟩ := out hj
    obtain ⟨a, h1, h2, h3⟩ := R.e.ow j p (e1.trans h)
    rw [e2] at h1
    exact ⟨a, h1, List.mem_cons_of_mem _ h2, con h3⟩
  · obtain ⟨hi, g1⟩ := get h1
    obtain ⟨hj, g2⟩ := get h2
    obtain ⟨u1, u2⟩ := out hi
    obtain ⟨w1, w2⟩ := out hj
    exact R.e.inj i j p q a (u1.trans g1) (w1.trans g2) (u2.trans h3) (w2.trans h4)
  · rcases List.mem_cons.mp ha with z | z
    · rw [z]
      intro y
      exact R.t.ps D y (by rw [l.P]; exact List.mem_cons_self)
    · exact R.t.ap a z
  · obtain ⟨o, ho⟩ := R.t.pt a (by rw [l.P]; exact List.mem_cons_of_mem _ ha)
    exact ⟨o, ho⟩
  · rcases List.mem_cons.mp ha with y | y
    · rw [y] at z
      exact l.nP z
    · exact R.t.pa a y (by rw [l.P]; exact List.mem_cons_of_mem _ z)
theorem rvs_poke {D : Addr} {o : HO} {ps : List PV} {vs : List V} (h : D ∈ W.P) (r : RVs K W H ps vs) : RVs K W (upd H D o) ps vs := by
  show Reps K W.S (W.m (upd H D o)) ps vs
  rw [Wd.m_upd (by simp [Wd.L, h])]
  exact r
end
variable {it : IM} {t : Tg} {tt : TM} {vs : List Nat}
theorem lcL_cons (p : PV) (ps acc : List PV) (s : DS) : lcL t tt f vs (p :: ps) acc s = match asgT t p (wipeE vs s.e) with
    | none => .bad
    | some e' => (tt ⟨e', s.t⟩).bind fun b s1 => if b = true then (f s1).bind fun y s2 => if acc.length < sizeLine then lcL t tt f vs ps (acc ++ [y]) s2 else .bad
      else lcL t tt f vs ps acc s1 := rfl
theorem wipe_wipe (σ : L2.St) : L2.wipe (L2.wipe σ vs) vs = L2.wipe σ vs := by
  refine List.ext_getElem? fun j => ?_
  rw [wipe_get, wipe_get]
  split
  · cases σ[j]? <;> rfl
  · rfl
theorem restE_own {e0 e : DE} {j : Nat} {p : PV} (h : (restE vs e0 e)[j]? = some (.own p)) : j ∉ vs ∧ e[j]? = some (.own p) := by
  rw [restE_get] at h
  split at h
  · cases e1 : e[j]? with
    | none => rw [e1] at h; cases h
    | some z =>
      rw [e1] at h
      have h := Option.some.inj h
      unfold rest1 at h
      split at h <;> cases h
  · rename_i hj
    exact ⟨hj, h⟩
theorem tLc_of {Q : VK} {σ : L2.St} {H : Hp} {K : PySem.W.Frag} (ht : tgIn t vs = true) (h : tO K Z (lcO it t tt f vs) σ H Q) : tLc (tI K Z it) (gX K t) (tT K Z0 tt) (tE K Z0 f) vs σ H Q := by
  obtain ⟨W, s, R, h⟩ := h
  refine ⟨W, s, R, Post.bind h fun ps s1 J W1 H1 _ st0 R1 G q D hD => ?_⟩
  have G : Goes K J ps W1 H1 := G
  obtain ⟨W1', stN, R1', hL⟩ := R1.newL hD
  obtain ⟨nO, nS, nP⟩ := Wd.notL.mp hL
  have q := Post.step q stN
  obtain ⟨Rk, vk⟩ := R1'.keep (o := .lst []) hD nO
  refine ⟨fun i m H2 => m = ps.length - i ∧ i ≤ ps.length ∧ ∃ W2 s2 acc av, LSt W1' H1 D W2 H2 ∧ RSt K W2 H2 ⟨wipeE vs s2.e, s2.t⟩ (L2.wipe σ vs) ∧ H2 D = some (.lst av) ∧ RVs K W2 H2 acc av ∧ lcL t tt f vs ps [] s1 = lcL t tt f vs (ps.drop i) acc s2,
    ⟨ps.length, by simp, Nat.zero_le _, W1'.keep D, s1, [], [], LSt.start hD nP, Rk.wipe vs, upd_same, reps_nil, rfl⟩, ?_⟩
  rintro i m H2 ⟨rfl, hi, W2, s2, acc, av, l, R2, hA, rA, eq⟩
  have vw : Vw W1 H1 W2 H2 := stN.vw.trans l.vw
  by_cases hlt : i < ps.length
  · refine .inr ⟨G.go W2 H2 i vw hlt, fun H2 => i + 1 ≤ ps.length ∧ ∃ W2 s2 acc av, LSt W1' H1 D W2 H2 ∧ RSt K W2 H2 ⟨wipeE vs s2.e, s2.t⟩ (L2.wipe σ vs) ∧ H2 D = some (.lst av) ∧ RVs K W2 H2 acc av ∧ lcL t tt f vs ps [] s1 = lcL t tt f vs (ps.drop (i + 1)) acc s2, fun H' z => ⟨ps.length - (i + 1), by omega, rfl, z⟩, fun x H3 y => ?_⟩
    obtain ⟨W3, st3, R3, rv⟩ := G.yld W2 H2 i x H3 ps[i] ⟨wipeE vs s2.e, s2.t⟩ (L2.wipe σ vs) vw (List.getElem?_eq_getElem hlt) R2 y
    have l3 := l.step st3
    have eq2 := eq
    rw [List.drop_eq_getElem_cons hlt, lcL_cons] at eq2
    -- the result is no failure
    have good : ∀ {P : Prop}, (lcL t tt f vs ps [] s1 = .bad ∨ ∃ x s', lcL t tt f vs ps [] s1 = .exc x s') → P := fun {P} z => by
      rcases z with z | ⟨x, s', z⟩ <;> (rw [z] at q; exact q.elim)
    cases e1 : asgT t ps[i] (wipeE vs s2.e) with
    | none => simp only [e1] at eq2; exact good (.inl eq2)
    | some e2 =>
      simp only [e1] at eq2
      refine ⟨W3, ⟨wipeE vs s2.e, s2.t⟩, ps[i], R3, rv, e2, e1, fun σ4 hw R4 => ⟨(hw vs ht).trans (wipe_wipe σ), W3, ⟨e2, s2.t⟩, R4, ?_⟩⟩
      have hw4 : L2.wipe σ4 vs = L2.wipe σ vs := (hw vs ht).trans (wipe_wipe σ)
      have inP : ∀ {W' : Wd}, W'.P = D :: W1'.P → D ∈ W'.P := fun z => by rw [z]; exact List.mem_cons_self
      cases e3 : tt ⟨e2, s2.t⟩ with
      | bad => rw [e3] at eq2; exact good (.inl eq2)
      | exc x s3 => rw [e3] at eq2; exact good (.inr ⟨x, s3, eq2⟩)
      | ok b s3 =>
        rw [e3] at eq2
        simp only [Re.bind] at eq2
        intro c W4 H4 st4 R5 rc
        obtain rfl : c = b := rc
        have l4 := l3.step st4
        have hA4 : H4 D = some (.lst av) := by
          rw [st4.pk D (inP l3.P), st3.pk D (inP l.P)]
          exact hA
        cases c with
        | false =>
          rw [if_neg (by decide)] at eq2 ⊢
          exact ⟨hlt, W4, s3, acc, av, l4, by rw [← hw4]; exact R5.wipe vs, hA4, (st3.trans st4).rvs rA, eq2⟩
        | true =>
          rw [if_pos rfl] at eq2 ⊢
          refine ⟨W4, s3, R5, ?_⟩
          cases e4 : f s3 with
          | bad => rw [e4] at eq2; exact good (.inl eq2)
          | exc x s4 => rw [e4] at eq2; exact good (.inr ⟨x, s4, eq2⟩)
          | ok y s4 =>
            rw [e4] at eq2
            simp only at eq2
            intro v W5 H5 st5 R6 rv5
            have l5 := l4.step st5
            have hA5 : H5 D = some (.lst av) := by
              rw [st5.pk D (inP l4.P)]
              exact hA4
            by_cases hz : acc.length < sizeLine
            · rw [if_pos hz] at eq2
              exact ⟨av, hA5, by rw [rA.len]; exact hz, hlt, W5, s4, acc ++ [y], av ++ [v], l5.poke, by rw [← hw4]; exact (R6.wipe vs).poke (inP l5.P), upd_same,
                rvs_poke (inP l5.P) ((((st3.trans st4).trans st5).rvs rA).app (reps_cons rv5 reps_nil)), eq2⟩
            · rw [if_neg hz] at eq2
              exact good (.inl eq2)
  · have e : i = ps.length := by omega
    subst e
    rw [List.drop_length] at eq
    refine .inl ⟨G.stop W2 H2 vw, ?_⟩
    rw [eq] at q
    refine q (.ref D) ⟨D :: W2.O, W2.S, W1'.P⟩ H2 l.fin (l.fin_R ⟨_, hA⟩ R1'.e R2) ⟨D, rfl, List.mem_cons_self, ?_, fun j p hj z => ?_⟩
    · refine ⟨av, hA, ?_⟩
      show Reps K W2.S (Wd.m ⟨D :: W2.O, W2.S, W1'.P⟩ H2) acc av
      rw [l.fin_m]
      exact rA
    · obtain ⟨hj, hj2⟩ := restE_own hj
      obtain ⟨a, g1, g2, _⟩ := R2.e.ow j p (by rw [wipeE_get, if_neg hj]; exact hj2)
      rw [wipe_get, if_neg hj] at g1
      rw [g1] at z
      have za : a = D := by injection z with z; injection z with z; injection z
      exact R2.t.pa a g2 (by rw [l.P, za]; exact List.mem_cons_self)
structure PTsX (X : Cx) (ifs : List Expr) (f : TM) : Prop where
  pts : PTs X ifs (tT X.K Z0 f)
def yesT : TM := fun s => .ok true s
theorem t_nil : PTsX X [] yesT := ⟨⟨fun pins s σ H Q I ⟨W, s1, R, h⟩ => L2.pts_nil.run pins s σ H Q I (h true W H (Step.refl _ _) R rfl)⟩⟩
theorem t_one {c : Expr} (h : PTX X Z0 c tt) : PTsX X [c] tt := ⟨L2.pts_one h.pt⟩
/-- the block of a comprehension, wherever it starts -/
def Blk (X : Cx) (scope : Scope) (C : Cx → Prop) : Prop := ∀ (s : Shared) (H : Hp) (L : Addr) (cl : List (Str × Addr)) (fp : List Addr), C (X.blk s H scope (compEnvC scope cl L X.env) fp)
theorem po_lc {elt tgt iter : Expr} {ifs : List Expr} {scope : Scope} {own : List (Str × Nat)} (hc : X.calm = true) (hN : X.N.Nodup) (hi : PIX X Z tgt iter it) (ok : BlkOk X.N X.env.scope scope own) (hg : Blk X scope fun Y => PGX Y tgt t) (ht : Blk X scope fun Y => PTsX Y ifs tt) (he : Blk X scope fun Y => PX Y Z0 elt f)
    (hv : own.map (·.2) = vs := by rfl) (hin : tgIn t vs = true := by rfl) (hs : ∀ x, foldedSetIterable iter X.env x = pure x := by intro _; rfl) : PO X Z (.ListComp elt [⟨tgt, iter, ifs, 0⟩] scope pos) (lcO it t tt f vs) := by
  subst hv
  exact ⟨PE_imp (L2.pe_lc (wi := tI X.K Z it) (g := gX X.K t) (tt := tT X.K Z0 tt) (te := tE X.K Z0 f) hc hN hi.pi ok (fun s H L cl fp => (hg s H L cl fp).pg) (fun s H L cl fp => (ht s H L cl fp).pts) (fun s H L cl fp => (he s H L cl fp).pe) hs) fun σ H Q h => tLc_of hin h⟩
theorem ps_setLcX {i : Nat} {y : Str} {py spos : Pos} {elt tgt iter : Expr} {ifs : List Expr} {scope : Scope} {own : List (Str × Nat)} (hc : X.calm = true) (hN : X.N.Nodup) (hy : X.N[i]? = some y) (hyl : X.env.scope.names.lookup y = some .local)
    (hsw : swapsWith (.ListComp elt [⟨tgt, iter, ifs, 0⟩] scope pos) (some (.Name y py)) spos.line X.env = pure true) (hi : PIX X Z tgt iter it) (ok : BlkOk X.N X.env.scope scope own) (hg : Blk X scope fun Y => PGX Y tgt t) (ht : Blk X scope fun Y => PTsX Y ifs tt) (he : Blk X scope fun Y => PX Y Z0 elt f)
    (hv : own.map (·.2) = vs := by rfl) (hin : tgIn t vs = true := by rfl) (hs : ∀ x, foldedSetIterable iter X.env x = pure x := by intro _; rfl) : PSX X Z (.Assign [.Name y py] (.ListComp elt [⟨tgt, iter, ifs, 0⟩] scope pos) spos) (setS i (lcO it t tt f vs)) := by
  subst hv
  refine ⟨PS_imp (L2.ps_setLc (wi := tI X.K Z it) (g := gX X.K t) (tt := tT X.K Z0 tt) (te := tE X.K Z0 f) hc hN hy hyl hsw hi.pi ok (fun s H L cl fp => (hg s H L cl fp).pg) (fun s H L cl fp => (ht s H L cl fp).pts) (fun s H L cl fp => (he s H L cl fp).pe) hs) fun D σ H ⟨W, s, R, h⟩ => ?_⟩
  exact tLc_of hin ⟨W, s, R, PostS.bindE h fun p s1 y W1 H1 _ st R1 ry q => q _ W1 H1 (Step.refl _ _) (R1.put ry)⟩
end
end DR
/-! DR: functions and calls. -/
namespace DR
open PySem PySem.Spec PyProof.Rows L2
/-- how a call ends -/
inductive FR where
  | ok (p : PV) (fr : Bool) (t : DT) | exc (x : Exn) (t : DT) | bad
abbrev SemF := List PV → DT → FR
def frameE (n : Nat) (ps : List PV) : DE := ps.map Sl.val ++ List.replicate (n - ps.length) .no
/-- a def by its body over n names -/
def bodyF (n : Nat) (b : SM) : SemF := fun ps t => match b ⟨frameE n ps, t⟩ with
  | .ok (.rt p fr) s => .ok p fr s.t
  | .ok .nx s => .ok .non false s.t
  | .ok .bk _ => .bad
  | .ok .ct _ => .bad
  | .exc x s => .exc x s.t
  | .bad => .bad
def rF (K : PySem.W.Frag) (W : Wd) (H : Hp) (p : PV) (fr : Bool) (v : V) : Prop := if fr = true then ∃ a, v = .ref a ∧ a ∈ W.O ∧ Con K W H p a else RV K W H p v
def PostF (K : PySem.W.Frag) (W : Wd) (H : Hp) (r : FR) (Q : VK) (E : XK) : Prop := match r with
  | .ok p fr t' => ∀ v W' H', Step W H W' H' → RS K W' H' t' → rF K W' H' p fr v → Q v H'
  | .exc x t' => ∀ d W' H', Step W H W' H' → RS K W' H' t' → XR K W' H' x d → E (.ref x.C) d H'
  | .bad => False
/-- the promise of a def of n parameters -/
def spF (K : PySem.W.Frag) (n : Nat) (f : SemF) : Sp := fun vs H Q E => vs.length = n ∧ ∃ W t ps, W.O = [] ∧ RS K W H t ∧ RVs K W H ps vs ∧ PostF K W H (f ps t) Q E
section
variable {P : Program} {w : World} {K : PySem.W.Frag} {mg : Str → Option Value} {base : Heap}
theorem frame_start {W : Wd} {H : Hp} {t : DT} {ps : List PV} {vs : List V} {N : List Str} (hO : W.O = []) (R : RS K W H t) (r : RVs K W H ps vs) (hl : vs.length ≤ N.length) : RSt K W H ⟨frameE N.length ps, t⟩ (L2.start N vs) := by
  have hp : ps.length = vs.length := r.len.symm
  have get : ∀ {i : Nat} {sl : Sl}, (frameE N.length ps)[i]? = some sl → sl ≠ .no → ∃ p, ps[i]? = some p ∧ sl = .val p := fun {i sl} e hn => by
    unfold frameE at e
    by_cases hi : i < ps.length
    · rw [List.getElem?_append_left (by simpa using hi), List.getElem?_map, List.getElem?_eq_getElem hi] at e
      exact ⟨_, List.getElem?_eq_getElem hi, (Option.some.inj e).symm⟩
    · rw [List.getElem?_append_right (by simpa using hi), List.getElem?_replicate] at e
      split at e
      · exact absurd (Option.some.inj e).symm hn
      · cases e
  refine ⟨⟨?_, fun i p e => ?_, fun i p e => ?_, fun i j p q a h1 => ?_⟩, R⟩
  · unfold frameE L2.start
    simp only [List.length_append, List.length_map, List.length_replicate, hp]
  · obtain ⟨q, e1, e2⟩ := get e (by simp)
    cases e2
    obtain ⟨v, e3, rv⟩ := r.get e1
    refine ⟨v, ?_, rv⟩
    unfold L2.start
    have hi : i < vs.length := (List.getElem?_eq_some_iff.mp e3).1
    rw [List.getElem?_append_left (by simpa using hi), List.getElem?_map, e3]
    rfl
  · obtain ⟨q, e1, e2⟩ := get e (by simp)
    cases e2
  · obtain ⟨q, e1, e2⟩ := get h1 (by simp)
    cases e2
/-- THE RULE for a def -/
theorem fn_okX {x qual : Str} {st : Stmt} {f : Addr} {fd : FuncData} {N ps : List Str} {k : Nat} {b : SM} (F : Fun K x qual st f fd) (S : FnScope N ps (defScope st))
    (hb : ∀ (cdv : Value) (A : Around) (outer : List PySem.Env) (s : Shared) (H : Hp) (E : XK), Room k (A.deeper (envOfC qual (defScope st) s.heap.objs.size f cdv)) →
      PSsX (cxOf (L2.CX P w) P w K mg base N qual (defScope st) f cdv A outer s H E) (fun cls d _ H => E cls d H) (defBody st) b) : FnOk P w K mg base (L2.CX P w) (k + 1) f fd ps (spF K ps.length (bodyF N.length b)) := by
  refine F.okX S (fun vs H Q E h => h.1) fun cdv A outer s H vs Q E hr h => ⟨_, (hb cdv A outer s H E hr).ps, ?_⟩
  obtain ⟨hl, W, t, qs, hO, R, rv, post⟩ := h
  have hN : ps.length ≤ N.length := by
    have := congrArg List.length S.pre
    rw [List.length_take] at this
    omega
  refine ⟨W, ⟨frameE N.length qs, t⟩, frame_start hO R rv (by rw [hl]; exact hN), ?_⟩
  unfold bodyF at post
  cases e : b ⟨frameE N.length qs, t⟩ with
  | bad => rw [e] at post; exact post.elim
  | exc x s1 => rw [e] at post; exact fun σ' d W' H' st R' xr => post d W' H' st R'.t xr
  | ok fl s1 =>
    rw [e] at post
    cases fl with
    | nx => exact fun σ' W' H' st R' => post .non W' H' st R'.t (show RV K W' H' .non .non from rv_non)
    | bk => exact post.elim
    | ct => exact post.elim
    | rt p fr =>
      intro σ' v W' H' st R' ro
      refine post v W' H' st R'.t ?_
      cases fr with
      | false => exact ro
      | true =>
        obtain ⟨a, e1, e2, e3, _⟩ := ro
        exact ⟨a, e1, e2, e3⟩
theorem fn_okD {x qual : Str} {params : Arguments} {body : List Stmt} {scope : Scope} {dvs : List V} {kws : List (Str × V)} {f : Addr} {fd : FuncData} {N ps : List Str} {k : Nat} {b : SM} (F : FunD K x qual params body scope dvs kws f fd) (S : FnScope N ps scope)
    (hb : ∀ (cdv : Value) (A : Around) (outer : List PySem.Env) (s : Shared) (H : Hp) (E : XK), Room k (A.deeper (envOfC qual scope s.heap.objs.size f cdv)) →
      PSsX (cxOf (L2.CX P w) P w K mg base N qual scope f cdv A outer s H E) (fun cls d _ H => E cls d H) body b) : FnOk P w K mg base (L2.CX P w) (k + 1) f fd ps (spF K ps.length (bodyF N.length b)) := by
  refine F.ok S (fun vs H Q E h => h.1) fun cdv A outer s H vs Q E hr h => ⟨_, (hb cdv A outer s H E hr).ps, ?_⟩
  obtain ⟨hl, W, t, qs, hO, R, rv, post⟩ := h
  have hN : ps.length ≤ N.length := by
    have := congrArg List.length S.pre
    rw [List.length_take] at this
    omega
  refine ⟨W, ⟨frameE N.length qs, t⟩, frame_start hO R rv (by rw [hl]; exact hN), ?_⟩
  unfold bodyF at post
  cases e : b ⟨frameE N.length qs, t⟩ with
  | bad => rw [e] at post; exact post.elim
  | exc x s1 => rw [e] at post; exact fun σ' d W' H' st R' xr => post d W' H' st R'.t xr
  | ok fl s1 =>
    rw [e] at post
    cases fl with
    | nx => exact fun σ' W' H' st R' => post .non W' H' st R'.t (show RV K W' H' .non .non from rv_non)
    | bk => exact post.elim
    | ct => exact post.elim
    | rt p fr =>
      intro σ' v W' H' st R' ro
      refine post v W' H' st R'.t ?_
      cases fr with
      | false => exact ro
      | true =>
        obtain ⟨a, e1, e2, e3, _⟩ := ro
        exact ⟨a, e1, e2, e3⟩
/-- a def of the module, by what it is worth -/
structure Fd (P : Program) (w : World) (K : PySem.W.Frag) (mg : Str → Option Value) (base : Heap) (x : Str) (k n : Nat) (sem : SemF) : Prop where
  ex : ∃ (f : Addr) (fd : FuncData) (ps : List Str), mg x = some (.ref f) ∧ FnOk P w K mg base (L2.CX P w) k f fd ps (spF K n sem) ∧ PySem.W.keepIn K (.ref f) = true ∧ Binds K fd ps [] ∧ ps.length = n
theorem Fd.mk' {x qual : Str} {params : Arguments} {body : List Stmt} {scope : Scope} {kws : List (Str × V)} {f : Addr} {fd : FuncData} {ps : List Str} {k n : Nat} {sem : SemF} (F : FunD K x qual params body scope [] kws f fd) (hm : mg x = some (.ref f)) (hn : ps.length = n)
    (hb : ∀ (kV doc pm : Value) (an : Option Addr) (cdv ct : Value) (us : List Value), us.length = ps.length → bindArgs (PySem.W.fnOf x qual params body scope .none kV doc pm an cdv ct) ⟨us, []⟩ = pure (ps.zip us))
    (ok : FnOk P w K mg base (L2.CX P w) k f fd ps (spF K ps.length sem)) : Fd P w K mg base x k n sem := by
  subst hn
  exact ⟨f, fd, ps, hm, ok, F.kp, F.bindsN hb, rfl⟩
end
/-! ### the worlds of caller and callee -/
def Wd.call (W : Wd) : Wd := ⟨[], W.S, W.O ++ W.P⟩
def Wd.back (W W' : Wd) : Wd := ⟨W.O ++ W'.O, W'.S, W.P⟩
theorem m_of_iff {W W' : Wd} {H : Hp} (h : ∀ b, b ∈ W.L ↔ b ∈ W'.L) : W.m H = W'.m H := by
  funext b
  unfold Wd.m msk
  by_cases hb : b ∈ W.L
  · rw [if_pos hb, if_pos ((h b).mp hb)]
  · rw [if_neg hb, if_neg fun z => hb ((h b).mpr z)]
theorem con_m {K : PySem.W.Frag} {W W' : Wd} {H : Hp} {p : PV} {a : Addr} (hm : W.m H = W'.m H) (hS : W.S = W'.S) (c : Con K W H p a) : Con K W' H p a := by
  unfold Con at c ⊢
  rw [← hm, ← hS]
  exact c
section
variable {K : PySem.W.Frag} {W W' : Wd} {H H' : Hp} {s : DS} {σ : L2.St} {t : DT}
theorem call_m : W.call.m H = W.m H := m_of_iff fun b => by
  simp only [Wd.L, Wd.call, List.mem_append, List.not_mem_nil, false_or]
  constructor
  · rintro (h | h | h) <;> simp [h]
  · rintro (h | h | h) <;> simp [h]
theorem RSt.call (R : RSt K W H s σ) : RS K W.call H s.t :=
  ⟨R.t.len, fun k p a e1 e2 => con_m call_m.symm rfl (R.t.at_ k p a e1 e2), R.t.nd, fun a h => (nomatch (show a ∈ ([] : List Addr) from h)), fun a h => (List.mem_append.mp h).elim (R.t.ot a) (R.t.pt a), fun a h => (nomatch (show a ∈ ([] : List Addr) from h)), fun a h z => (List.mem_append.mp z).elim (fun y => R.t.ap a y h) (R.t.ps a h), fun a h => (nomatch (show a ∈ ([] : List Addr) from h))⟩
theorem back_m (hP : W'.P = W.O ++ W.P) : (W.back W').m H = W'.m H := m_of_iff fun b => by
  simp only [Wd.L, Wd.back, hP, List.mem_append]
  constructor
  · rintro ((h | h) | h | h) <;> simp [h]
  · rintro (h | h | h | h) <;> simp [h]
theorem Step.back (R : RSt K W H s σ) (st : Step W.call H W' H') : Step W H (W.back W') H' := by
  have hP : W'.P = W.O ++ W.P := st.prv
  refine ⟨?_, st.there, fun b h => ?_, st.pre, fun b h => ?_, rfl, fun b h => st.pk b (List.mem_append_right _ h)⟩
  · rw [back_m hP, ← call_m]
    exact st.same
  · rcases List.mem_append.mp h with h | h
    · exact .inl h
    · exact .inr ((st.new b h).elim (fun z => by cases z) id)
  · rcases st.sto b h with z | z | z
    · exact .inl z
    · cases z
    · exact .inr (.inr z)
theorem RSt.back (R : RSt K W H s σ) (st : Step W.call H W' H') (R' : RS K W' H' t) : RSt K (W.back W') H' ⟨s.e, t⟩ σ := by
  have hP : W'.P = W.O ++ W.P := st.prv
  have stb := st.back R
  have hpk : ∀ a ∈ W.O, H' a = H a := fun a h => st.pk a (List.mem_append_left _ h)
  refine ⟨⟨R.e.len, fun i p e => ?_, fun i p e => ?_, R.e.inj⟩, ⟨R'.len, fun k p a e1 e2 => con_m (back_m hP).symm rfl (R'.at_ k p a e1 e2), R'.nd, fun a h => ?_, fun a h => ?_, fun a h => ?_, fun a h => ?_, fun a h => ?_⟩⟩
  · obtain ⟨v, h1, h2⟩ := R.e.at_ i p e
    exact ⟨v, h1, stb.rv h2⟩
  · obtain ⟨a, h1, h2, h3⟩ := R.e.ow i p e
    exact ⟨a, h1, List.mem_append_left _ h2, h3.step stb (hpk a h2)⟩
  · rcases List.mem_append.mp h with h | h
    · exact fun z => R'.ps a z (by rw [hP]; exact List.mem_append_left _ h)
    · exact R'.ap a h
  · exact R'.pt a (by rw [hP]; exact List.mem_append_right _ h)
  · rcases List.mem_append.mp h with h | h
    · exact R.t.pa a h
    · exact fun z => R'.pa a h (by rw [hP]; exact List.mem_append_right _ z)
  · exact fun z => R'.ps a h (by rw [hP]; exact List.mem_append_right _ z)
  · rcases List.mem_append.mp h with h | h
    · obtain ⟨o, ho⟩ := R.t.ot a h
      exact ⟨o, by rw [hpk a h]; exact ho⟩
    · exact R'.ot a h
theorem rO_back (R : RSt K W H s σ) (st : Step W.call H W' H') (R' : RS K W' H' t) {p : PV} {fr : Bool} {v : V} (r : rF K W' H' p fr v) : rO K σ (W.back W') H' ⟨s.e, t⟩ (p, fr) v := by
  have hP : W'.P = W.O ++ W.P := st.prv
  cases fr with
  | false =>
    show Rep K W'.S ((W.back W').m H') p v
    rw [back_m hP]
    exact r
  | true =>
    obtain ⟨a, e1, e2, e3⟩ := r
    refine ⟨a, e1, List.mem_append_right _ e2, con_m (back_m hP).symm rfl e3, fun i q hi z => ?_⟩
    obtain ⟨b, h1, h2, h3⟩ := R.e.ow i q hi
    rw [h1] at z
    have zb : b = a := by injection z with z; injection z with z; injection z
    subst zb
    exact R'.pa b e2 (by rw [hP]; exact List.mem_append_left _ h2)
end
def callF (f : SemF) (ps : List PV) (s : DS) : Re (PV × Bool) := match f ps s.t with
  | .ok p fr t' => .ok (p, fr) ⟨s.e, t'⟩
  | .exc x t' => .exc x ⟨s.e, t'⟩
  | .bad => .bad
def callO (f : SemF) (fa : AM) : OM := fun s => (fa s).bind fun ps s1 => callF f ps s1
theorem callF_post {K : PySem.W.Frag} {Z : WX} {W : Wd} {H : Hp} {s : DS} {σ : L2.St} {f : SemF} {ps : List PV} {vs : List V} {Q : VK} {n : Nat} (hn : vs.length = n) (R : RSt K W H s σ) (r : RVs K W H ps vs) (q : Post rO K Z σ W H (callF f ps s) Q) :
    spF K n f vs H Q (fun cls d H' => Z cls d σ H') := by
  refine ⟨hn, W.call, s.t, ps, rfl, R.call, ?_, ?_⟩
  · show Reps K W.S (W.call.m H) ps vs
    rw [call_m]
    exact r
  · unfold callF at q
    cases e : f ps s.t with
    | bad => rw [e] at q; exact q.elim
    | exc x t' =>
      rw [e] at q
      intro d W' H' st R' xr
      refine q d _ H' (st.back R) (R.back st R') ?_
      unfold XR at xr ⊢
      cases hx : x.fs with
      | none => rw [hx] at xr; exact xr
      | some l =>
        rw [hx] at xr
        obtain ⟨dd, ws, h1, h2, h3⟩ := xr
        refine ⟨dd, ws, h1, ?_, ?_⟩
        · rw [back_m st.prv]; exact h2
        · rw [back_m st.prv]; exact h3
    | ok p fr t' =>
      rw [e] at q
      exact fun v W' H' st R' rf => q v _ H' (st.back R) (R.back st R') (rO_back R st R' rf)
section
variable {X : Cx} {Z : WX} {x : Str} {p pos : Pos} {e : Expr} {es : List Expr} {fa : AM} {sem : SemF} {k j n : Nat}
theorem len_of_consA {K : PySem.W.Frag} {W : Wd} {H : Hp} {ps : List PV} {vs : List V} (r : RVs K W H ps vs) (h : ps.length = n) : vs.length = n := by rw [r.len, h]
/-- f(e, ..) -/
theorem po_call (h : Fd X.prog X.w X.K X.mg X.base x j n sem) (hr : Room k X.A) (hk : j ≤ k) (hg : Gl X x) (tk : Takes X Z) (ha : PAX X Z (e :: es) fa) (hlen : ∀ s ps s1, fa s = .ok ps s1 → ps.length = n) (hdb : (x == ("__debug__" : Str)) = false := by decide)
    (he : starEach (e :: es) X.env = (false, eval e X.env) :: starEach es X.env := by rfl) (hpl : (backTo pos (starEach es X.env)).any (·.1) = false := by rfl) : PO X Z (.Call (.Name x p) (e :: es) [] pos) (callO sem fa) := by
  obtain ⟨f, fd, qs, hm, F, kp, b, hl⟩ := h.ex
  refine ⟨PE_imp (L2.pe_callSD (E := fun σ cls d H' => Z cls d σ H') F (hr.mono hk) hg hm kp b (dvs := []) .nil (fun σ => passAt tk σ) ha.pa hdb he hpl) fun σ H Q ⟨W, s, R, h⟩ => ⟨W, s, R, Post.bind h fun ps s1 vs W1 H1 es st R1 r q => ?_⟩⟩
  have r : RVs X.K W1 H1 ps vs := r
  show spF X.K n sem (vs ++ []) H1 Q _
  rw [List.append_nil]
  exact callF_post (len_of_consA r (hlen s ps s1 es)) R1 r q
theorem len_nilA : ∀ s ps s1, nilA s = .ok ps s1 → ps.length = 0 := fun s ps s1 h => by cases h; rfl
theorem len_cons {f : EM} {g : AM} {n : Nat} (h : ∀ s ps s1, g s = .ok ps s1 → ps.length = n) : ∀ s ps s1, consA f g s = .ok ps s1 → ps.length = n + 1 := fun s ps s1 e => by
  unfold consA at e
  cases e1 : f s with
  | bad => rw [e1] at e; cases e
  | exc x s2 => rw [e1] at e; cases e
  | ok q s2 =>
    rw [e1] at e
    cases e2 : g s2 with
    | bad => simp only [Re.bind, e2] at e; cases e
    | exc x s2 => simp only [Re.bind, e2] at e; cases e
    | ok qs s3 =>
      simp only [Re.bind, e2] at e
      cases e
      simp [h _ qs _ e2]
end
end DR
/-! DR: built-in functions, items, slices, methods. -/
namespace DR
open PySem PySem.Spec PyProof.Rows L2
/-! ### looked at, not handed on -/
def BV (K : PySem.W.Frag) (W : Wd) (H : Hp) (p : PV) (v : V) : Prop := RV K W H p v ∨ ∃ a, v = .ref a ∧ Con K W H p a
def rB : RT PV V := fun K _ W H _ p v => BV K W H p v
structure PB (X : Cx) (Z : WX) (e : Expr) (f : EM) : Prop where
  pe : PE X e (tG rB X.K Z f)
def nameB (i : Nat) : EM := fun s => match s.e[i]? with
  | some (.val (.cell k)) => (match s.t[k]? with
    | some p => .ok p s
    | none => .bad)
  | some (.val p) => .ok p s
  | some (.own p) => .ok p s
  | _ => .bad
section
variable {K : PySem.W.Frag} {W : Wd} {H : Hp} {s : DS} {σ : L2.St} {p : PV} {v : V}
theorem bv_lst {ps : List PV} (h : BV K W H (.lst ps) v) : ∃ a vs, v = .ref a ∧ H a = some (.lst vs) ∧ RVs K W H ps vs := by
  rcases h with h | ⟨a, e, h⟩
  · obtain ⟨a, vs, e, _, h1, h2⟩ := rv_lst_inv h
    exact ⟨a, vs, e, h1, h2⟩
  · obtain ⟨vs, h1, h2⟩ := h
    exact ⟨a, vs, e, h1, h2⟩
theorem bv_tup {c : Bool} {ps : List PV} (h : BV K W H (.tup c ps) v) : ∃ a vs, v = .ref a ∧ SqT K H a vs ∧ RVs K W H ps vs := by
  rcases h with h | ⟨a, e, h⟩
  · exact rv_tup_inv h
  · exact h.elim
theorem bv_scr {ps : List PV} (h : BV K W H (.scr ps) v) : ∃ a vs, v = .ref a ∧ SqL K H a vs ∧ RVs K W H ps vs := by
  rcases h with h | ⟨a, e, h⟩
  · obtain ⟨a, vs, e, h1, h2⟩ := rvS_m h
    exact ⟨a, vs, e, sqL_mono (msk_sub _ _) h1, h2⟩
  · exact h.elim
theorem bv_int {i : Int} (h : BV K W H (.int i) v) : v = .int i := by
  rcases h with h | ⟨a, e, h⟩
  · exact rv_int_inv h
  · exact h.elim
theorem bv_bl {i : Bool} (h : BV K W H (.bl i) v) : v = .bl i := by
  rcases h with h | ⟨a, e, h⟩
  · exact rv_bl_inv h
  · exact h.elim
theorem bv_str {i : Str} (h : BV K W H (.str i) v) : v = .str i := by
  rcases h with h | ⟨a, e, h⟩
  · exact rv_str_inv h
  · exact h.elim
/-- what a name's slot holds, looked at -/
theorem nameB_bv (R : RSt K W H s σ) {i : Nat} {s1 : DS} (h : nameB i s = .ok p s1) : s1 = s ∧ ∃ v, σ[i]? = some (some v) ∧ BV K W H p v := by
  unfold nameB at h
  split at h
  · rename_i k e
    cases e1 : s.t[k]? with
    | none => rw [e1] at h; cases h
    | some q =>
      rw [e1] at h
      cases h
      obtain ⟨v, h1, h2⟩ := R.e.at_ i _ e
      unfold RV Rep at h2
      obtain ⟨a, h3, h4⟩ := h2
      exact ⟨rfl, v, h1, .inr ⟨a, h3, R.t.at_ k _ a e1 h4⟩⟩
  · rename_i q _ e
    cases h
    obtain ⟨v, h1, h2⟩ := R.e.at_ i _ e
    exact ⟨rfl, v, h1, .inl h2⟩
  · rename_i q e
    cases h
    obtain ⟨a, h1, h2, h3⟩ := R.e.ow i _ e
    exact ⟨rfl, .ref a, h1, .inr ⟨a, rfl, h3⟩⟩
  · cases h
theorem nameB_no {i : Nat} {x : Exn} {s1 : DS} (h : nameB i s = .exc x s1) : False := by
  unfold nameB at h
  split at h
  · rename_i k e
    cases e1 : s.t[k]? <;> rw [e1] at h <;> cases h
  · cases h
  · cases h
  · cases h
end
section
variable {X : Cx} {Z : WX} {x : Str} {pos pos' : Pos} {e : Expr} {f : EM}
theorem pb_of (h : PX X Z e f) : PB X Z e f := ⟨PE_imp h.pe fun σ H Q ⟨W, s, R, h⟩ => ⟨W, s, R, by
  cases e1 : f s with
  | bad => rw [e1] at h; exact h
  | exc x s1 => rw [e1] at h; exact h
  | ok p s1 => rw [e1] at h; exact fun v W' H' st R' r => h v W' H' st R' (.inl r)⟩⟩
theorem pb_name (i : Nat) (hN : X.N[i]? = some x := by rfl) (hv : Vis X.env.scope x := by first | exact Or.inl rfl | exact Or.inr (Or.inl rfl) | exact Or.inr (Or.inr rfl)) (hd : (x == ("__debug__" : Str)) = false := by decide)
    (hcd : (x == ("__classdict__" : Str)) = false := by decide) : PB X Z (.Name x pos) (nameB i) := by
  refine ⟨PE_imp (pe_var hN hv hd hcd) fun σ H Q ⟨W, s, R, h⟩ => ?_⟩
  cases e1 : nameB i s with
  | bad => rw [e1] at h; exact h.elim
  | exc x s1 => exact (nameB_no e1).elim
  | ok p s1 =>
    rw [e1] at h
    obtain ⟨rfl, v, h1, h2⟩ := nameB_bv R e1
    exact ⟨v, h1, h v W H (Step.refl _ _) R h2⟩
/-! ### built-ins of one argument -/
abbrev G1 := PV → Option PV
abbrev O1 := PV → Option (PV × Bool)
def Un1 (X : Cx) (f : Value) (g : O1) : Prop := ∀ (Z : WX), ∃ r : List V → Hp → VK → Prop, CallR X f r ∧ ∀ (W : Wd) (H : Hp) (s : DS) (σ : L2.St) (p : PV) (x : V) (res : PV × Bool) (Q : VK), RSt X.K W H s σ → BV X.K W H p x → g p = some res → Post rO X.K Z σ W H (.ok res s) Q → r [x] H Q
def un1O (g : O1) (f : EM) : OM := fun s => (f s).bind fun p s1 => match g p with
  | some r => .ok r s1
  | none => .bad
def g1 (g : G1) : O1 := fun p => (g p).map fun r => (r, false)
def un1E (g : G1) (f : EM) : EM := plainE (un1O (g1 g) f)
theorem Un1.plain {f : Value} {r : List V → Hp → VK → Prop} {g : G1} (c : CallR X f r) (k : ∀ (W : Wd) (H : Hp) (p : PV) (x : V) (res : PV) (Q : VK), BV X.K W H p x → g p = some res → (∀ v, RV X.K W H res v → Q v H) → r [x] H Q) : Un1 X f (g1 g) := fun Z => by
  refine ⟨r, c, fun W H s σ p x res Q R rx e po => ?_⟩
  simp only [g1, Option.map_eq_some_iff] at e
  obtain ⟨z, e, rfl⟩ := e
  exact k W H p x z Q rx e fun v rv => po v W H (Step.refl _ _) R rv
theorem CallR_or {f : Value} {r r' : List V → Hp → VK → Prop} (h : CallR X f r) (h' : CallR X f r') : CallR X f (fun xs H Q => r xs H Q ∨ r' xs H Q) := fun pins s σ H xs us Q I rx q => q.elim (h pins s σ H xs us Q I rx) (h' pins s σ H xs us Q I rx)
theorem Un1.or {f : Value} {g g' : O1} (h : Un1 X f g) (h' : Un1 X f g') : Un1 X f (fun p => (g p).or (g' p)) := fun Z => by
  obtain ⟨r, o, k⟩ := h Z
  obtain ⟨r', o', k'⟩ := h' Z
  refine ⟨_, CallR_or o o', fun W H s σ p x res Q R rx e po => ?_⟩
  replace e : (g p).or (g' p) = some res := e
  cases e1 : g p with
  | some z =>
    rw [e1] at e
    exact .inl (k W H s σ p x res Q R rx (by rw [e1]; simpa using e) po)
  | none =>
    rw [e1] at e
    exact .inr (k' W H s σ p x res Q R rx (by simpa using e) po)
theorem tO_un1 {r : List V → Hp → VK → Prop} {g : O1} (k : ∀ (W : Wd) (H : Hp) (s : DS) (σ : L2.St) (p : PV) (x : V) (res : PV × Bool) (Q : VK), RSt X.K W H s σ → BV X.K W H p x → g p = some res → Post rO X.K Z σ W H (.ok res s) Q → r [x] H Q)
    (σ : L2.St) (H : Hp) (Q : VK) (h : tO X.K Z (un1O g f) σ H Q) : tCB r (tCons (tG rB X.K Z f) tNil) σ H Q := by
  obtain ⟨W, s, R, h⟩ := h
  refine ⟨W, s, R, Post.bind h fun p s1 v W1 H1 _ st R1 rx q => ?_⟩
  cases e : g p with
  | none => simp only [e] at q; exact q.elim
  | some res =>
    simp only [e] at q
    exact k W1 H1 s1 σ p v res Q R1 rx e q
theorem po_blt {id : String} {g : O1} {p : Pos} (hf : Un1 X (.builtin id) g) (hg : Gl X x) (hm : X.mg x = none) (hv : bootBuiltins x = some (.builtin id)) (ha : PB X Z e f) (hn : x ≠ "__name__" := by decide) (hdb : (x == ("__debug__" : Str)) = false := by decide)
    (he : starEach [e] X.env = (false, eval e X.env) :: starEach [] X.env := by rfl) : PO X Z (.Call (.Name x p) [e] [] pos) (un1O g f) := by
  obtain ⟨r, c, k⟩ := hf Z
  exact ⟨PE_imp (L2.pe_callB c hg hm hv (L2.pa_cons ha.pe L2.pa_nil he) hn hdb he rfl) fun σ H Q h => tO_un1 k σ H Q h⟩
theorem po_bty {T : String} {g : O1} {p : Pos} (hf : Un1 X (.type T) g) (hg : Gl X x) (hm : X.mg x = none) (hv : bootBuiltins x = some (.type T)) (ha : PB X Z e f) (hn : x ≠ "__name__" := by decide) (hdb : (x == ("__debug__" : Str)) = false := by decide)
    (he : starEach [e] X.env = (false, eval e X.env) :: starEach [] X.env := by rfl) : PO X Z (.Call (.Name x p) [e] [] pos) (un1O g f) := by
  obtain ⟨r, c, k⟩ := hf Z
  exact ⟨PE_imp (L2.pe_callTy c hg hm hv (L2.pa_cons ha.pe L2.pa_nil he) hn hdb he rfl) fun σ H Q h => tO_un1 k σ H Q h⟩
/-- len -/
def lenG : G1 := fun p => match p with
  | .lst ps => some (.int ps.length)
  | .tup _ ps => some (.int ps.length)
  | .scr ps => some (.int ps.length)
  | .str z => if lineOk z.length then some (.int z.length) else none
  | _ => none
theorem u_len : Un1 X (.builtin "len") (g1 lenG) := Un1.plain (CallR_or call_len_seq call_len_str) fun W H p x res Q rx e k => by
  cases p with
  | lst ps =>
    simp only [lenG, Option.some.injEq] at e
    subst e
    obtain ⟨a, vs, rfl, h1, h2⟩ := bv_lst rx
    exact .inl ⟨a, vs, rfl, .inl (SqL.of h1), k _ (by rw [h2.len]; exact rv_int)⟩
  | scr ps =>
    simp only [lenG, Option.some.injEq] at e
    subst e
    obtain ⟨a, vs, rfl, h1, h2⟩ := bv_scr rx
    exact .inl ⟨a, vs, rfl, .inl h1, k _ (by rw [h2.len]; exact rv_int)⟩
  | tup c ps =>
    simp only [lenG, Option.some.injEq] at e
    subst e
    obtain ⟨a, vs, rfl, h1, h2⟩ := bv_tup rx
    exact .inl ⟨a, vs, rfl, .inr h1, k _ (by rw [h2.len]; exact rv_int)⟩
  | str z =>
    simp only [lenG] at e
    by_cases hz : lineOk z.length = true
    · rw [if_pos hz] at e
      cases e
      exact .inr ⟨z, by rw [bv_str rx], of_decide_eq_true hz, k _ rv_int⟩
    · rw [if_neg hz] at e
      cases e
  | _ => simp [lenG] at e
/-- all, any of a list of truth values -/
def bools : List PV → Option (List Bool)
  | [] => some []
  | .bl b :: ps => (bools ps).map fun bs => b :: bs
  | _ :: _ => none
theorem bools_vs {K : PySem.W.Frag} {cs : List Addr} {H : Hp} : ∀ {ps : List PV} {bs : List Bool} {vs : List V}, bools ps = some bs → Reps K cs H ps vs → vs = bs.map V.bl
  | [], bs, vs, e, r => by
    simp only [bools, Option.some.injEq] at e
    unfold Reps at r
    subst e r
    rfl
  | p :: ps, bs, vs, e, r => by
    cases p with
    | bl b =>
      simp only [bools, Option.map_eq_some_iff] at e
      obtain ⟨cs', e1, rfl⟩ := e
      unfold Reps at r
      obtain ⟨v, w, rfl, h1, h2⟩ := r
      unfold Rep at h1
      rw [h1, bools_vs e1 h2]
      rfl
    | _ => simp [bools] at e
def allG : G1 := fun p => match p with
  | .lst ps => (bools ps).map fun bs => .bl (bs.all id)
  | _ => none
def anyG : G1 := fun p => match p with
  | .lst ps => (bools ps).map fun bs => .bl (bs.any id)
  | _ => none
theorem u_all (hc : X.calm = true) : Un1 X (.builtin "all") (g1 allG) := Un1.plain (cr_all hc) fun W H p x res Q rx e k => by
  cases p with
  | lst ps =>
    simp only [allG, Option.map_eq_some_iff] at e
    obtain ⟨bs, e, rfl⟩ := e
    obtain ⟨a, vs, rfl, h1, h2⟩ := bv_lst rx
    have hv := bools_vs e h2
    subst hv
    exact ⟨a, bs, rfl, SqL.of h1, k _ rv_bl⟩
  | _ => simp [allG] at e
theorem u_any (hc : X.calm = true) : Un1 X (.builtin "any") (g1 anyG) := Un1.plain (cr_any hc) fun W H p x res Q rx e k => by
  cases p with
  | lst ps =>
    simp only [anyG, Option.map_eq_some_iff] at e
    obtain ⟨bs, e, rfl⟩ := e
    obtain ⟨a, vs, rfl, h1, h2⟩ := bv_lst rx
    have hv := bools_vs e h2
    subst hv
    exact ⟨a, bs, rfl, SqL.of h1, k _ rv_bl⟩
  | _ => simp [anyG] at e
/-- abs, int -/
def absG : G1 := fun p => match p with
  | .int i => some (.int (if i < 0 then -i else i))
  | _ => none
theorem u_abs : Un1 X (.builtin "abs") (g1 absG) := Un1.plain call_abs fun W H p x res Q rx e k => by
  cases p with
  | int i =>
    simp only [absG, Option.some.injEq] at e
    subst e
    exact ⟨i, by rw [bv_int rx], k _ rv_int⟩
  | _ => simp [absG] at e
def intG : G1 := fun p => match p with
  | .int i => some (.int i)
  | .bl b => some (.int (if b then 1 else 0))
  | _ => none
theorem u_int : Un1 X (.type "int") (g1 intG) := Un1.plain call_int1 fun W H p x res Q rx e k => by
  cases p with
  | int i =>
    simp only [intG, Option.some.injEq] at e
    subst e
    exact .inl ⟨i, by rw [bv_int rx], k _ rv_int⟩
  | bl b =>
    simp only [intG, Option.some.injEq] at e
    subst e
    exact .inr ⟨b, by rw [bv_bl rx], k _ rv_int⟩
  | _ => simp [intG] at e
/-- sum, max, min of a list of ints -/
def intsP : List PV → Option (List Int)
  | [] => some []
  | .int b :: ps => (intsP ps).map fun bs => b :: bs
  | _ :: _ => none
theorem ints_vs {K : PySem.W.Frag} {cs : List Addr} {H : Hp} : ∀ {ps : List PV} {bs : List Int} {vs : List V}, intsP ps = some bs → Reps K cs H ps vs → vs = bs.map V.int
  | [], bs, vs, e, r => by
    simp only [intsP, Option.some.injEq] at e
    unfold Reps at r
    subst e r
    rfl
  | p :: ps, bs, vs, e, r => by
    cases p with
    | int b =>
      simp only [intsP, Option.map_eq_some_iff] at e
      obtain ⟨cs', e1, rfl⟩ := e
      unfold Reps at r
      obtain ⟨v, w, rfl, h1, h2⟩ := r
      unfold Rep at h1
      rw [h1, ints_vs e1 h2]
      rfl
    | _ => simp [intsP] at e
def maxL : List Int → Option Int
  | [] => none
  | i :: is => some (is.foldl max i)
def minL : List Int → Option Int
  | [] => none
  | i :: is => some (is.foldl min i)
theorem foldl_max_mem : ∀ (l : List Int) (i : Int), (l.foldl max i = i ∨ l.foldl max i ∈ l) ∧ i ≤ l.foldl max i ∧ ∀ y ∈ l, y ≤ l.foldl max i
  | [], i => by simp
  | a :: l, i => by
    obtain ⟨h1, h2, h3⟩ := foldl_max_mem l (max i a)
    refine ⟨?_, ?_, fun y hy => ?_⟩
    · rcases h1 with h | h
      · by_cases hh : i ≤ a
        · right; simp only [List.foldl_cons]; rw [h]; simp [Int.max_eq_right hh]
        · left; simp only [List.foldl_cons]; rw [h]; exact Int.max_eq_left (by omega)
      · right; simp only [List.foldl_cons]; exact List.mem_cons_of_mem _ h
    · simp only [List.foldl_cons]; exact Int.le_trans (Int.le_max_left i a) h2
    · simp only [List.foldl_cons]
      rcases List.mem_cons.mp hy with rfl | hy
      · exact Int.le_trans (Int.le_max_right i y) h2
      · exact h3 y hy
theorem foldl_min_mem : ∀ (l : List Int) (i : Int), (l.foldl min i = i ∨ l.foldl min i ∈ l) ∧ l.foldl min i ≤ i ∧ ∀ y ∈ l, l.foldl min i ≤ y
  | [], i => by simp
  | a :: l, i => by
    obtain ⟨h1, h2, h3⟩ := foldl_min_mem l (min i a)
    refine ⟨?_, ?_, fun y hy => ?_⟩
    · rcases h1 with h | h
      · by_cases hh : i ≤ a
        · left; simp only [List.foldl_cons]; rw [h]; exact Int.min_eq_left hh
        · right; simp only [List.foldl_cons]; rw [h]; simp [Int.min_eq_right (show a ≤ i by omega)]
      · right; simp only [List.foldl_cons]; exact List.mem_cons_of_mem _ h
    · simp only [List.foldl_cons]; exact Int.le_trans h2 (Int.min_le_left i a)
    · simp only [List.foldl_cons]
      rcases List.mem_cons.mp hy with rfl | hy
      · exact Int.le_trans h2 (Int.min_le_right i y)
      · exact h3 y hy
theorem maxL_spec {l : List Int} {m : Int} (h : maxL l = some m) : m ∈ l ∧ ∀ y ∈ l, y ≤ m := by
  cases l with
  | nil => cases h
  | cons a l =>
    simp only [maxL, Option.some.injEq] at h
    obtain ⟨h1, h2, h3⟩ := foldl_max_mem l a
    rw [h] at h1 h2 h3
    refine ⟨?_, fun y hy => ?_⟩
    · rcases h1 with e | e
      · rw [e]; exact List.mem_cons_self
      · exact List.mem_cons_of_mem _ e
    · rcases List.mem_cons.mp hy with rfl | hy
      · exact h2
      · exact h3 y hy
theorem minL_spec {l : List Int} {m : Int} (h : minL l = some m) : m ∈ l ∧ ∀ y ∈ l, m ≤ y := by
  cases l with
  | nil => cases h
  | cons a l =>
    simp only [minL, Option.some.injEq] at h
    obtain ⟨h1, h2, h3⟩ := foldl_min_mem l a
    rw [h] at h1 h2 h3
    refine ⟨?_, fun y hy => ?_⟩
    · rcases h1 with e | e
      · rw [e]; exact List.mem_cons_self
      · exact List.mem_cons_of_mem _ e
    · rcases List.mem_cons.mp hy with rfl | hy
      · exact h2
      · exact h3 y hy
def sumG : G1 := fun p => match p with
  | .lst ps => (intsP ps).map fun bs => .int bs.sum
  | _ => none
def maxG : G1 := fun p => match p with
  | .lst ps => ((intsP ps).bind maxL).map PV.int
  | _ => none
def minG : G1 := fun p => match p with
  | .lst ps => ((intsP ps).bind minL).map PV.int
  | _ => none
theorem u_sum (hc : X.calm = true) : Un1 X (.builtin "sum") (g1 sumG) := Un1.plain (cr_sum hc) fun W H p x res Q rx e k => by
  cases p with
  | lst ps =>
    simp only [sumG, Option.map_eq_some_iff] at e
    obtain ⟨bs, e, rfl⟩ := e
    obtain ⟨a, vs, rfl, h1, h2⟩ := bv_lst rx
    have hv := ints_vs e h2
    subst hv
    exact ⟨a, bs, rfl, SqL.of h1, k _ rv_int⟩
  | _ => simp [sumG] at e
theorem u_max (hc : X.calm = true) : Un1 X (.builtin "max") (g1 maxG) := Un1.plain (cr_max hc) fun W H p x res Q rx e k => by
  cases p with
  | lst ps =>
    simp only [maxG, Option.map_eq_some_iff, Option.bind_eq_some_iff] at e
    obtain ⟨m, ⟨bs, e, hm⟩, rfl⟩ := e
    obtain ⟨a, vs, rfl, h1, h2⟩ := bv_lst rx
    have hv := ints_vs e h2
    subst hv
    obtain ⟨g1, g2⟩ := maxL_spec hm
    refine ⟨a, bs, rfl, SqL.of h1, List.length_pos_of_mem g1, fun m' hm' hle => ?_⟩
    have : m' = m := Int.le_antisymm (g2 m' hm') (hle m g1)
    subst this
    exact k _ rv_int
  | _ => simp [maxG] at e
theorem u_min (hc : X.calm = true) : Un1 X (.builtin "min") (g1 minG) := Un1.plain (cr_min hc) fun W H p x res Q rx e k => by
  cases p with
  | lst ps =>
    simp only [minG, Option.map_eq_some_iff, Option.bind_eq_some_iff] at e
    obtain ⟨m, ⟨bs, e, hm⟩, rfl⟩ := e
    obtain ⟨a, vs, rfl, h1, h2⟩ := bv_lst rx
    have hv := ints_vs e h2
    subst hv
    obtain ⟨g1, g2⟩ := minL_spec hm
    refine ⟨a, bs, rfl, SqL.of h1, List.length_pos_of_mem g1, fun m' hm' hle => ?_⟩
    have : m' = m := Int.le_antisymm (hle m g1) (g2 m' hm')
    subst this
    exact k _ rv_int
  | _ => simp [minG] at e
/-- list(x), tuple(x) -/
def listG : O1 := fun p => match p with
  | .lst ps => some (.lst ps, true)
  | .tup _ ps => some (.lst ps, true)
  | _ => none
theorem u_list : Un1 X (.type "list") listG := fun Z => by
  refine ⟨_, call_list_of, fun W H s σ p x res Q R rx e po => ?_⟩
  cases p with
  | lst ps =>
    simp only [listG, Option.some.injEq] at e
    subst e
    obtain ⟨a, vs, rfl, h1, h2⟩ := bv_lst rx
    exact ⟨a, vs, rfl, .inl (SqL.of h1), fun l hl => Post.newO R hl po ⟨vs, upd_same, (Step.allocO hl (R.nP hl)).rvs h2⟩⟩
  | tup c ps =>
    simp only [listG, Option.some.injEq] at e
    subst e
    obtain ⟨a, vs, rfl, h1, h2⟩ := bv_tup rx
    exact ⟨a, vs, rfl, .inr h1, fun l hl => Post.newO R hl po ⟨vs, upd_same, (Step.allocO hl (R.nP hl)).rvs h2⟩⟩
  | _ => simp [listG] at e
def tupG : G1 := fun p => match p with
  | .lst ps => some (.tup false ps)
  | .tup c ps => some (.tup c ps)
  | _ => none
theorem Post.toP {σ : L2.St} {W : Wd} {H : Hp} {K : PySem.W.Frag} {s : DS} {q : PV} {Q : VK} (h : Post rO K Z σ W H (.ok (q, false) s) Q) : Post rE K Z σ W H (.ok q s) Q := h
theorem u_tup : Un1 X (.type "tuple") (g1 tupG) := fun Z => by
  refine ⟨_, call_tuple_of, fun W H s σ p x res Q R rx e po => ?_⟩
  simp only [g1, Option.map_eq_some_iff] at e
  obtain ⟨z, e, rfl⟩ := e
  cases p with
  | lst ps =>
    simp only [tupG, Option.some.injEq] at e
    subst e
    obtain ⟨a, vs, rfl, h1, h2⟩ := bv_lst rx
    exact ⟨a, vs, rfl, .inl ⟨SqL.of h1, fun l hl => Post.newP R hl (Post.toP po) fun W1 st hL => new_tup hl hL (st.rvs h2)⟩⟩
  | tup c ps =>
    simp only [tupG, Option.some.injEq] at e
    subst e
    obtain ⟨a, vs, rfl, h1, h2⟩ := bv_tup rx
    refine ⟨a, vs, rfl, .inr ⟨h1, po _ W H (Step.refl _ _) R ?_⟩⟩
    rcases rx with rx | ⟨b, e, c⟩
    · exact rx
    · exact c.elim
  | _ => simp [tupG] at e
/-- isinstance(x, T), T a built-in class by its name -/
def tyN (p : PV) : Option String := match p with
  | .non => some "NoneType" | .bl _ => some "bool" | .int _ => some "int" | .str _ => some "str"
  | .tup _ _ => some "tuple" | .lst _ => some "list" | .dK _ => some "dict" | .dT _ => some "dict"
  | _ => none
def isiG (T : String) : G1 := fun p => ((tyN p).bind fun n => kitB n T).map PV.bl
theorem ty_of {K : PySem.W.Frag} {W : Wd} {H : Hp} {p : PV} {v : V} {n : String} (r : BV K W H p v) (e : tyN p = some n) : TyX K H v (.type n) := by
  cases p with
  | non => cases e; rcases r with r | ⟨a, _, c⟩; unfold RV Rep at r; rw [r]; exact .base .non; exact c.elim
  | bl b => cases e; rw [bv_bl r]; exact .base (.bl b)
  | int b => cases e; rw [bv_int r]; exact .base (.int b)
  | str b => cases e; rw [bv_str r]; exact .base (.str b)
  | tup c ps =>
    cases e
    obtain ⟨a, vs, rfl, h, _⟩ := bv_tup r
    rcases h with (h | ⟨o, h⟩) | ⟨o, its, n, h1, h2, _⟩
    · exact .base (.tup h)
    · exact .fTuple h
    · exact .kTuple h1 h2
  | lst ps => cases e; obtain ⟨a, vs, rfl, h, _⟩ := bv_lst r; exact .base (.lst h)
  | dK ps =>
    cases e
    rcases r with r | ⟨a, rfl, c⟩
    · unfold RV Rep at r
      obtain ⟨a, ws, rfl, h, _⟩ := r
      exact .base (.dK (msk_some.mp h).2)
    · obtain ⟨ws, h, _⟩ := c
      exact .base (.dK h)
  | dT ps =>
    cases e
    rcases r with r | ⟨a, rfl, c⟩
    · unfold RV Rep at r
      obtain ⟨a, ws, rfl, h, _⟩ := r
      exact .base (.dT (msk_some.mp h).2)
    · obtain ⟨ws, h, _⟩ := c
      exact .base (.dT h)
  | _ => cases e
theorem px_isi {T : String} {y : Str} {p p2 : Pos} (hg : Gl X "isinstance") (hm : X.mg "isinstance" = none) (ha : PB X Z e f) (hgT : Gl X y) (hmT : X.mg y = none) (hvT : bootBuiltins y = some (.type T)) (hb : bootBuiltins "isinstance" = some (.builtin "isinstance") := by decide +kernel)
    (hn : y ≠ "__name__" := by decide) (hd : (y == ("__debug__" : Str)) = false := by decide) (he : starEach [e, .Name y p2] X.env = (false, eval e X.env) :: starEach [.Name y p2] X.env := by rfl) (he2 : starEach [.Name y p2] X.env = (false, eval (.Name y p2) X.env) :: starEach [] X.env := by rfl)
    (hpl : (backTo pos (starEach [.Name y p2] X.env)).any (·.1) = false := by rfl) : PX X Z (.Call (.Name "isinstance" p) [e, .Name y p2] [] pos) (un1E (isiG T) f) := by
  refine px_of ⟨PE_imp (L2.pe_callB call_isi hg hm hb (L2.pa_cons ha.pe (L2.pa_cons (pe_bltn (v := .ty T) hgT hmT hvT rfl hn hd) L2.pa_nil he2) he) (by decide) (by decide) he hpl) fun σ H Q ⟨W, s, R, h⟩ => ⟨W, s, R, Post.bind h fun q s1 v W1 H1 _ st R1 rx po => ?_⟩⟩
  simp only [g1, isiG] at po
  cases e1 : tyN q with
  | none => simp only [e1] at po; exact po.elim
  | some n =>
    cases e2 : kitB n T with
    | none => simp only [e1, Option.bind_some, e2] at po; exact po.elim
    | some b =>
      simp only [e1, Option.bind_some, e2, Option.map_some] at po
      exact ⟨v, .ty T, .type n, .type T, b, rfl, .ty T, ty_of rx e1, kit_ty e2, po _ W1 H1 (Step.refl _ _) R1 (show RV X.K W1 H1 (.bl b) (.bl b) from rv_bl)⟩
end
end DR
/-! DR: dicts; in. -/
namespace DR
open PySem PySem.Spec PyProof.Rows L2
/-! ### tables of trees -/
section
variable {κ : Type} [DecidableEq κ]
def atP (l : List (κ × PV)) (k : κ) : Option PV := match l with
  | [] => none
  | p :: r => if p.1 = k then some p.2 else atP r k
def chP (l : List (κ × PV)) (k : κ) (v : PV) : List (κ × PV) := match l with
  | [] => []
  | p :: r => (if p.1 = k then (p.1, v) else p) :: chP r k v
def putP (l : List (κ × PV)) (k : κ) (v : PV) : List (κ × PV) := if (atP l k).isSome = true then chP l k v else l ++ [(k, v)]
end
section
variable {K : PySem.W.Frag} {cs : List Addr} {H : Hp}
theorem repK_at (k : Key) : ∀ {l : List (Key × PV)} {ws : List (Key × V)}, RepK K cs H l ws → (∀ p, atP l k = some p → ∃ v, valV ws k = some v ∧ Rep K cs H p v) ∧ (atP l k = none → valV ws k = none)
  | [], ws, r => by
    unfold RepK at r
    subst r
    exact And.intro (fun p e => by simp [atP] at e) (fun _ => rfl)
  | (j, q) :: l, ws, r => by
    unfold RepK at r
    obtain ⟨v, w, rfl, h1, h2⟩ := r
    by_cases e : j = k
    · refine ⟨fun p e' => ?_, fun e' => ?_⟩
      · simp only [atP, if_pos e, Option.some.injEq] at e'
        subst e'
        exact ⟨v, valV_pos e, h1⟩
      · simp only [atP, if_pos e] at e'
        cases e'
    · obtain ⟨g1, g2⟩ := repK_at k h2
      refine ⟨fun p e' => ?_, fun e' => ?_⟩
      · simp only [atP, if_neg e] at e'
        obtain ⟨u, u1, u2⟩ := g1 p e'
        exact ⟨u, by rw [valV_neg e]; exact u1, u2⟩
      · simp only [atP, if_neg e] at e'
        rw [valV_neg e]
        exact g2 e'
theorem repT_at (k : List Key) : ∀ {l : List (List Key × PV)} {ws : List (List Key × V)}, RepT K cs H l ws → (∀ p, atP l k = some p → ∃ v, valV ws k = some v ∧ Rep K cs H p v) ∧ (atP l k = none → valV ws k = none)
  | [], ws, r => by
    unfold RepT at r
    subst r
    exact And.intro (fun p e => by simp [atP] at e) (fun _ => rfl)
  | (j, q) :: l, ws, r => by
    unfold RepT at r
    obtain ⟨v, w, rfl, h1, h2⟩ := r
    by_cases e : j = k
    · refine ⟨fun p e' => ?_, fun e' => ?_⟩
      · simp only [atP, if_pos e, Option.some.injEq] at e'
        subst e'
        exact ⟨v, valV_pos e, h1⟩
      · simp only [atP, if_pos e] at e'
        cases e'
    · obtain ⟨g1, g2⟩ := repT_at k h2
      refine ⟨fun p e' => ?_, fun e' => ?_⟩
      · simp only [atP, if_neg e] at e'
        obtain ⟨u, u1, u2⟩ := g1 p e'
        exact ⟨u, by rw [valV_neg e]; exact u1, u2⟩
      · simp only [atP, if_neg e] at e'
        rw [valV_neg e]
        exact g2 e'
theorem repK_ch (k : Key) {p : PV} {v : V} (rp : Rep K cs H p v) : ∀ {l : List (Key × PV)} {ws : List (Key × V)}, RepK K cs H l ws → RepK K cs H (chP l k p) (ws.map fun kv => if kv.1 = k then (kv.1, v) else kv)
  | [], ws, r => by
    unfold RepK at r
    subst r
    unfold chP RepK
    rfl
  | (j, q) :: l, ws, r => by
    unfold RepK at r
    obtain ⟨u, w, rfl, h1, h2⟩ := r
    have ih := repK_ch k rp h2
    unfold chP
    by_cases e : j = k
    · simp only [e, if_true, List.map_cons]
      unfold RepK
      exact ⟨v, _, rfl, rp, ih⟩
    · simp only [e, if_false, List.map_cons]
      unfold RepK
      exact ⟨u, _, rfl, h1, ih⟩
theorem repT_ch (k : List Key) {p : PV} {v : V} (rp : Rep K cs H p v) : ∀ {l : List (List Key × PV)} {ws : List (List Key × V)}, RepT K cs H l ws → RepT K cs H (chP l k p) (ws.map fun kv => if kv.1 = k then (kv.1, v) else kv)
  | [], ws, r => by
    unfold RepT at r
    subst r
    unfold chP RepT
    rfl
  | (j, q) :: l, ws, r => by
    unfold RepT at r
    obtain ⟨u, w, rfl, h1, h2⟩ := r
    have ih := repT_ch k rp h2
    unfold chP
    by_cases e : j = k
    · simp only [e, if_true, List.map_cons]
      unfold RepT
      exact ⟨v, _, rfl, rp, ih⟩
    · simp only [e, if_false, List.map_cons]
      unfold RepT
      exact ⟨u, _, rfl, h1, ih⟩
theorem repK_snoc {k : Key} {p : PV} {v : V} (rp : Rep K cs H p v) : ∀ {l : List (Key × PV)} {ws : List (Key × V)}, RepK K cs H l ws → RepK K cs H (l ++ [(k, p)]) (ws ++ [(k, v)])
  | [], ws, r => by
    unfold RepK at r
    subst r
    show RepK K cs H [(k, p)] [(k, v)]
    unfold RepK
    exact ⟨v, [], rfl, rp, by unfold RepK; rfl⟩
  | (j, q) :: l, ws, r => by
    unfold RepK at r
    obtain ⟨u, w, rfl, h1, h2⟩ := r
    simp only [List.cons_append]
    unfold RepK
    exact ⟨u, _, rfl, h1, repK_snoc rp h2⟩
theorem repT_snoc {k : List Key} {p : PV} {v : V} (rp : Rep K cs H p v) : ∀ {l : List (List Key × PV)} {ws : List (List Key × V)}, RepT K cs H l ws → RepT K cs H (l ++ [(k, p)]) (ws ++ [(k, v)])
  | [], ws, r => by
    unfold RepT at r
    subst r
    show RepT K cs H [(k, p)] [(k, v)]
    unfold RepT
    exact ⟨v, [], rfl, rp, by unfold RepT; rfl⟩
  | (j, q) :: l, ws, r => by
    unfold RepT at r
    obtain ⟨u, w, rfl, h1, h2⟩ := r
    simp only [List.cons_append]
    unfold RepT
    exact ⟨u, _, rfl, h1, repT_snoc rp h2⟩
theorem repK_put (k : Key) {p : PV} {v : V} (rp : Rep K cs H p v) {l : List (Key × PV)} {ws : List (Key × V)} (r : RepK K cs H l ws) : RepK K cs H (putP l k p) (putK ws k v) := by
  obtain ⟨h1, h2⟩ := repK_at k r
  unfold putP putK
  rw [valV_any]
  cases e : atP l k with
  | none => rw [h2 e]; exact repK_snoc rp r
  | some q =>
    obtain ⟨u, e2, _⟩ := h1 q e
    rw [e2]
    exact repK_ch k rp r
theorem repT_put (k : List Key) {p : PV} {v : V} (rp : Rep K cs H p v) {l : List (List Key × PV)} {ws : List (List Key × V)} (r : RepT K cs H l ws) : RepT K cs H (putP l k p) (putK ws k v) := by
  obtain ⟨h1, h2⟩ := repT_at k r
  unfold putP putK
  rw [valV_any]
  cases e : atP l k with
  | none => rw [h2 e]; exact repT_snoc rp r
  | some q =>
    obtain ⟨u, e2, _⟩ := h1 q e
    rw [e2]
    exact repT_ch k rp r
theorem repK_len : ∀ {l : List (Key × PV)} {ws : List (Key × V)}, RepK K cs H l ws → ws.length = l.length
  | [], ws, r => by unfold RepK at r; subst r; rfl
  | (j, q) :: l, ws, r => by
    unfold RepK at r
    obtain ⟨u, w, rfl, h1, h2⟩ := r
    simp [repK_len h2]
theorem repT_len : ∀ {l : List (List Key × PV)} {ws : List (List Key × V)}, RepT K cs H l ws → ws.length = l.length
  | [], ws, r => by unfold RepT at r; subst r; rfl
  | (j, q) :: l, ws, r => by
    unfold RepT at r
    obtain ⟨u, w, rfl, h1, h2⟩ := r
    simp [repT_len h2]
/-- keys -/
def keyP : PV → Option Key
  | .int i => some (.inl i)
  | .str x => some (.inr x)
  | _ => none
def keysP : List PV → Option (List Key)
  | [] => some []
  | p :: ps => match keyP p, keysP ps with
    | some k, some ks => some (k :: ks)
    | _, _ => none
theorem keyP_v {p : PV} {k : Key} {v : V} (e : keyP p = some k) (r : Rep K cs H p v) : v = kV k := by
  cases p with
  | int i => cases e; unfold Rep at r; exact r
  | str i => cases e; unfold Rep at r; exact r
  | _ => cases e
theorem keysP_v : ∀ {ps : List PV} {ks : List Key} {vs : List V}, keysP ps = some ks → Reps K cs H ps vs → vs = ks.map kV
  | [], ks, vs, e, r => by
    cases e
    unfold Reps at r
    rw [r]
    rfl
  | p :: ps, ks, vs, e, r => by
    unfold Reps at r
    obtain ⟨v, w, rfl, h1, h2⟩ := r
    unfold keysP at e
    cases e1 : keyP p with
    | none => rw [e1] at e; cases e
    | some k =>
      cases e2 : keysP ps with
      | none => rw [e1, e2] at e; cases e
      | some ks' =>
        rw [e1, e2] at e
        cases e
        rw [keyP_v e1 h1, keysP_v e2 h2]
        rfl
end
/-! ### looking up, a key that may be a constant -/
def DG (K : PySem.W.Frag) (H : Hp) (a : Addr) (y : V) (r : Option V) : Prop :=
  (∃ l k, H a = some (.dK l) ∧ y = kV k ∧ r = valV l k) ∨ ∃ l ks b, H a = some (.dT l) ∧ y = .ref b ∧ SqT K H b (ks.map kV) ∧ r = valV l ks
section
variable {X : Cx} {pins : List (Addr × Obj)} {σ : L2.St} {H : Hp} {s : Shared} {a b : Addr} {y : V} {u : Value} {o : Option V} {A : Around} {E : Value → Shared → Prop}
theorem key_at {ks : List Key} (I : L2.Inv X pins σ H s) (h : SqT X.K H b (ks.map kV)) : (tupleKind (mixKind X.prog X.w)).is s.heap ks b := by
  obtain ⟨its, r, ⟨o, h1, h2, n, h3⟩, _⟩ := I.tuple h
  exact ⟨o, its.toArray, n, h1, h2, h3, by simpa using items_are r⟩
theorem DG.isD (I : L2.Inv X pins σ H s) (g : DG X.K H a y o) : s.TypeIs (.ref a) "dict" := by
  rcases g with ⟨l, k, e, _⟩ | ⟨l, ks, b, e, _⟩
  · obtain ⟨_, _, vs, _, dd⟩ := dk_of I.hok e
    exact dd.typeIs
  · obtain ⟨_, _, xs, _, dd⟩ := dt_of I.hok e
    exact dd.typeIs
theorem DG.get {v : V} {Q : Value → Shared → Prop} (hu : A.units + 1 < cLine) (I : L2.Inv X pins σ H s) (g : DG X.K H a y (some v)) (ry : RelV y u) (h : ∀ w' s', L2.Inv X pins σ H s' → RelV v w' → Q w' s') : wpAny (model X.prog X.w) A (getItem (.ref a) u) Q E s := by
  rcases g with ⟨l, k, e, ey, el⟩ | ⟨l, ks, b, e, ey, eb, el⟩
  · exact d_getItem hu I (by rw [ey, el]; exact DGet.k e) ry h
  · rw [ey] at ry
    cases (show u = Value.ref b from ry)
    obtain ⟨_, _, xs, rel, dd⟩ := dt_of I.hok e
    have ro := rel.val ks
    rw [← el] at ro
    obtain ⟨z, hz, rz⟩ := RelO.some_of ro
    obtain ⟨pr, hp, hp2⟩ := Option.map_eq_some_iff.mp hz
    subst hp2
    exact wpAny_getItem_heap (tupleKind_room_in1 hu) (key_at I eb) dd hp (h pr.2 _ (I.tok _) rz)
theorem DG.mem {Q : Value → Shared → Prop} (hu : A.units + 1 < cLine) (I : L2.Inv X pins σ H s) (g : DG X.K H a y o) (ry : RelV y u) (h : ∀ s', L2.Inv X pins σ H s' → Q (.bool o.isSome) s') : wpAny (model X.prog X.w) A (compareOp .In u (.ref a)) Q E s := by
  rcases g with ⟨l, k, e, ey, el⟩ | ⟨l, ks, b, e, ey, eb, el⟩
  · exact d_in (o := o) hu I (by rw [ey, el]; exact DGet.k e) ry h
  · rw [ey] at ry
    cases (show u = Value.ref b from ry)
    obtain ⟨_, hd, xs, rel, dd⟩ := dt_of I.hok e
    refine wpAny_in_heap (tupleKind_room_in1 hu) (key_at I eb) hd dd ?_
    have ro := (rel.val ks).isSome_eq
    rw [← el, Option.isSome_map] at ro
    rw [← ro]
    exact h _ (I.tok _)
theorem DG.nomem {Q : Value → Shared → Prop} (hu : A.units + 1 < cLine) (I : L2.Inv X pins σ H s) (g : DG X.K H a y o) (ry : RelV y u) (h : ∀ s', L2.Inv X pins σ H s' → Q (.bool (!o.isSome)) s') : wpAny (model X.prog X.w) A (compareOp .NotIn u (.ref a)) Q E s := by
  rcases g with ⟨l, k, e, ey, el⟩ | ⟨l, ks, b, e, ey, eb, el⟩
  · exact d_notIn (o := o) hu I (by rw [ey, el]; exact DGet.k e) ry h
  · rw [ey] at ry
    cases (show u = Value.ref b from ry)
    obtain ⟨_, hd, xs, rel, dd⟩ := dt_of I.hok e
    refine wpAny_notIn_heap (tupleKind_room_in1 hu) (key_at I eb) hd dd ?_
    have ro := (rel.val ks).isSome_eq
    rw [← el, Option.isSome_map] at ro
    rw [← ro]
    exact h _ (I.tok _)
end
/-- the value at a key: none where the key is of no kind, some none where there is nothing -/
def lookD (p q : PV) : Option (Option PV) := match p with
  | .dK l => (keyP q).map fun k => atP l k
  | .dT l => (match q with
    | .tup _ qs => (keysP qs).map fun ks => atP l ks
    | _ => none)
  | _ => none
section
variable {K : PySem.W.Frag} {W : Wd} {H : Hp}
theorem bv_dK {l : List (Key × PV)} {v : V} (h : BV K W H (.dK l) v) : ∃ a ws, v = .ref a ∧ H a = some (.dK ws) ∧ RepK K W.S (W.m H) l ws := by
  rcases h with h | ⟨a, e, ws, h1, h2⟩
  · unfold RV Rep at h
    obtain ⟨a, ws, e, h1, h2⟩ := h
    exact ⟨a, ws, e, (msk_some.mp h1).2, h2⟩
  · exact ⟨a, ws, e, h1, h2⟩
theorem bv_dT {l : List (List Key × PV)} {v : V} (h : BV K W H (.dT l) v) : ∃ a ws, v = .ref a ∧ H a = some (.dT ws) ∧ RepT K W.S (W.m H) l ws := by
  rcases h with h | ⟨a, e, ws, h1, h2⟩
  · unfold RV Rep at h
    obtain ⟨a, ws, e, h1, h2⟩ := h
    exact ⟨a, ws, e, (msk_some.mp h1).2, h2⟩
  · exact ⟨a, ws, e, h1, h2⟩
theorem lookD_ok {p q : PV} {x y : V} {r : Option PV} (e : lookD p q = some r) (rx : BV K W H p x) (ry : RV K W H q y) : ∃ a o, x = .ref a ∧ DG K H a y o ∧ (∀ z, r = some z → ∃ v, o = some v ∧ RV K W H z v) ∧ (r = none → o = none) := by
  unfold lookD at e
  split at e
  · rename_i l
    simp only [Option.map_eq_some_iff] at e
    obtain ⟨k, ek, rfl⟩ := e
    obtain ⟨a, ws, rfl, h1, h2⟩ := bv_dK rx
    obtain ⟨g1, g2⟩ := repK_at k h2
    exact ⟨a, valV ws k, rfl, .inl ⟨ws, k, h1, keyP_v ek ry, rfl⟩, g1, g2⟩
  · rename_i l
    split at e
    · rename_i c qs
      simp only [Option.map_eq_some_iff] at e
      obtain ⟨ks, ek, rfl⟩ := e
      obtain ⟨a, ws, rfl, h1, h2⟩ := bv_dT rx
      obtain ⟨g1, g2⟩ := repT_at ks h2
      obtain ⟨b, vs, rfl, k1, k2⟩ := rv_tup_inv ry
      have hv := keysP_v ek k2
      subst hv
      exact ⟨a, valV ws ks, rfl, .inr ⟨ws, ks, b, h1, rfl, k1, rfl⟩, g1, g2⟩
    · cases e
  · cases e
end
section
variable {X : Cx} {Z : WX} {x : Str} {pos pos' p1 p2 : Pos} {e a b : Expr} {f g : EM}
def rIxQ (K : PySem.W.Frag) : R2 := fun x y H Q => ∃ a v, x = .ref a ∧ DG K H a y (some v) ∧ Q v H
theorem ix_dict (hu : X.A.units + 1 < cLine) : IxR X (rIxQ X.K) := by
  intro value slice pins s σ H x y v u Q I rx ry h hs
  obtain ⟨a, z, rfl, g, q⟩ := h
  cases rx
  exact tail_any (DG.isD I g) PySem.F.slot_dict_getitem.lookup (g.get hu I ry fun w' s' I' rz => ⟨z, H, I', rz, q⟩) hs
theorem ix_all (hu : X.A.units + 1 < cLine) : IxR X (fun x y H Q => rIx X.K x y H Q ∨ rIxQ X.K x y H Q) := ix_seq.or (ix_dict hu)
/-! ### in -/
def rInT (K : PySem.W.Frag) (n : Bool) : R2 := fun x y H Q => ∃ d ds, Dp K H x d ∧ Dp K H y (.tuple ds) ∧ SeqAt.shaped d = true ∧ SeqAt.shaped (.tuple ds) = true ∧ Q (.bl (n != ds.any fun z => PyData.eqv z d)) H
theorem op_inT (hu : X.A.units + 65 < cLine) : OpR X (compareOp .In) (rInT X.K false) := by
  intro pins s σ H x y v u Q I rx ry h
  obtain ⟨d, ds, hd, he, sd, se, q⟩ := h
  obtain ⟨l1, r1⟩ := Dp.reads I d x v hd rx
  obtain ⟨l2, r2⟩ := Dp.reads I (.tuple ds) y u he ry
  rw [Bool.false_bne] at q
  have lay : PyData.canLayAll0 ds = true := by
    have := SeqAt.canLay_of_shaped se
    simpa [PyData.canLay0] using this
  exact SeqAt.in_tuple_reads r2 r1 lay (SeqAt.canLay_of_shaped sd) (room_in_shaped sd hu) ⟨.bl _, H, I, rfl, q⟩
theorem op_notInT (hu : X.A.units + 65 < cLine) : OpR X (compareOp .NotIn) (rInT X.K true) := by
  intro pins s σ H x y v u Q I rx ry h
  obtain ⟨d, ds, hd, he, sd, se, q⟩ := h
  obtain ⟨l1, r1⟩ := Dp.reads I d x v hd rx
  obtain ⟨l2, r2⟩ := Dp.reads I (.tuple ds) y u he ry
  rw [Bool.true_bne] at q
  have lay : PyData.canLayAll0 ds = true := by
    have := SeqAt.canLay_of_shaped se
    simpa [PyData.canLay0] using this
  exact SeqAt.notIn_tuple_reads r2 r1 lay (SeqAt.canLay_of_shaped sd) (room_in_shaped sd hu) ⟨.bl _, H, I, rfl, q⟩
def rInQ (K : PySem.W.Frag) (n : Bool) : R2 := fun x y H Q => ∃ a o, y = .ref a ∧ DG K H a x o ∧ Q (.bl (n != o.isSome)) H
theorem op_inQ (hu : X.A.units + 1 < cLine) : OpR X (compareOp .In) (rInQ X.K false) := by
  intro pins s σ H x y v u Q I rx ry h
  obtain ⟨a, o, rfl, g, q⟩ := h
  cases ry
  rw [Bool.false_bne] at q
  exact g.mem hu I rx fun s' I' => ⟨.bl _, H, I', rfl, q⟩
theorem op_notInQ (hu : X.A.units + 1 < cLine) : OpR X (compareOp .NotIn) (rInQ X.K true) := by
  intro pins s σ H x y v u Q I rx ry h
  obtain ⟨a, o, rfl, g, q⟩ := h
  cases ry
  rw [Bool.true_bne] at q
  exact g.nomem hu I rx fun s' I' => ⟨.bl _, H, I', rfl, q⟩
/-- the item, the container -/
def memD (q : PV) (ps : List PV) : Option Bool := match toD q, toDs ps with
  | some d, some ds => if SeqAt.shaped d && SeqAt.shaped (.list ds) && SeqAt.shaped (.tuple ds) then some (ds.any fun z => PyData.eqv z d) else none
  | _, _ => none
def inG (n : Bool) : P2 := fun q p => match p with
  | .lst ps => (memD q ps).map fun b => .bl (n != b)
  | .tup _ ps => (memD q ps).map fun b => .bl (n != b)
  | .dK _ => (lookD p q).map fun o => .bl (n != o.isSome)
  | .dT _ => (lookD p q).map fun o => .bl (n != o.isSome)
  | _ => none
theorem memD_some {q : PV} {ps : List PV} {b : Bool} (e : memD q ps = some b) : ∃ d ds, toD q = some d ∧ toDs ps = some ds ∧ SeqAt.shaped d = true ∧ SeqAt.shaped (.list ds) = true ∧ SeqAt.shaped (.tuple ds) = true ∧ b = ds.any fun z => PyData.eqv z d := by
  unfold memD at e
  split at e
  · rename_i d ds e1 e2
    split at e
    · rename_i h
      simp only [Bool.and_eq_true] at h
      exact ⟨d, ds, e1, e2, h.1.1, h.1.2, h.2, (Option.some.inj e).symm⟩
    · cases e
  · cases e
/-- a rule whose right side is only looked at -/
def BinB (X : Cx) (f : Value → Value → Sem Value) (g : P2) : Prop := ∃ r : R2, OpR X f r ∧ ∀ (W : Wd) (H : Hp) (p q : PV) (x y : V) (res : PV) (Q : VK), RV X.K W H p x → BV X.K W H q y → g p q = some res → (∀ v, RV X.K W H res v → Q v H) → r x y H Q
theorem inG_ok {K : PySem.W.Frag} {W : Wd} {H : Hp} {p q : PV} {x y : V} {n : Bool} {res : PV} {Q : VK} {rD : R2} (hD : ∀ d ds, Dp K H x d → Dp K H y (.list ds) → SeqAt.shaped d = true → SeqAt.shaped (.list ds) = true → Q (.bl (n != ds.any fun z => PyData.eqv z d)) H → rD x y H Q)
    (rx : RV K W H p x) (ry : BV K W H q y) (e : inG n p q = some res) (k : ∀ v, RV K W H res v → Q v H) : rD x y H Q ∨ rInT K n x y H Q ∨ rInQ K n x y H Q := by
  unfold inG at e
  split at e
  · rename_i ps
    simp only [Option.map_eq_some_iff] at e
    obtain ⟨b, e, rfl⟩ := e
    obtain ⟨d, ds, e1, e2, s1, s2, s3, rfl⟩ := memD_some e
    obtain ⟨a, vs, rfl, h1, h2⟩ := bv_lst ry
    exact .inl (hD d ds (rep_dp (msk_sub _ _) p x d rx e1) (.lst (SqL.of h1) (reps_dp (msk_sub _ _) ps vs ds h2 e2)) s1 s2 (k _ rv_bl))
  · rename_i c ps
    simp only [Option.map_eq_some_iff] at e
    obtain ⟨b, e, rfl⟩ := e
    obtain ⟨d, ds, e1, e2, s1, s2, s3, rfl⟩ := memD_some e
    obtain ⟨a, vs, rfl, h1, h2⟩ := bv_tup ry
    exact .inr (.inl ⟨d, ds, rep_dp (msk_sub _ _) p x d rx e1, .tup h1 (reps_dp (msk_sub _ _) ps vs ds h2 e2), s1, s3, k _ rv_bl⟩)
  · rename_i l
    simp only [Option.map_eq_some_iff] at e
    obtain ⟨r, e, rfl⟩ := e
    obtain ⟨a, o, ea, g, h1, h2⟩ := lookD_ok e ry rx
    refine .inr (.inr ⟨a, o, ea, g, k _ ?_⟩)
    cases r with
    | none => rw [h2 rfl]; exact rv_bl
    | some z => obtain ⟨v, hv, _⟩ := h1 z rfl; rw [hv]; exact rv_bl
  · rename_i l
    simp only [Option.map_eq_some_iff] at e
    obtain ⟨r, e, rfl⟩ := e
    obtain ⟨a, o, ea, g, h1, h2⟩ := lookD_ok e ry rx
    refine .inr (.inr ⟨a, o, ea, g, k _ ?_⟩)
    cases r with
    | none => rw [h2 rfl]; exact rv_bl
    | some z => obtain ⟨v, hv, _⟩ := h1 z rfl; rw [hv]; exact rv_bl
  · cases e
theorem bb_in (hu : X.A.units + 65 < cLine) : BinB X (compareOp .In) (inG false) :=
  ⟨_, OpR_or (op_inD hu) (OpR_or (op_inT hu) (op_inQ (by omega))), fun W H p q x y res Q rx ry e k => inG_ok (rD := rInD X.K) (fun d ds a b c f g => ⟨d, ds, a, b, c, f, by rw [Bool.false_bne] at g; exact g⟩) rx ry e k⟩
theorem bb_notin (hu : X.A.units + 65 < cLine) : BinB X (compareOp .NotIn) (inG true) :=
  ⟨_, OpR_or (op_notInD hu) (OpR_or (op_notInT hu) (op_notInQ (by omega))), fun W H p q x y res Q rx ry e k => inG_ok (rD := rNotInD X.K) (fun d ds a b c f g => ⟨d, ds, a, b, c, f, by rw [Bool.true_bne] at g; exact g⟩) rx ry e k⟩
theorem px_cmpB {op : CmpOp} {g : P2} {fa fb : EM} (hg : BinB X (compareOp op) g) (ha : PX X Z a fa) (hb : PB X Z b fb) (hm : behindInMarks op b = false := by first | exact nomark _ | rfl | with_unfolding_all rfl) : PX X Z (.Compare a [op] [b] pos) (binE g fa fb) := by
  obtain ⟨r, o, k⟩ := hg
  refine px_of ⟨PE_imp (L2.pe_cmpR o ha.pe hb.pe hm) fun σ H Q h => ?_⟩
  obtain ⟨W, s, R, h⟩ := h
  refine ⟨W, s, R, Post.bind h fun p s1 x W1 H1 _ st R1 rx q => ⟨W1, s1, R1, Post.bind q fun q0 s2 y W2 H2 _ st2 R2 ry q2 => ?_⟩⟩
  simp only [DR.p2] at q2
  cases e : g p q0 with
  | none => simp only [e, Option.map_none] at q2; exact q2.elim
  | some res =>
    simp only [e, Option.map_some] at q2
    exact k W2 H2 p q0 x y res Q (st2.rv rx) ry e fun v rv => q2 v W2 H2 (Step.refl _ _) R2 rv
/-! ### {}, len -/
def newK : OM := fun s => .ok (.dK [], true) s
def newT : OM := fun s => .ok (.dT [], true) s
theorem po_newK : PO X Z (.Dict [] [] pos) newK := ⟨PE_imp L2.pe_dnewK fun σ H Q ⟨W, s, R, h⟩ p hp => Post.newO R hp h ⟨[], upd_same, by unfold RepK; rfl⟩⟩
theorem po_newT : PO X Z (.Dict [] [] pos) newT := ⟨PE_imp L2.pe_dnewT fun σ H Q ⟨W, s, R, h⟩ p hp => Post.newO R hp h ⟨[], upd_same, by unfold RepT; rfl⟩⟩
def lenQ : G1 := fun p => match p with
  | .dK l => some (.int l.length)
  | .dT l => some (.int l.length)
  | _ => none
def rLenQ : List V → Hp → VK → Prop := fun xs H Q => ∃ (p : Addr) (l : List (Key × V)), xs = [.ref p] ∧ H p = some (.dK l) ∧ Q (.int ((l.length : Nat) : Int)) H
theorem call_len_dK : CallR X (.builtin "len") rLenQ := by
  intro pins s σ H xs us Q I r h
  obtain ⟨p, l, rfl, hp, q⟩ := h
  obtain ⟨u, rfl, rx⟩ := vals1 r
  cases rx
  exact d_len I (.inl hp) fun t s' I' => ⟨.int _, H, I', ⟨t, rfl⟩, q⟩
theorem u_lenQ : Un1 X (.builtin "len") (g1 lenQ) := Un1.plain (CallR_or call_len_dK call_len_dT) fun W H p x res Q rx e k => by
  cases p with
  | dK l =>
    simp only [lenQ, Option.some.injEq] at e
    subst e
    obtain ⟨a, ws, rfl, h1, h2⟩ := bv_dK rx
    exact .inl ⟨a, ws, rfl, h1, k _ (by rw [repK_len h2]; exact rv_int)⟩
  | dT l =>
    simp only [lenQ, Option.some.injEq] at e
    subst e
    obtain ⟨a, ws, rfl, h1, h2⟩ := bv_dT rx
    exact .inr ⟨a, ws, rfl, h1, k _ (by rw [repT_len h2]; exact rv_int)⟩
  | _ => simp [lenQ] at e
end
end DR
/-! DR: items, slices, methods, stores into lists. -/
namespace DR
open PySem PySem.Spec PyProof.Rows L2
theorem rE_non {K : PySem.W.Frag} {σ : L2.St} {W : Wd} {H : Hp} {s : DS} : rE K σ W H s .non .non := rv_non (K := K) (W := W) (H := H)
theorem atI_rep {K : PySem.W.Frag} {cs : List Addr} {H : Hp} {ps : List PV} {vs : List V} {i : Int} {p : PV} (r : Reps K cs H ps vs) (h : atI ps i = some p) : ∃ v, atI vs i = some v ∧ Rep K cs H p v := by
  unfold atI at h ⊢
  rw [r.len]
  cases e : ixN ps.length i with
  | none => rw [e] at h; cases h
  | some j =>
    rw [e] at h
    obtain ⟨v, h1, h2⟩ := r.get h
    exact ⟨v, h1, h2⟩
def ixG : P2 := fun p q => match p, q with
  | .lst ps, .int i => atI ps i
  | .tup _ ps, .int i => atI ps i
  | .scr ps, .int i => atI ps i
  | .str z, .int i => if lineOk z.length then (atI z.cps.toList i).map fun c => .str ⟨#[c]⟩ else none
  | .dK l, q => (lookD (.dK l) q).bind id
  | .dT l, q => (lookD (.dT l) q).bind id
  | _, _ => none
section
variable {X : Cx} {Z : WX} {x : Str} {pos pos' p1 p2 : Pos} {e a b : Expr} {f g : EM}
theorem ixG_ok {K : PySem.W.Frag} {W : Wd} {H : Hp} {p q r : PV} {x y : V} {Q : VK} (rx : BV K W H p x) (ry : RV K W H q y) (h : ixG p q = some r) (k : ∀ v, RV K W H r v → Q v H) : rIx K x y H Q ∨ rIxQ K x y H Q := by
  have dict : ∀ {d : PV}, ((lookD d q).bind id) = some r → BV K W H d x → rIxQ K x y H Q := fun {d} e rd => by
    cases e1 : lookD d q with
    | none => rw [e1] at e; cases e
    | some z =>
      rw [e1] at e
      obtain ⟨a, o, rfl, g, g1, g2⟩ := lookD_ok e1 rd ry
      cases z with
      | none => cases e
      | some z =>
        cases e
        obtain ⟨v, rfl, rv⟩ := g1 r rfl
        exact ⟨a, v, rfl, g, k v rv⟩
  unfold ixG at h
  split at h
  · rename_i ps i
    obtain ⟨a, vs, rfl, h1, h2⟩ := bv_lst rx
    obtain ⟨v, h3, h4⟩ := atI_rep h2 h
    exact .inl (.inl ⟨a, vs, i, v, rfl, rv_int_inv ry, SqL.of h1, h3, k v h4⟩)
  · rename_i ps i
    obtain ⟨a, vs, rfl, h1, h2⟩ := bv_tup rx
    obtain ⟨v, h3, h4⟩ := atI_rep h2 h
    exact .inl (.inr (.inl ⟨a, vs, i, v, rfl, rv_int_inv ry, h1, h3, k v h4⟩))
  · rename_i ps i
    obtain ⟨a, vs, rfl, h1, h2⟩ := bv_scr rx
    obtain ⟨v, h3, h4⟩ := atI_rep h2 h
    exact .inl (.inl ⟨a, vs, i, v, rfl, rv_int_inv ry, h1, h3, k v h4⟩)
  · rename_i z i
    by_cases hz : lineOk z.length = true
    · rw [if_pos hz] at h
      simp only [Option.map_eq_some_iff] at h
      obtain ⟨c, h, rfl⟩ := h
      exact .inl (.inr (.inr ⟨z, i, c, bv_str rx, rv_int_inv ry, of_decide_eq_true hz, h, k _ rv_str⟩))
    · rw [if_neg hz] at h
      cases h
  · exact .inr (dict h rx)
  · exact .inr (dict h rx)
  · cases h
def ixE (f g : EM) : EM := fun s => (f s).bind fun p s1 => (g s1).bind fun q s2 => match ixG p q with
  | some r => .ok r s2
  | none => .bad
def ixN (i : Nat) (g : EM) : EM := fun s => (nameB i s).bind fun _ _ => (g s).bind fun q s2 => (nameB i s2).bind fun p s3 => match ixG p q with
  | some r => .ok r s3
  | none => .bad
theorem px_ix (hu : X.A.units + 1 < cLine) (ha : PX X Z a f) (hb : PX X Z b g) (hs : PlainIx b := by exact fun _ _ => rfl) : PX X Z (.Subscript a b pos) (ixE f g) := by
  refine ⟨PE_imp (L2.pe_ix (ix_all hu) ha.pe hb.pe hs) fun σ H Q ⟨W, s, R, h⟩ => ⟨W, s, R, Post.bind h fun p s1 x W1 H1 _ st R1 rx q => ⟨W1, s1, R1, Post.bind q fun q2 s2 y W2 H2 _ st2 R2 ry k => ?_⟩⟩⟩
  cases e : ixG p q2 with
  | none => simp only [e] at k; exact k.elim
  | some r => simp only [e] at k; exact ixG_ok (.inl (st2.rv rx)) ry e fun v rv => k v W2 H2 (Step.refl _ _) R2 rv
theorem nameB_ok {s s1 : DS} {i : Nat} {p : PV} (h : nameB i s = .ok p s1) : s1 = s := by
  unfold nameB at h
  split at h
  · rename_i k e
    cases e1 : s.t[k]? <;> rw [e1] at h <;> cases h
    rfl
  · cases h; rfl
  · cases h; rfl
  · cases h
/-- the name's slot is looked at ahead of the index and behind it -/
theorem nameB_two {K : PySem.W.Frag} {W : Wd} {H : Hp} {s : DS} {σ : L2.St} {i : Nat} {Q : VK} {rest : DS → Re PV} (R : RSt K W H s σ) (h : Post rE K Z σ W H ((nameB i s).bind fun _ _ => rest s) Q) : ∃ v, σ[i]? = some (some v) ∧ Post rE K Z σ W H (rest s) Q := by
  cases e : nameB i s with
  | bad => rw [e] at h; exact h.elim
  | exc x s1 => exact (nameB_no e).elim
  | ok p s1 =>
    rw [e] at h
    obtain ⟨rfl, v, h1, _⟩ := nameB_bv R e
    exact ⟨v, h1, h⟩
theorem nameB_end {K : PySem.W.Frag} {W : Wd} {H : Hp} {s : DS} {σ : L2.St} {i : Nat} {v : V} {Q : VK} {rest : PV → DS → Re PV} (R : RSt K W H s σ) (hv : σ[i]? = some (some v)) (h : Post rE K Z σ W H ((nameB i s).bind rest) Q) : ∃ p, BV K W H p v ∧ Post rE K Z σ W H (rest p s) Q := by
  cases e : nameB i s with
  | bad => rw [e] at h; exact h.elim
  | exc x s1 => exact (nameB_no e).elim
  | ok p s1 =>
    rw [e] at h
    obtain ⟨rfl, v', h1, h2⟩ := nameB_bv R e
    rw [hv] at h1
    cases h1
    exact ⟨p, h2, h⟩
theorem px_ixN (hu : X.A.units + 1 < cLine) (i : Nat) (hN : X.N[i]? = some x := by rfl) (hb : PX X Z b g) (hv : Vis X.env.scope x := by first | exact Or.inl rfl | exact Or.inr (Or.inl rfl) | exact Or.inr (Or.inr rfl)) (hs : PlainIx b := by exact fun _ _ => rfl)
    (hd : (x == ("__debug__" : Str)) = false := by decide) (hcd : (x == ("__classdict__" : Str)) = false := by decide) : PX X Z (.Subscript (.Name x p1) b pos) (ixN i g) := by
  refine ⟨PE_imp (L2.pe_ix (ix_all hu) (pe_var hN hv hd hcd) hb.pe hs) fun σ H Q ⟨W, s, R, h⟩ => ?_⟩
  obtain ⟨v, h1, h⟩ := nameB_two (rest := fun s => (g s).bind fun q s2 => (nameB i s2).bind fun p s3 => match ixG p q with
    | some r => .ok r s3
    | none => .bad) R h
  refine ⟨v, h1, W, s, R, Post.bind h fun q2 s2 y W2 H2 _ st2 R2 ry k => ?_⟩
  obtain ⟨p, h2, k⟩ := nameB_end R2 h1 k
  cases e : ixG p q2 with
  | none => simp only [e] at k; exact k.elim
  | some r => simp only [e] at k; exact ixG_ok h2 ry e fun v rv => k v W2 H2 (Step.refl _ _) R2 rv
/-! ### slices -/
def cutP (ps : List PV) (lo hi : Option Int) : List PV := (ps.drop (HT.sIx ps.length 0 lo)).take (HT.sIx ps.length ps.length hi - HT.sIx ps.length 0 lo)
theorem cut_rep {K : PySem.W.Frag} {cs : List Addr} {H : Hp} {ps : List PV} {vs : List V} {lo hi : Option Int} (r : Reps K cs H ps vs) : Reps K cs H (cutP ps lo hi) (cutV vs lo hi) := by
  unfold cutP cutV
  rw [r.len]
  exact (r.drop _).take _
abbrev QM := DS → Re (Option Int)
def rQ : RT (Option Int) (Option Int) := fun _ _ _ _ _ a b => b = a
structure PQ (X : Cx) (Z : WX) (e : Option Expr) (f : QM) : Prop where
  po : L2.PO X e (tG rQ X.K Z f)
def noQ : QM := fun s => .ok none s
def someQ (f : EM) : QM := fun s => (f s).bind fun p s1 => match p with
  | .int i => .ok (some i) s1
  | _ => .bad
theorem q_none : PQ X Z none noQ := ⟨⟨fun pins s σ H Q I ⟨W, s1, R, h⟩ => L2.po_none.run pins s σ H Q I (h none W H (Step.refl _ _) R rfl)⟩⟩
theorem q_some (h : PX X Z e f) : PQ X Z (some e) (someQ f) := by
  refine ⟨⟨fun pins s σ H Q I h' => (L2.po_some h.pe).run pins s σ H Q I ?_⟩⟩
  obtain ⟨W, s1, R, h'⟩ := h'
  refine ⟨W, s1, R, Post.bind h' fun p s1 x W1 H1 _ st R1 rx q => ?_⟩
  cases p with
  | int i => exact ⟨i, rv_int_inv (K := X.K) (W := W1) (H := H1) rx, q _ W1 H1 (Step.refl _ _) R1 rfl⟩
  | _ => exact q.elim
def cutG (p : PV) (lo hi : Option Int) : Option (PV × Bool) := match p with
  | .lst ps => some (.lst (cutP ps lo hi), true)
  | .scr ps => some (.lst (cutP ps lo hi), true)
  | .tup c ps => some (.tup c (cutP ps lo hi), false)
  | .str z => if lineOk z.length then some (.str (cutS z lo hi), false) else none
  | _ => none
theorem sl_all : SlR X (fun x lo hi H Q => rSlL X.K x lo hi H Q ∨ (rSlA X.K x lo hi H Q ∨ rSlS x lo hi H Q)) := SlR.or sl_list (SlR.or sl_tupA sl_str)
theorem cutG_ok {W : Wd} {H : Hp} {K : PySem.W.Frag} {s : DS} {σ : L2.St} {p : PV} {x : V} {lo hi : Option Int} {res : PV × Bool} {Q : VK} (R : RSt K W H s σ) (rx : BV K W H p x) (e : cutG p lo hi = some res) (po : Post rO K Z σ W H (.ok res s) Q) :
    rSlL K x lo hi H Q ∨ (rSlA K x lo hi H Q ∨ rSlS x lo hi H Q) := by
  cases p with
  | lst ps =>
    simp only [cutG, Option.some.injEq] at e
    subst e
    obtain ⟨a, vs, rfl, h1, h2⟩ := bv_lst rx
    exact .inl ⟨a, vs, rfl, SqL.of h1, fun l hl => Post.newO R hl po ⟨_, upd_same, (Step.allocO hl (R.nP hl)).rvs (cut_rep h2)⟩⟩
  | scr ps =>
    simp only [cutG, Option.some.injEq] at e
    subst e
    obtain ⟨a, vs, rfl, h1, h2⟩ := bv_scr rx
    exact .inl ⟨a, vs, rfl, h1, fun l hl => Post.newO R hl po ⟨_, upd_same, (Step.allocO hl (R.nP hl)).rvs (cut_rep h2)⟩⟩
  | tup c ps =>
    simp only [cutG, Option.some.injEq] at e
    subst e
    obtain ⟨a, vs, rfl, h1, h2⟩ := bv_tup rx
    refine .inr (.inl ⟨a, vs, rfl, h1, fun hw => ?_, fun _ l hl => Post.newP R hl (Post.toP po) fun W1 st hL => new_tup hl hL (st.rvs (cut_rep h2))⟩)
    have hc : cutP ps lo hi = ps := by
      unfold cutP
      rw [← h2.len]
      rw [hw.1, hw.2, List.drop_zero, Nat.sub_zero, h2.len]
      exact List.take_length
    rw [hc] at po
    refine po _ W H (Step.refl _ _) R ?_
    rcases rx with rx | ⟨b, e, c⟩
    · exact rx
    · exact c.elim
  | str z =>
    simp only [cutG] at e
    by_cases hz : lineOk z.length = true
    · rw [if_pos hz] at e
      cases e
      exact .inr (.inr ⟨z, bv_str rx, of_decide_eq_true hz, po _ W H (Step.refl _ _) R (show RV K W H (.str (cutS z lo hi)) (.str (cutS z lo hi)) from rv_str)⟩)
    · rw [if_neg hz] at e
      cases e
  | _ => simp [cutG] at e
def cutO (f : EM) (l u : QM) : OM := fun s => (f s).bind fun p s1 => (l s1).bind fun lo s2 => (u s2).bind fun hi s3 => match cutG p lo hi with
  | some r => .ok r s3
  | none => .bad
def cutN (i : Nat) (l u : QM) : OM := fun s => (nameB i s).bind fun _ _ => (l s).bind fun lo s2 => (u s2).bind fun hi s3 => (nameB i s3).bind fun p s4 => match cutG p lo hi with
  | some r => .ok r s4
  | none => .bad
variable {lo hi : Option Expr} {l u : QM}
theorem po_cut (ha : PX X Z a f) (hl : PQ X Z lo l) (hu : PQ X Z hi u) : PO X Z (.Subscript a (.Slice lo hi none p2) pos) (cutO f l u) := by
  refine ⟨PE_imp (L2.pe_slice sl_all ha.pe hl.po hu.po) fun σ H Q ⟨W, s, R, h⟩ => ⟨W, s, R, Post.bind h fun p s1 x W1 H1 _ st R1 rx q => ⟨W1, s1, R1, Post.bind q fun lo s2 lo' W2 H2 _ st2 R2 e1 q => ⟨W2, s2, R2, Post.bind q fun hi s3 hi' W3 H3 _ st3 R3 e2 k => ?_⟩⟩⟩⟩
  obtain rfl : lo' = lo := e1
  obtain rfl : hi' = hi := e2
  cases e : cutG p lo' hi' with
  | none => simp only [e] at k; exact k.elim
  | some r => simp only [e] at k; exact cutG_ok R3 (.inl ((st2.trans st3).rv rx)) e k
theorem po_cutN (i : Nat) (hN : X.N[i]? = some x := by rfl) (hl : PQ X Z lo l) (hu : PQ X Z hi u) (hv : Vis X.env.scope x := by first | exact Or.inl rfl | exact Or.inr (Or.inl rfl) | exact Or.inr (Or.inr rfl))
    (hd : (x == ("__debug__" : Str)) = false := by decide) (hcd : (x == ("__classdict__" : Str)) = false := by decide) : PO X Z (.Subscript (.Name x p1) (.Slice lo hi none p2) pos) (cutN i l u) := by
  refine ⟨PE_imp (L2.pe_slice sl_all (pe_var hN hv hd hcd) hl.po hu.po) fun σ H Q ⟨W, s, R, h⟩ => ?_⟩
  unfold cutN at h
  cases e0 : nameB i s with
  | bad => rw [e0] at h; exact h.elim
  | exc x s1 => exact (nameB_no e0).elim
  | ok p0 s0 =>
    rw [e0] at h
    obtain ⟨rfl, v, h1, _⟩ := nameB_bv R e0
    refine ⟨v, h1, W, s0, R, Post.bind h fun lo s2 lo' W2 H2 _ st2 R2 e1 q => ⟨W2, s2, R2, Post.bind q fun hi s3 hi' W3 H3 _ st3 R3 e2 k => ?_⟩⟩
    obtain rfl : lo' = lo := e1
    obtain rfl : hi' = hi := e2
    cases e : nameB i s3 with
    | bad => rw [e] at k; exact k.elim
    | exc x s1 => exact (nameB_no e).elim
    | ok p s4 =>
      rw [e] at k
      obtain ⟨rfl, v', g1, g2⟩ := nameB_bv R3 e
      rw [h1] at g1
      cases g1
      simp only [Re.bind] at k
      cases e3 : cutG p lo' hi' with
      | none => simp only [e3] at k; exact k.elim
      | some r => simp only [e3] at k; exact cutG_ok R3 g2 e3 k
/-- x[::-1] of a list -/
def revG : O1 := fun p => match p with
  | .lst ps => some (.lst ps.reverse, true)
  | _ => none
theorem po_revL {k : Nat} {q1 q2 q3 : Pos} (ha : PB X Z a f) : PO X Z (.Subscript a (.Slice none none (some (.UnaryOp .USub (.Constant (.int 1) k q1) q2)) q3) pos) (un1O revG f) := by
  refine ⟨PE_imp (L2.pe_revL ha.pe) fun σ H Q ⟨W, s, R, h⟩ => ⟨W, s, R, Post.bind h fun p s1 x W1 H1 _ st R1 rx po => ?_⟩⟩
  cases p with
  | lst ps =>
    simp only [revG] at po
    obtain ⟨a, vs, rfl, h1, h2⟩ := bv_lst rx
    exact ⟨a, vs, rfl, SqL.of h1, fun l hl => Post.newO R1 hl po ⟨_, upd_same, (Step.allocO hl (R1.nP hl)).rvs h2.rev⟩⟩
  | _ => simp only [revG] at po; exact po.elim
/-! ### an object that a name holds is changed -/
def modB (i : Nat) (u : PV → Option (PV × PV)) (s : DS) : Re PV := match s.e[i]? with
  | some (.own p) => (match u p with
    | some (p', r) => .ok r ⟨s.e.set i (.own p'), s.t⟩
    | none => .bad)
  | some (.val (.cell k)) => (match s.t[k]? with
    | some p => (match u p with
      | some (p', r) => .ok r ⟨s.e, s.t.set k p'⟩
      | none => .bad)
    | none => .bad)
  | _ => .bad
theorem con_upd {K : PySem.W.Frag} {W : Wd} {H : Hp} {p : PV} {a b : Addr} {o : HO} (hL : a ∈ W.L) (hn : b ≠ a) (c : Con K W H p b) : Con K W (upd H a o) p b := by
  unfold Con at c ⊢
  cases p <;> simp only [Wd.m_upd hL, upd_ne hn] <;> exact c
theorem modB_ok {K : PySem.W.Frag} {W : Wd} {H : Hp} {s s' : DS} {σ : L2.St} {i : Nat} {u : PV → Option (PV × PV)} {r : PV} (R : RSt K W H s σ) (h : modB i u s = .ok r s') :
    ∃ p p' a, u p = some (p', r) ∧ σ[i]? = some (some (.ref a)) ∧ a ∈ W.L ∧ Con K W H p a ∧ ∀ o, Con K W (upd H a o) p' a → Step W H W (upd H a o) ∧ RSt K W (upd H a o) s' σ := by
  have step : ∀ {a : Addr} {o : HO}, a ∈ W.O ∨ a ∈ W.S → Step W H W (upd H a o) := fun {a o} ha => by
    have hL : a ∈ W.L := by
      unfold Wd.L
      rcases ha with z | z <;> simp [z]
    have nP : a ∉ W.P := ha.elim (R.t.pa a) (R.t.ps a)
    refine ⟨by rw [Wd.m_upd hL]; exact Same.refl _, fun b hb => ?_, fun _ z => .inl z, Pre.refl _, fun _ z => .inl z, rfl, fun b hb => upd_ne fun z => nP (z ▸ hb)⟩
    by_cases z : b = a
    · rw [z, upd_same] at hb
      cases hb
    · rw [upd_ne z] at hb
      exact hb
  unfold modB at h
  split at h
  · rename_i p e
    cases e1 : u p with
    | none => rw [e1] at h; cases h
    | some pr =>
      obtain ⟨p', r'⟩ := pr
      rw [e1] at h
      cases h
      obtain ⟨a, h1, h2, h3⟩ := R.e.ow i p e
      have hL : a ∈ W.L := by simp [Wd.L, h2]
      refine ⟨p, p', a, e1, h1, hL, h3, fun o hc => ⟨step (.inl h2), ?_⟩⟩
      have hm : W.m (upd H a o) = W.m H := Wd.m_upd hL
      have tr : ∀ {b}, (∃ w, H b = some w) → ∃ w, upd H a o b = some w := fun {b} ⟨w, hw⟩ => by
        by_cases z : b = a
        · rw [z]; exact ⟨_, upd_same⟩
        · rw [upd_ne z]; exact ⟨w, hw⟩
      refine ⟨⟨by simp [R.e.len], fun j q hj => ?_, fun j q hj => ?_, fun j k q q' b h1' h2' h3' h4' => ?_⟩, ⟨R.t.len, fun k q b e1 e2 => ?_, R.t.nd, R.t.ap, fun b hb => tr (R.t.pt b hb), R.t.pa, R.t.ps, fun b hb => tr (R.t.ot b hb)⟩⟩
      · rcases get_set hj with ⟨rfl, z⟩ | ⟨hj, z⟩
        · cases z
        · obtain ⟨v, g1, g2⟩ := R.e.at_ j q z
          refine ⟨v, g1, ?_⟩
          show Rep K W.S (W.m (upd H a o)) q v
          rw [hm]
          exact g2
      · rcases get_set hj with ⟨rfl, z⟩ | ⟨hj, z⟩
        · cases z
          exact ⟨a, h1, h2, hc⟩
        · obtain ⟨b, g1, g2, g3⟩ := R.e.ow j q z
          exact ⟨b, g1, g2, con_upd hL (fun y => hj (R.e.inj j i q p a z e (by rw [g1, y]) h1)) g3⟩
      · have back : ∀ {j q}, (s.e.set i (Sl.own p'))[j]? = some (Sl.own q) → ∃ q', s.e[j]? = some (Sl.own q') := fun {j q} hj => by
          rcases get_set hj with ⟨rfl, z⟩ | ⟨_, z⟩
          · exact ⟨p, e⟩
          · exact ⟨q, z⟩
        obtain ⟨x1, y1⟩ := back h1'
        obtain ⟨x2, y2⟩ := back h2'
        exact R.e.inj j k x1 x2 b y1 y2 h3' h4'
      · exact con_upd hL (fun y => R.t.ap a h2 (y ▸ List.mem_of_getElem? e2)) (R.t.at_ k q b e1 e2)
  · rename_i k e
    cases e0 : s.t[k]? with
    | none => rw [e0] at h; cases h
    | some p =>
      rw [e0] at h
      simp only at h
      cases e1 : u p with
      | none => rw [e1] at h; cases h
      | some pr =>
        obtain ⟨p', r'⟩ := pr
        rw [e1] at h
        cases h
        obtain ⟨v, h1, h2⟩ := R.e.at_ i _ e
        unfold RV Rep at h2
        obtain ⟨a, rfl, h2⟩ := h2
        have hS : a ∈ W.S := List.mem_of_getElem? h2
        have hL : a ∈ W.L := by simp [Wd.L, hS]
        have hk : k < s.t.length := (List.getElem?_eq_some_iff.mp e0).1
        refine ⟨p, p', a, e1, h1, hL, R.t.at_ k p a e0 h2, fun o hc => ⟨step (.inr hS), ?_⟩⟩
        have hm : W.m (upd H a o) = W.m H := Wd.m_upd hL
        have tr : ∀ {b}, (∃ w, H b = some w) → ∃ w, upd H a o b = some w := fun {b} ⟨w, hw⟩ => by
          by_cases z : b = a
          · rw [z]; exact ⟨_, upd_same⟩
          · rw [upd_ne z]; exact ⟨w, hw⟩
        refine ⟨⟨R.e.len, fun j q hj => ?_, fun j q hj => ?_, R.e.inj⟩, ⟨by simp [R.t.len], fun j q b g1 g2 => ?_, R.t.nd, R.t.ap, fun b hb => tr (R.t.pt b hb), R.t.pa, R.t.ps, fun b hb => tr (R.t.ot b hb)⟩⟩
        · obtain ⟨v, g1, g2⟩ := R.e.at_ j q hj
          refine ⟨v, g1, ?_⟩
          show Rep K W.S (W.m (upd H a o)) q v
          rw [hm]
          exact g2
        · obtain ⟨b, g1, g2, g3⟩ := R.e.ow j q hj
          exact ⟨b, g1, g2, con_upd hL (fun y => R.t.ap b g2 (y ▸ hS)) g3⟩
        · by_cases hjk : j = k
          · subst hjk
            rw [List.getElem?_set_self hk] at g1
            cases g1
            rw [h2] at g2
            cases g2
            exact hc
          · rw [List.getElem?_set_ne (Ne.symm hjk)] at g1
            refine con_upd hL (fun y => hjk ?_) (R.t.at_ j q b g1 g2)
            subst y
            obtain ⟨j1, j2⟩ := List.getElem?_eq_some_iff.mp g2
            obtain ⟨k1, k2⟩ := List.getElem?_eq_some_iff.mp h2
            exact (List.getElem_inj R.t.nd).mp (j2.trans k2.symm)
  · cases h
theorem modB_no {i : Nat} {u : PV → Option (PV × PV)} {s s1 : DS} {x : Exn} (h : modB i u s = .exc x s1) : False := by
  unfold modB at h
  split at h
  · rename_i p e
    cases e1 : u p <;> rw [e1] at h <;> cases h
  · rename_i k e
    cases e1 : s.t[k]? with
    | none => rw [e1] at h; cases h
    | some p =>
      rw [e1] at h
      simp only at h
      cases e2 : u p <;> rw [e2] at h <;> cases h
  · cases h
/-- x.append(e) -/
def appU (q : PV) : PV → Option (PV × PV) := fun p => match p with
  | .lst ps => if ps.length < sizeLine then some (.lst (ps ++ [q]), .non) else none
  | _ => none
def appE (i : Nat) (g : EM) : EM := fun s => (nameB i s).bind fun p _ => if (tyN p = some "list") then (g s).bind fun q s2 => modB i (appU q) s2 else .bad
theorem con_lst {K : PySem.W.Frag} {W : Wd} {H : Hp} {ps : List PV} {a : Addr} (c : Con K W H (.lst ps) a) : ∃ vs, H a = some (.lst vs) ∧ RVs K W H ps vs := c
theorem rvs_upd {K : PySem.W.Frag} {W : Wd} {H : Hp} {a : Addr} {o : HO} {ps : List PV} {vs : List V} (h : a ∈ W.L) (r : RVs K W H ps vs) : RVs K W (upd H a o) ps vs := by
  show Reps K W.S (W.m (upd H a o)) ps vs
  rw [Wd.m_upd h]
  exact r
theorem rv_upd {K : PySem.W.Frag} {W : Wd} {H : Hp} {a : Addr} {o : HO} {p : PV} {v : V} (h : a ∈ W.L) (r : RV K W H p v) : RV K W (upd H a o) p v := by
  show Rep K W.S (W.m (upd H a o)) p v
  rw [Wd.m_upd h]
  exact r
theorem px_app (i : Nat) {apos cpos : Pos} (hN : X.N[i]? = some x := by rfl) (hb : PX X Z e g) (hv : Vis X.env.scope x := by first | exact Or.inl rfl | exact Or.inr (Or.inl rfl) | exact Or.inr (Or.inr rfl))
    (hd : (x == ("__debug__" : Str)) = false := by decide) (hcd : (x == ("__classdict__" : Str)) = false := by decide)
    (hbase : attributeBase (.Name x p1) "append" X.env (eval (.Name x p1) X.env) = eval (.Name x p1) X.env := by rfl)
    (hfew : ((backTo cpos (starEach [e] X.env)).all (fun x => !x.1) && (backToKw cpos (keywordEach [] X.env)).all (fun x => x.1.isSome)
      && decide ([e].length + ([] : List Keyword).length + (if ([] : List Keyword).isEmpty then 0 else 1) < 30)) = true := by rfl)
    (hline : (apos.endLine == cpos.line) = true := by rfl) (hs : starEach [e] X.env = (false, eval e X.env) :: starEach [] X.env := by rfl) :
    PX X Z (.Call (.Attribute (.Name x p1) "append" apos) [e] [] cpos) (appE i g) := by
  refine ⟨PE_imp (L2.pe_bm PySem.F.plainAttrs_list PySem.F.slot_list_append PySem.F.type_list_append mt_append (pe_var hN hv hd hcd) (L2.pa_cons hb.pe L2.pa_nil hs) hbase hfew hline hs rfl) fun σ H Q ⟨W, s, R, h⟩ => ?_⟩
  unfold appE at h
  cases e0 : nameB i s with
  | bad => rw [e0] at h; exact h.elim
  | exc x s1 => exact (nameB_no e0).elim
  | ok p0 s0 =>
    rw [e0] at h
    simp only [Re.bind] at h
    obtain ⟨rfl, v, h1, hb0⟩ := nameB_bv R e0
    by_cases ht : tyN p0 = some "list"
    · rw [if_pos ht] at h
      obtain ⟨ps0, rfl⟩ : ∃ ps, p0 = .lst ps := by
        cases p0 <;> simp [tyN] at ht
        exact ⟨_, rfl⟩
      obtain ⟨a0, vs0, rfl, g1, g2⟩ := bv_lst hb0
      refine ⟨_, h1, .inl ⟨rfl, vs0, SqL.of g1⟩, W, s0, R, Post.bind h fun q s2 y W2 H2 _ st2 R2 ry k => ?_⟩
      cases em : modB i (appU q) s2 with
      | bad => rw [em] at k; exact k.elim
      | exc x s1 => exact (modB_no em).elim
      | ok r s3 =>
        rw [em] at k
        obtain ⟨p, p', a, u1, u2, u3, u4, u5⟩ := modB_ok R2 em
        rw [h1] at u2
        cases u2
        cases p with
        | lst ps =>
          obtain ⟨vs, c1, c2⟩ := con_lst u4
          simp only [appU] at u1
          split at u1
          · rename_i hz
            cases u1
            obtain ⟨st3, R3⟩ := u5 (.lst (vs ++ [y])) ⟨_, upd_same, rvs_upd u3 (c2.app (reps_cons ry reps_nil))⟩
            exact ⟨a0, vs, y, rfl, rfl, c1, by rw [c2.len]; exact hz, k _ W2 _ st3 R3 rE_non⟩
          · cases u1
        | _ => simp [appU] at u1
    · rw [if_neg ht] at h
      exact h.elim
/-- x[e] = v -/
def setU (j q : PV) : PV → Option (PV × PV) := fun p => match p, j with
  | .lst ps, .int j => (L2.ixN ps.length j).map fun k => (.lst (ps.set k q), .non)
  | .dK l, j => if l.length < sizeLine then (keyP j).map fun k => (.dK (putP l k q), .non) else none
  | .dT l, .tup false js => if l.length < sizeLine then (keysP js).map fun k => (.dT (putP l k q), .non) else none
  | _, _ => none
def rSetA : TSet := fun o i v H Q => rSetL o i v H Q ∨ rSetD o i v H Q
theorem set_all (hu : X.A.units + 1 < cLine) : PSet X rSetA := fun pins s σ H o i v ov iv u Q I a b c h => h.elim (set_list pins s σ H o i v ov iv u Q I a b c) (set_dict hu pins s σ H o i v ov iv u Q I a b c)
theorem con_dK {K : PySem.W.Frag} {W : Wd} {H : Hp} {l : List (Key × PV)} {a : Addr} (c : Con K W H (.dK l) a) : ∃ ws, H a = some (.dK ws) ∧ RepK K W.S (W.m H) l ws := c
theorem con_dT {K : PySem.W.Frag} {W : Wd} {H : Hp} {l : List (List Key × PV)} {a : Addr} (c : Con K W H (.dT l) a) : ∃ ws, H a = some (.dT ws) ∧ RepT K W.S (W.m H) l ws := c
theorem setU_ok {K : PySem.W.Frag} {W : Wd} {H : Hp} {s s' : DS} {σ : L2.St} {i : Nat} {j q r : PV} {jv y v : V} {Q : Hp → Prop} (R : RSt K W H s σ) (h1 : σ[i]? = some (some v)) (em : modB i (setU j q) s = .ok r s') (rj : RV K W H j jv) (rq : RV K W H q y)
    (k : ∀ H', Step W H W H' → RSt K W H' s' σ → Q H') : rSetA v jv y H Q := by
  obtain ⟨p, p', a, u1, u2, u3, u4, u5⟩ := modB_ok R em
  rw [h1] at u2
  cases u2
  unfold setU at u1
  split at u1
  · rename_i ps j
    simp only [Option.map_eq_some_iff] at u1
    obtain ⟨jn, hj, u1⟩ := u1
    cases u1
    obtain ⟨vs, c1, c2⟩ := con_lst u4
    obtain ⟨st3, R3⟩ := u5 (.lst (vs.set jn y)) ⟨_, upd_same, rvs_upd u3 (c2.set rq)⟩
    exact .inl ⟨a, vs, j, jn, rfl, rv_int_inv rj, c1, by rw [c2.len]; exact hj, k _ st3 R3⟩
  · rename_i l
    split at u1
    · rename_i hl
      simp only [Option.map_eq_some_iff] at u1
      obtain ⟨kk, hk, u1⟩ := u1
      cases u1
      obtain ⟨ws, c1, c2⟩ := con_dK u4
      obtain ⟨st3, R3⟩ := u5 (.dK (putK ws kk y)) ⟨_, upd_same, by rw [Wd.m_upd u3]; exact repK_put kk rq c2⟩
      exact .inr ⟨a, _, rfl, .inl ⟨ws, kk, c1, keyP_v hk rj, by rw [repK_len c2]; exact hl, rfl⟩, k _ st3 R3⟩
    · cases u1
  · rename_i l js
    split at u1
    · rename_i hl
      simp only [Option.map_eq_some_iff] at u1
      obtain ⟨kk, hk, u1⟩ := u1
      cases u1
      obtain ⟨ws, c1, c2⟩ := con_dT u4
      obtain ⟨st3, R3⟩ := u5 (.dT (putK ws kk y)) ⟨_, upd_same, by rw [Wd.m_upd u3]; exact repT_put kk rq c2⟩
      unfold RV Rep at rj
      obtain ⟨b, vs, eb, k1, k2⟩ := rj
      rw [if_neg (by decide)] at k1
      have hv := keysP_v hk k2
      subst hv
      exact .inr ⟨a, _, rfl, .inr ⟨ws, kk, b, c1, eb, (msk_some.mp k1).2, by rw [repT_len c2]; exact hl, rfl⟩, k _ st3 R3⟩
    · cases u1
  · cases u1
def setIxS (i : Nat) (f g : EM) : SM := fun s => (f s).bind fun q s1 => (nameB i s1).bind fun _ _ => (g s1).bind fun j s2 => (modB i (setU j q) s2).bind fun _ s3 => .ok .nx s3
theorem ps_setIx (hu : X.A.units + 1 < cLine) (i : Nat) {vpos : Pos} {v : Expr} (hN : X.N[i]? = some x := by rfl) (hf : PX X Z v f) (hb : PX X Z b g) (hv : Vis X.env.scope x := by first | exact Or.inl rfl | exact Or.inr (Or.inl rfl) | exact Or.inr (Or.inr rfl))
    (hd : (x == ("__debug__" : Str)) = false := by decide) (hcd : (x == ("__classdict__" : Str)) = false := by decide)
    (ha : ∀ v, assign (.Subscript (.Name x p1) b vpos) X.env v = (do
      let ov ← holding [v] (eval (.Name x p1) X.env)
      let iv ← holding [v, ov] (eval b X.env)
      standAt vpos
      holding [v, ov, iv] (setItem ov iv v)
      release [v, ov, iv] []) := by intro _; rfl)
    (hs : swapsWithSole [.Subscript (.Name x p1) b vpos] v pos.line X.env = pure false := by rfl) (hw : swappedStores [.Subscript (.Name x p1) b vpos] v X.env = pure none := by rfl)
    (h1 : (assignEach [.Subscript (.Name x p1) b vpos] X.env).map (·.2) = [assign (.Subscript (.Name x p1) b vpos) X.env] := by rfl) : PSX X Z (.Assign [.Subscript (.Name x p1) b vpos] v pos) (setIxS i f g) := by
  refine ⟨PS_imp (L2.ps_asg hf.pe (L2.pg_sub (pe_var hN hv hd hcd) hb.pe (set_all hu) ha) hs hw h1) fun D σ H ⟨W, s, R, h⟩ => ⟨W, s, R, PostS.bindE h fun q s1 y W1 H1 _ st R1 ry k => ?_⟩⟩
  cases e0 : nameB i s1 with
  | bad => simp only [e0] at k; exact k.elim
  | exc x s1 => exact (nameB_no e0).elim
  | ok p0 s0 =>
    rw [e0] at k
    simp only [Re.bind] at k
    obtain ⟨rfl, v, h1, hb0⟩ := nameB_bv R1 e0
    refine ⟨v, h1, W1, s0, R1, PostS.bindE k fun j s2 jv W2 H2 _ st2 R2 rj k => ?_⟩
    cases em : modB i (setU j q) s2 with
    | bad => rw [em] at k; exact k.elim
    | exc x s1 => exact (modB_no em).elim
    | ok r s3 =>
      rw [em] at k
      exact setU_ok R2 h1 em rj (st2.rv ry) fun H3 st3 R3 => k σ W2 H3 st3 R3
/-- x[e] += v, x[e] -= v over ints -/
def lixG : P2 := fun p q => match p, q with
  | .lst ps, .int i => atI ps i
  | _, _ => none
def augIxS (i : Nat) (c : P2) (g f : EM) : SM := fun s => (nameB i s).bind fun _ _ => (g s).bind fun j s1 => (nameB i s1).bind fun p _ => match lixG p j with
  | some old => (f s1).bind fun q s2 => (match c old q with
    | some r => (modB i (setU j r) s2).bind fun _ s3 => .ok .nx s3
    | none => .bad)
  | none => .bad
theorem get_all (hu : X.A.units + 1 < cLine) : PGet X (rIxL X.K) := by
  intro pins s σ H o i ov iv Q I ro ri h
  obtain ⟨p, xs, k, z, rfl, rfl, hq, he, q⟩ := h
  cases ro
  obtain ⟨t, rfl⟩ := ri
  obtain ⟨its, r, pl, hz⟩ := I.list hq
  obtain ⟨j, h1, h2, h3, h4, h5⟩ := atI_get he
  obtain ⟨w, ew, rw'⟩ := r.get h2
  have hl := r.length
  have hn := line63
  have fin : EP X pins σ Q w s := ⟨z, H, I, rw', q⟩
  by_cases h0 : 0 ≤ k
  · have hj : k.toNat = j := by
      rw [seqIndex_of h0 h5] at h1
      exact Option.some.inj h1
    exact wpAny_getItem_list pl.isList h0 (by omega) (by rw [hj]; simpa using ew) fin
  · have hj : (k + (its.toArray.size : Int)).toNat = j := by
      rw [seqIndex_neg (by omega) h4] at h1
      rw [List.size_toArray, ← hl]
      exact Option.some.inj h1
    exact wpAny_getItem_list_neg pl.isList (by omega) (by rw [List.size_toArray] <;> omega) (by omega) (by rw [hj]; simpa using ew) fin
end
end DR
/-! DR: several values at once, op=, the store grows. -/
namespace DR
open PySem PySem.Spec PyProof.Rows L2
/-! ### an owned value is kept while others are reckoned -/
def Wd.hold (W : Wd) (a : Addr) : Wd := ⟨W.O.filter fun b => decide (b ≠ a), W.S, a :: W.P⟩
def Wd.free (W' W : Wd) (a : Addr) : Wd := ⟨a :: W'.O, W'.S, W.P⟩
section
variable {K : PySem.W.Frag} {W W' : Wd} {H H' : Hp} {s s' : DS} {σ : L2.St} {a : Addr}
theorem hold_in {b : Addr} : b ∈ (W.hold a).O ↔ b ∈ W.O ∧ b ≠ a := by simp [Wd.hold]
theorem hold_m (ha : a ∈ W.O) : (W.hold a).m H = W.m H := m_of_iff fun b => by
  simp only [Wd.L, Wd.hold, List.mem_append, List.mem_cons, List.mem_filter, decide_eq_true_eq]
  by_cases hb : b = a
  · subst hb; simp [ha]
  · constructor
    · rintro (⟨h, _⟩ | h | h | h)
      · exact .inl h
      · exact .inr (.inl h)
      · exact absurd h hb
      · exact .inr (.inr h)
    · rintro (h | h | h)
      · exact .inl ⟨h, hb⟩
      · exact .inr (.inl h)
      · exact .inr (.inr (.inr h))
theorem RSt.hold (R : RSt K W H s σ) (ha : a ∈ W.O) (hn : ∀ (i : Nat) (q : PV), s.e[i]? = some (.own q) → σ[i]? ≠ some (some (.ref a))) : RSt K (W.hold a) H s σ := by
  have hm : (W.hold a).m H = W.m H := hold_m ha
  refine ⟨⟨R.e.len, fun i p h => ?_, fun i p h => ?_, R.e.inj⟩, ⟨R.t.len, fun k p b e1 e2 => con_m hm.symm rfl (R.t.at_ k p b e1 e2), R.t.nd, fun b h => R.t.ap b (hold_in.mp h).1, fun b h => ?_, fun b h z => ?_, fun b h z => ?_, fun b h => R.t.ot b (hold_in.mp h).1⟩⟩
  · obtain ⟨v, h1, h2⟩ := R.e.at_ i p h
    refine ⟨v, h1, ?_⟩
    show Rep K W.S ((W.hold a).m H) p v
    rw [hm]
    exact h2
  · obtain ⟨b, h1, h2, h3⟩ := R.e.ow i p h
    exact ⟨b, h1, hold_in.mpr ⟨h2, fun z => hn i p h (by rw [h1, z])⟩, con_m hm.symm rfl h3⟩
  · rcases List.mem_cons.mp h with z | z
    · rw [z]; exact R.t.ot a ha
    · exact R.t.pt b z
  · rcases List.mem_cons.mp z with y | y
    · exact (hold_in.mp h).2 y
    · exact R.t.pa b (hold_in.mp h).1 y
  · rcases List.mem_cons.mp z with y | y
    · exact R.t.ap a ha (y ▸ h)
    · exact R.t.ps b h y
theorem free_m (hP : W'.P = a :: W.P) : (W'.free W a).m H' = W'.m H' := m_of_iff fun b => by
  simp only [Wd.L, Wd.free, hP, List.mem_append, List.mem_cons]
  constructor
  · rintro ((h | h) | h | h) <;> simp [h]
  · rintro (h | h | h | h) <;> simp [h]
theorem Step.free (ha : a ∈ W.O) (st : Step (W.hold a) H W' H') : Step W H (W'.free W a) H' := by
  have hP : W'.P = a :: W.P := st.prv
  refine ⟨?_, st.there, fun b h => ?_, st.pre, fun b h => ?_, rfl, fun b h => st.pk b (List.mem_cons_of_mem _ h)⟩
  · rw [free_m hP, ← hold_m ha]
    exact st.same
  · rcases List.mem_cons.mp h with h | h
    · rw [h]; exact .inl ha
    · exact (st.new b h).imp (fun z => (hold_in.mp z).1) id
  · rcases st.sto b h with z | z | z
    · exact .inl z
    · exact .inr (.inl (hold_in.mp z).1)
    · exact .inr (.inr z)
theorem RSt.free (R : RSt K W H s σ) (ha : a ∈ W.O) (st : Step (W.hold a) H W' H') (R' : RSt K W' H' s' σ) : RSt K (W'.free W a) H' s' σ := by
  have hP : W'.P = a :: W.P := st.prv
  have hm : (W'.free W a).m H' = W'.m H' := free_m hP
  refine ⟨⟨R'.e.len, fun i p h => ?_, fun i p h => ?_, R'.e.inj⟩, ⟨R'.t.len, fun k p b e1 e2 => con_m hm.symm rfl (R'.t.at_ k p b e1 e2), R'.t.nd, fun b h => ?_, fun b h => R'.t.pt b (by rw [hP]; exact List.mem_cons_of_mem _ h), fun b h z => ?_, fun b h z => R'.t.ps b h (by rw [hP]; exact List.mem_cons_of_mem _ z), fun b h => ?_⟩⟩
  · obtain ⟨v, h1, h2⟩ := R'.e.at_ i p h
    refine ⟨v, h1, ?_⟩
    show Rep K W'.S ((W'.free W a).m H') p v
    rw [hm]
    exact h2
  · obtain ⟨b, h1, h2, h3⟩ := R'.e.ow i p h
    exact ⟨b, h1, List.mem_cons_of_mem _ h2, con_m hm.symm rfl h3⟩
  · rcases List.mem_cons.mp h with z | z
    · rw [z]; exact fun y => R'.t.ps a y (by rw [hP]; exact List.mem_cons_self)
    · exact R'.t.ap b z
  · rcases List.mem_cons.mp h with y | y
    · rw [y] at z; exact R.t.pa a ha z
    · exact R'.t.pa b y (by rw [hP]; exact List.mem_cons_of_mem _ z)
  · rcases List.mem_cons.mp h with y | y
    · rw [y]; exact R'.t.pt a (by rw [hP]; exact List.mem_cons_self)
    · exact R'.t.ot b y
end
/-! ### several values, some owned -/
def rOs (K : PySem.W.Frag) (σ : L2.St) (W : Wd) (H : Hp) (s : DS) : List (PV × Bool) → List V → Prop
  | [], vs => vs = []
  | p :: ps, vs => ∃ v r, vs = v :: r ∧ rO K σ W H s p v ∧ rOs K σ W H s ps r ∧ (p.2 = true → ∀ (i : Nat) (q : PV × Bool) (w : V), ps[i]? = some q → q.2 = true → r[i]? = some w → w ≠ v)
abbrev LM := DS → Re (List (PV × Bool))
def rOsT : RT (List (PV × Bool)) (List V) := fun K σ W H s ps vs => rOs K σ W H s ps vs
def nilL : LM := fun s => .ok [] s
def consL (f : OM) (g : LM) : LM := fun s => (f s).bind fun p s1 => (g s1).bind fun ps s2 => .ok (p :: ps) s2
structure PLX (X : Cx) (Z : WX) (es : List Expr) (f : LM) : Prop where
  pa : PA X es (tG rOsT X.K Z f)
section
variable {K : PySem.W.Frag} {W W' : Wd} {H H' : Hp} {s s' : DS} {σ : L2.St} {a : Addr}
theorem rOs_own : ∀ {ps : List (PV × Bool)} {vs : List V}, rOs K σ W H s ps vs → ∀ (i : Nat) (q : PV × Bool) (w : V), ps[i]? = some q → q.2 = true → vs[i]? = some w → ∃ b, w = .ref b ∧ b ∈ W.O
  | [], _, _, i, q, w, e, _, _ => by simp at e
  | p :: ps, vs, r, i, q, w, e, hq, ew => by
    unfold rOs at r
    obtain ⟨v, rr, rfl, h1, h2, h3⟩ := r
    cases i with
    | zero =>
      simp at e ew
      subst e ew
      obtain ⟨p, b⟩ := p
      subst hq
      obtain ⟨b, e, hb, _⟩ := (show Own K σ W H s p v from h1)
      exact ⟨b, e, hb⟩
    | succ i => exact rOs_own h2 i q w (by simpa using e) hq (by simpa using ew)
theorem rO_free {p : PV × Bool} {v : V} (hm : (W'.free W a).m H' = W'.m H') (r : rO K σ W' H' s' p v) : rO K σ (W'.free W a) H' s' p v := by
  obtain ⟨p, b⟩ := p
  cases b with
  | false =>
    show Rep K W'.S ((W'.free W a).m H') p v
    rw [hm]
    exact r
  | true =>
    obtain ⟨b, e1, e2, e3, e4⟩ := (show Own K σ W' H' s' p v from r)
    exact ⟨b, e1, List.mem_cons_of_mem _ e2, con_m hm.symm rfl e3, e4⟩
theorem rOs_free (hm : (W'.free W a).m H' = W'.m H') : ∀ {ps : List (PV × Bool)} {vs : List V}, rOs K σ W' H' s' ps vs → rOs K σ (W'.free W a) H' s' ps vs
  | [], _, r => r
  | p :: ps, vs, r => by
    unfold rOs at r ⊢
    obtain ⟨v, rr, e, h1, h2, h3⟩ := r
    exact ⟨v, rr, e, rO_free hm h1, rOs_free hm h2, h3⟩
theorem rO_step {p : PV × Bool} {v : V} (h : p.2 = false) (st : Step W H W' H') (r : rO K σ W H s p v) : rO K σ W' H' s' p v := by
  obtain ⟨p, b⟩ := p
  subst h
  exact st.rv (show RV K W H p v from r)
end
section
variable {X : Cx} {Z : WX} {e : Expr} {es : List Expr} {f : OM} {g : LM} {pos : Pos}
theorem pl_nil : PLX X Z [] nilL := ⟨PA_imp pa_nil fun σ H Q ⟨W, s, R, h⟩ => h [] W H (Step.refl _ _) R (show rOs X.K σ W H s [] [] from rfl)⟩
theorem pl_cons (ha : PO X Z e f) (hr : PLX X Z es g) (hs : starEach (e :: es) X.env = (false, eval e X.env) :: starEach es X.env := by rfl) : PLX X Z (e :: es) (consL f g) := by
  refine ⟨PA_imp (L2.pa_cons ha.pe hr.pa hs) fun σ H Q ⟨W, s, R, h⟩ => ?_⟩
  refine ⟨W, s, R, Post.bind h fun p s1 v W1 H1 _ st R1 rv q => ?_⟩
  obtain ⟨p, fr⟩ := p
  cases fr with
  | false =>
    have rv : RV X.K W1 H1 p v := rv
    refine ⟨W1, s1, R1, Post.bind q fun ps s2 vs W2 H2 _ st2 R2 rvs q2 => q2 _ W2 H2 (Step.refl _ _) R2 ?_⟩
    show rOs X.K σ W2 H2 s2 ((p, false) :: ps) (v :: vs)
    unfold rOs
    exact ⟨v, vs, rfl, st2.rv rv, rvs, fun z => nomatch z⟩
  | true =>
    obtain ⟨a, e1, ha, hc, hn⟩ := (show Own X.K σ W1 H1 s1 p v from rv)
    refine ⟨W1.hold a, s1, R1.hold ha hn, ?_⟩
    cases e2 : g s1 with
    | bad => rw [e2] at q; exact q.elim
    | exc x s2 =>
      rw [e2] at q
      intro d W' H' st' R' xr
      refine q d _ H' (st'.free ha) (R1.free ha st' R') ?_
      have hm : (W'.free W1 a).m H' = W'.m H' := free_m st'.prv
      unfold XR at xr ⊢
      cases hx : x.fs with
      | none => rw [hx] at xr; exact xr
      | some l =>
        rw [hx] at xr
        obtain ⟨dd, ws, h1, h2, h3⟩ := xr
        refine ⟨dd, ws, h1, ?_, ?_⟩
        · rw [hm]; exact h2
        · rw [hm]; exact h3
    | ok ps s2 =>
      rw [e2] at q
      intro vs W' H' st' R' rvs
      have hP : W'.P = a :: W1.P := st'.prv
      have hm : (W'.free W1 a).m H' = W'.m H' := free_m hP
      have rvs : rOs X.K σ W' H' s2 ps vs := rvs
      refine q (v :: vs) _ H' (st'.free ha) (R1.free ha st' R') ?_
      show rOs X.K σ (W'.free W1 a) H' s2 ((p, true) :: ps) (v :: vs)
      unfold rOs
      have inP : a ∈ W'.P := by rw [hP]; exact List.mem_cons_self
      refine ⟨v, vs, rfl, ⟨a, e1, List.mem_cons_self, hc.step (st'.free ha) (st'.pk a List.mem_cons_self), fun i q hi z => ?_⟩, rOs_free hm rvs, fun _ i q w hi hq hw z => ?_⟩
      · obtain ⟨b, g1, g2, _⟩ := R'.e.ow i q hi
        rw [g1] at z
        have zb : b = a := by injection z with z; injection z with z; injection z
        exact R'.t.pa b g2 (by rw [zb]; exact inP)
      · obtain ⟨b, g1, g2⟩ := rOs_own rvs i q w hi hq hw
        rw [z, e1] at g1
        have zb : a = b := by injection g1
        exact R'.t.pa b g2 (by rw [← zb]; exact inP)
/-- stores, one after the other -/
def putL : List Nat → List (PV × Bool) → DE → DE
  | i :: is, p :: ps, e => putL is ps (e.set i (putSl p))
  | _, _, e => e
def putV : List Nat → List V → L2.St → L2.St
  | i :: is, v :: vs, σ => putV is vs (σ.set i (some v))
  | _, _, σ => σ
theorem rO_put {K : PySem.W.Frag} {W : Wd} {H : Hp} {s : DS} {σ : L2.St} {i : Nat} {p q : PV × Bool} {v w : V} (hp : rO K σ W H s p v) (hq : rO K σ W H s q w) (hd : p.2 = true → q.2 = true → w ≠ v) : rO K (σ.set i (some v)) W H ⟨s.e.set i (putSl p), s.t⟩ q w := by
  obtain ⟨q, b⟩ := q
  cases b with
  | false => exact hq
  | true =>
    obtain ⟨a, e1, e2, e3, e4⟩ := (show Own K σ W H s q w from hq)
    refine ⟨a, e1, e2, e3, fun j r hj z => ?_⟩
    rcases get_set hj with ⟨rfl, y⟩ | ⟨hne, y⟩
    · have hj2 := (List.getElem?_eq_some_iff.mp z).1
      rw [List.length_set] at hj2
      rw [List.getElem?_set_self hj2] at z
      obtain ⟨p, c⟩ := p
      cases c with
      | false => simp [putSl] at y
      | true => exact hd rfl rfl (by injection z with z; injection z with z; rw [e1, z])
    · rw [List.getElem?_set_ne (Ne.symm hne)] at z
      exact e4 j r y z
theorem rOs_put {K : PySem.W.Frag} {W : Wd} {H : Hp} {s : DS} {σ : L2.St} {i : Nat} {p : PV × Bool} {v : V} (hp : rO K σ W H s p v) : ∀ {ps : List (PV × Bool)} {vs : List V}, rOs K σ W H s ps vs → (p.2 = true → ∀ (i : Nat) (q : PV × Bool) (w : V), ps[i]? = some q → q.2 = true → vs[i]? = some w → w ≠ v) →
    rOs K (σ.set i (some v)) W H ⟨s.e.set i (putSl p), s.t⟩ ps vs
  | [], _, r, _ => r
  | q :: ps, vs, r, hd => by
    unfold rOs at r ⊢
    obtain ⟨w, rr, e, h1, h2, h3⟩ := r
    subst e
    exact ⟨w, rr, rfl, rO_put hp h1 (fun z y => hd z 0 q w rfl y rfl), rOs_put hp h2 (fun z j q' w' a b c => hd z (j + 1) q' w' (by simpa using a) b (by simpa using c)), h3⟩
theorem RSt.puts {K : PySem.W.Frag} {W : Wd} {H : Hp} : ∀ {is : List Nat} {ps : List (PV × Bool)} {vs : List V} {s : DS} {σ : L2.St}, RSt K W H s σ → rOs K σ W H s ps vs → RSt K W H ⟨putL is ps s.e, s.t⟩ (putV is vs σ)
  | [], _, _, s, σ, R, _ => by simpa [putL, putV] using R
  | i :: is, [], vs, s, σ, R, r => by
    unfold rOs at r
    subst r
    simpa [putL, putV] using R
  | i :: is, p :: ps, vs, s, σ, R, r => by
    unfold rOs at r
    obtain ⟨v, rr, e, h1, h2, h3⟩ := r
    subst e
    have R1 := R.put (i := i) h1
    exact RSt.puts (s := ⟨s.e.set i (putSl p), s.t⟩) R1 (rOs_put h1 h2 h3)
theorem rOs_len {K : PySem.W.Frag} {W : Wd} {H : Hp} {s : DS} {σ : L2.St} : ∀ {ps : List (PV × Bool)} {vs : List V}, rOs K σ W H s ps vs → vs.length = ps.length
  | [], _, r => by unfold rOs at r; subst r; rfl
  | p :: ps, vs, r => by
    unfold rOs at r
    obtain ⟨v, rr, e, h1, h2, h3⟩ := r
    subst e
    simp [rOs_len h2]
/-- a, b = x, y; all are reckoned first -/
def parS (is : List Nat) (f : LM) : SM := fun s => (f s).bind fun ps s1 => if ps.length = is.length then .ok .nx ⟨putL is ps s1.e, s1.t⟩ else .bad
theorem ps_par2 {f : LM} {i j : Nat} {x y : Str} {a b : Expr} {px py pt : Pos} {kt k2 pt2} (hc : X.calm = true) (hN : X.N.Nodup) (ha : PLX X Z [a, b] f) (hi : X.N[i]? = some x := by rfl) (hj : X.N[j]? = some y := by rfl) (hij : i ≠ j := by decide)
    (hx : X.env.scope.names.lookup x = some .local := by rfl) (hy : X.env.scope.names.lookup y = some .local := by rfl)
    (hw : swappedStores [.Tuple [.Name x px, .Name y py] kt pt] (.Tuple [a, b] k2 pt2) X.env = pure (some [x, y]) := by rfl)
    (hs : swapsWithSole [.Tuple [.Name x px, .Name y py] kt pt] (.Tuple [a, b] k2 pt2) pos.line X.env = pure false := by rfl) :
    PSX X Z (.Assign [.Tuple [.Name x px, .Name y py] kt pt] (.Tuple [a, b] k2 pt2) pos) (parS [i, j] f) := by
  refine ⟨PS_imp (L2.ps_par hc hN hi hj hij hx hy ha.pa hw hs) fun D σ H ⟨W, s, R, h⟩ => ⟨W, s, R, PostS.bindE h fun ps s1 vs W1 H1 _ st R1 rv q => ?_⟩⟩
  have rv : rOs X.K σ W1 H1 s1 ps vs := rv
  split at q
  · rename_i hl
    have R2 := R1.puts (is := [i, j]) rv
    have hv : vs.length = 2 := by rw [rOs_len rv, hl]; rfl
    match vs, hv with
    | [v, w], _ => exact ⟨v, w, rfl, q _ W1 H1 (Step.refl _ _) R2⟩
  · exact q.elim
theorem ps_par3X {f : LM} {i j l : Nat} {x y z : Str} {a b c : Expr} {px py pz pt : Pos} {kt k2 pt2} (hc : X.calm = true) (hN : X.N.Nodup) (ha : PLX X Z [a, b, c] f) (hi : X.N[i]? = some x := by rfl) (hj : X.N[j]? = some y := by rfl) (hl : X.N[l]? = some z := by rfl) (hij : i ≠ j := by decide) (hil : i ≠ l := by decide) (hjl : j ≠ l := by decide)
    (hx : X.env.scope.names.lookup x = some .local := by rfl) (hy : X.env.scope.names.lookup y = some .local := by rfl) (hz : X.env.scope.names.lookup z = some .local := by rfl)
    (hw : swappedStores [.Tuple [.Name x px, .Name y py, .Name z pz] kt pt] (.Tuple [a, b, c] k2 pt2) X.env = pure (some [x, y, z]) := by rfl)
    (hs : swapsWithSole [.Tuple [.Name x px, .Name y py, .Name z pz] kt pt] (.Tuple [a, b, c] k2 pt2) pos.line X.env = pure false := by rfl) :
    PSX X Z (.Assign [.Tuple [.Name x px, .Name y py, .Name z pz] kt pt] (.Tuple [a, b, c] k2 pt2) pos) (parS [i, j, l] f) := by
  refine ⟨PS_imp (L2.ps_par3 hc hN hi hj hl hij hil hjl hx hy hz ha.pa hw hs) fun D σ H ⟨W, s, R, h⟩ => ⟨W, s, R, PostS.bindE h fun ps s1 vs W1 H1 _ st R1 rv q => ?_⟩⟩
  have rv : rOs X.K σ W1 H1 s1 ps vs := rv
  split at q
  · rename_i hl
    have R2 := R1.puts (is := [i, j, l]) rv
    have hv : vs.length = 3 := by rw [rOs_len rv, hl]; rfl
    match vs, hv with
    | [v, w, u], _ => exact ⟨v, w, u, rfl, q _ W1 H1 (Step.refl _ _) R2⟩
  · exact q.elim
/-! ### the store grows: a fresh list gets a cell -/
theorem RSt.cell {K : PySem.W.Frag} {W : Wd} {H : Hp} {s : DS} {σ : L2.St} {p : PV} {v : V} (R : RSt K W H s σ) (o : Own K σ W H s p v) : ∃ W1, Step W H W1 H ∧ RSt K W1 H ⟨s.e, s.t ++ [p]⟩ σ ∧ RV K W1 H (.cell s.t.length) v := by
  obtain ⟨a, e, ha, hc, hn⟩ := o
  have hS : a ∉ W.S := R.t.ap a ha
  have hm : Wd.m ⟨W.O.filter fun b => decide (b ≠ a), W.S ++ [a], W.P⟩ H = W.m H := m_of_iff fun b => by
    simp only [Wd.L, List.mem_append, List.mem_cons, List.mem_filter, decide_eq_true_eq, List.not_mem_nil, or_false]
    by_cases hb : b = a
    · subst hb; simp [ha]
    · constructor
      · rintro (⟨h, _⟩ | (h | h) | h)
        · exact .inl h
        · exact .inr (.inl h)
        · exact absurd h hb
        · exact .inr (.inr h)
      · rintro (h | h | h)
        · exact .inl ⟨h, hb⟩
        · exact .inr (.inl (.inl h))
        · exact .inr (.inr h)
  have st : Step W H ⟨W.O.filter fun b => decide (b ≠ a), W.S ++ [a], W.P⟩ H := by
    refine ⟨by rw [hm]; exact Same.refl _, fun _ h => h, fun b h => .inl (List.mem_filter.mp h).1, Pre.app _ _, fun b h => ?_, rfl, fun _ _ => rfl⟩
    rcases List.mem_append.mp h with z | z
    · exact .inl z
    · rw [List.mem_singleton.mp z]; exact .inr (.inl ha)
  refine ⟨_, st, ⟨⟨R.e.len, fun i q h => ?_, fun i q h => ?_, R.e.inj⟩, ⟨by simp [R.t.len], fun k q b e1 e2 => ?_, ?_, fun b h z => ?_, R.t.pt, fun b h => R.t.pa b (List.mem_filter.mp h).1, fun b h => ?_, fun b h => R.t.ot b (List.mem_filter.mp h).1⟩⟩, ?_⟩
  · obtain ⟨w, h1, h2⟩ := R.e.at_ i q h
    exact ⟨w, h1, st.rv h2⟩
  · obtain ⟨b, h1, h2, h3⟩ := R.e.ow i q h
    exact ⟨b, h1, List.mem_filter.mpr ⟨h2, decide_eq_true fun z => hn i q h (by rw [h1, z])⟩, h3.step st rfl⟩
  · by_cases hk : k < s.t.length
    · rw [List.getElem?_append_left hk] at e1
      rw [List.getElem?_append_left (by rw [← R.t.len]; exact hk)] at e2
      exact (R.t.at_ k q b e1 e2).step st rfl
    · have hk2 : k = s.t.length := by
        have := (List.getElem?_eq_some_iff.mp e1).1
        simp at this
        omega
      subst hk2
      rw [List.getElem?_append_right (Nat.le_refl _), Nat.sub_self] at e1
      have hz : s.t.length = W.S.length := R.t.len
      rw [hz, List.getElem?_append_right (Nat.le_refl _), Nat.sub_self] at e2
      cases e1
      cases e2
      exact hc.step st rfl
  · rw [List.nodup_append]
    refine ⟨R.t.nd, by simp, fun b hb c hc z => ?_⟩
    rw [List.mem_singleton.mp hc] at z
    exact hS (z ▸ hb)
  · obtain ⟨h1, h2⟩ := List.mem_filter.mp h
    rcases List.mem_append.mp z with y | y
    · exact R.t.ap b h1 y
    · exact of_decide_eq_true h2 (List.mem_singleton.mp y)
  · rcases List.mem_append.mp h with y | y
    · exact R.t.ps b y
    · rw [List.mem_singleton.mp y]; exact R.t.pa a ha
  · unfold RV Rep
    refine ⟨a, e, ?_⟩
    show (W.S ++ [a])[s.t.length]? = some a
    rw [R.t.len, List.getElem?_append_right (Nat.le_refl _), Nat.sub_self]
    rfl
/-- name = a fresh list that all around may change -/
def cellS (i : Nat) (g : OM) : SM := fun s => (g s).bind fun p s1 => if p.2 = true then .ok .nx ⟨s1.e.set i (.val (.cell s1.t.length)), s1.t ++ [p.1]⟩ else .bad
theorem ps_cell (i : Nat) {x : Str} {pos' : Pos} (hN : X.N.Nodup) (he : PO X Z e f) (hi : X.N[i]? = some x := by rfl) (hx : Loc X.env.scope x := by first | exact Or.inl rfl | exact Or.inr rfl) (hs : swapsWith e (some (.Name x pos')) pos.line X.env = pure false := by rfl)
    (hf : X.fn x = true ∨ X.env.scope.names.lookup x = some .local := by first | exact .inl rfl | exact .inr rfl) : PSX X Z (.Assign [.Name x pos'] e pos) (cellS i f) := by
  refine ⟨PS_imp (L2.ps_set hN hi hx he.pe hs hf) fun D σ H ⟨W, s, R, h⟩ => ⟨W, s, R, PostS.bindE h fun p s1 y W1 H1 _ st R1 ry q => ?_⟩⟩
  obtain ⟨p, b⟩ := p
  cases b with
  | false => exact q.elim
  | true =>
    obtain ⟨W2, st2, R2, rv⟩ := R1.cell (show Own X.K σ W1 H1 s1 p y from ry)
    exact q _ W2 H1 st2 (R2.setv rv)
/-! ### name op= e -/
def augS (i : Nat) (g : P2) (f : EM) : SM := fun s => match s.e[i]? with
  | some (.val p) => (f s).bind fun q s1 => match g p q with
    | some r => .ok .nx ⟨s1.e.set i (.val r), s1.t⟩
    | none => .bad
  | _ => .bad
theorem ps_augX (i : Nat) {x : Str} {op : Operator} {h : Int → Int → Int} {f : EM} {pos' : Pos} (hN : X.N.Nodup) (ho : PIp X op (ipI h)) (he : PX X Z e f) (hi : X.N[i]? = some x := by rfl) (hx : Loc X.env.scope x := by first | exact Or.inl rfl | exact Or.inr rfl)
    (hf : X.fn x = true ∨ X.env.scope.names.lookup x = some .local := by first | exact .inl rfl | exact .inr rfl) : PSX X Z (.AugAssign (.Name x pos') op e pos) (augS i (ii (fun _ _ => true) fun a b => .int (h a b)) f) := by
  refine ⟨PS_imp (L2.ps_aug hN hi hx he.pe ho hf) fun D σ H ⟨W, s, R, hh⟩ => ?_⟩
  unfold augS at hh
  split at hh
  · rename_i p ep
    obtain ⟨v, h1, h2⟩ := R.e.at_ i p ep
    refine ⟨v, h1, W, s, R, PostS.bindE hh fun q s1 y W1 H1 _ st R1 ry k => ?_⟩
    cases eg : ii (fun _ _ => true) (fun a b => .int (h a b)) p q with
    | none => simp only [eg] at k; exact k.elim
    | some r =>
      simp only [eg] at k
      obtain ⟨a, b, rfl, rfl, _, rfl⟩ := ii_some eg
      exact ⟨a, b, rv_int_inv h2, rE_int_inv ry, k _ W1 H1 (Step.refl _ _) (R1.setv rv_int)⟩
  · exact hh.elim
theorem ps_augIx (hu : X.A.units + 1 < cLine) (i : Nat) {x : Str} {op : Operator} {h : Int → Int → Int} {g' f' : EM} {p1 tpos : Pos} {b v : Expr} (ho : PIp X op (ipI h)) (hN : X.N[i]? = some x := by rfl) (hb : PX X Z b g') (hf : PX X Z v f')
    (hv : Vis X.env.scope x := by first | exact Or.inl rfl | exact Or.inr (Or.inl rfl) | exact Or.inr (Or.inr rfl)) (hd : (x == ("__debug__" : Str)) = false := by decide) (hcd : (x == ("__classdict__" : Str)) = false := by decide)
    (ha : ∀ ov iv new, augStore b ov iv new = (do holding [new, ov, iv] (setItem ov iv new); release [new, ov, iv] []; pure .next) := by intros; rfl) :
    PSX X Z (.AugAssign (.Subscript (.Name x p1) b tpos) op v pos) (augIxS i (ii (fun _ _ => true) fun a b => .int (h a b)) g' f') := by
  refine ⟨PS_imp (L2.ps_augS (pe_var hN hv hd hcd) hb.pe (get_all hu) hf.pe ho (set_all hu) ha) fun D σ H ⟨W, s, R, hh⟩ => ?_⟩
  unfold augIxS at hh
  cases e0 : nameB i s with
  | bad => rw [e0] at hh; exact hh.elim
  | exc y s1 => exact (nameB_no e0).elim
  | ok p0 s0 =>
    rw [e0] at hh
    simp only [Re.bind] at hh
    obtain ⟨rfl, vv, h1, hb0⟩ := nameB_bv R e0
    refine ⟨vv, h1, W, s0, R, PostS.bindE hh fun j s2 jv W2 H2 _ st2 R2 rj k => ?_⟩
    cases e1 : nameB i s2 with
    | bad => simp only [e1] at k; exact k.elim
    | exc y s1 => exact (nameB_no e1).elim
    | ok p s1 =>
      simp only [e1] at k
      obtain ⟨rfl, v2, h2, hb2⟩ := nameB_bv R2 e1
      rw [h1] at h2
      cases h2
      have rj : RV X.K W2 H2 j jv := rj
      cases p with
      | lst ps =>
        cases j with
        | int j =>
          simp only [lixG] at k
          cases e2 : atI ps j with
          | none => simp only [e2] at k; exact k.elim
          | some old =>
            simp only [e2] at k
            obtain ⟨a, vs, rfl, k1, k2⟩ := bv_lst hb2
            obtain ⟨w, h3, h4⟩ := atI_rep k2 e2
            refine ⟨a, vs, j, w, rfl, rv_int_inv rj, SqL.of k1, h3, W2, s1, R2, PostS.bindE k fun q s4 y W4 H4 _ st4 R4 ry k => ?_⟩
            cases e3 : ii (fun _ _ => true) (fun a b => .int (h a b)) old q with
            | none => simp only [e3] at k; exact k.elim
            | some r =>
              simp only [e3] at k
              obtain ⟨m, n, rfl, rfl, _, rfl⟩ := ii_some e3
              refine ⟨m, n, rv_int_inv h4, rE_int_inv ry, ?_⟩
              cases em : modB i (setU (.int j) (.int (h m n))) s4 with
              | bad => rw [em] at k; exact k.elim
              | exc y s5 => exact (modB_no em).elim
              | ok r s5 =>
                rw [em] at k
                exact setU_ok R4 h1 em (st4.rv rj) rv_int fun H5 st5 R5 => k σ W4 H5 st5 R5
        | _ => simp only [lixG] at k; exact k.elim
      | _ => simp only [lixG] at k; exact k.elim
end
end DR
/-! DR: comprehensions of two clauses; enumerate over tuples, zip of mixed kinds. -/
namespace DR
open PySem PySem.Spec PyProof.Rows L2
section
variable {X : Cx} {Z : WX} {it it1 : IM} {t t1 : Tg} {tt tt1 : TM} {vs vs1 : List Nat} {f : EM} {pos : Pos}
def lc2L (t : Tg) (tt : TM) (it1 : IM) (t1 : Tg) (tt1 : TM) (f : EM) (vs vs1 : List Nat) : List PV → List PV → DS → Re (List PV)
  | [], acc, s => .ok acc s
  | p :: ps, acc, s => match asgT t p (wipeE vs s.e) with
    | none => .bad
    | some e' => (tt ⟨e', s.t⟩).bind fun b s1 => if b = true then (it1 s1).bind fun qs s2 => (lcL t1 tt1 f vs1 qs acc s2).bind fun acc' s3 => lc2L t tt it1 t1 tt1 f vs vs1 ps acc' s3
      else lc2L t tt it1 t1 tt1 f vs vs1 ps acc s1
theorem lc2L_cons (p : PV) (ps acc : List PV) (s : DS) : lc2L t tt it1 t1 tt1 f vs vs1 (p :: ps) acc s = match asgT t p (wipeE vs s.e) with
    | none => .bad
    | some e' => (tt ⟨e', s.t⟩).bind fun b s1 => if b = true then (it1 s1).bind fun qs s2 => (lcL t1 tt1 f vs1 qs acc s2).bind fun acc' s3 => lc2L t tt it1 t1 tt1 f vs vs1 ps acc' s3
      else lc2L t tt it1 t1 tt1 f vs vs1 ps acc s1 := rfl
def lc2O (it : IM) (t : Tg) (tt : TM) (it1 : IM) (t1 : Tg) (tt1 : TM) (f : EM) (vs vs1 : List Nat) : OM := fun s => (it s).bind fun ps s1 => (noX (lc2L t tt it1 t1 tt1 f vs vs1 ps [] s1)).bind fun acc s2 => .ok (.lst acc, true) ⟨restE vs s1.e s2.e, s2.t⟩
theorem wipe_in (σ : L2.St) (h : ∀ i ∈ vs1, i ∈ vs) : L2.wipe (L2.wipe σ vs1) vs = L2.wipe σ vs := by
  refine List.ext_getElem? fun j => ?_
  rw [wipe_get, wipe_get, wipe_get]
  by_cases hj : j ∈ vs
  · rw [if_pos hj, if_pos hj]
    split
    · cases σ[j]? <;> rfl
    · rfl
  · rw [if_neg hj, if_neg hj, if_neg fun z => hj (h j z)]
theorem wipeE_in (e : DE) (h : ∀ i ∈ vs1, i ∈ vs) : wipeE vs (wipeE vs1 e) = wipeE vs e := by
  refine List.ext_getElem? fun j => ?_
  rw [wipeE_get, wipeE_get, wipeE_get]
  by_cases hj : j ∈ vs
  · rw [if_pos hj, if_pos hj]
    split
    · cases e[j]? <;> rfl
    · rfl
  · rw [if_neg hj, if_neg hj, if_neg fun z => hj (h j z)]
/-- how far a comprehension is: its list at D -/
structure Far (K : PySem.W.Frag) (W0 : Wd) (H0 : Hp) (D : Addr) (e : DE) (σ : L2.St) (H2 : Hp) (t : DT) (acc : List PV) (W2 : Wd) (av : List V) : Prop where
  l : LSt W0 H0 D W2 H2
  R : RSt K W2 H2 ⟨e, t⟩ σ
  A : H2 D = some (.lst av)
  r : RVs K W2 H2 acc av
theorem LSt.inP {W0 W2 : Wd} {H0 H2 : Hp} {D : Addr} (l : LSt W0 H0 D W2 H2) : D ∈ W2.P := by rw [l.P]; exact List.mem_cons_self
theorem Far.step {K : PySem.W.Frag} {W0 W2 W3 : Wd} {H0 H2 H3 : Hp} {D : Addr} {e e' : DE} {σ σ' : L2.St} {t t' : DT} {acc : List PV} {av : List V} (F : Far K W0 H0 D e σ H2 t acc W2 av) (st : Step W2 H2 W3 H3) (R : RSt K W3 H3 ⟨e', t'⟩ σ') : Far K W0 H0 D e' σ' H3 t' acc W3 av :=
  ⟨F.l.step st, R, by rw [st.pk D F.l.inP]; exact F.A, st.rvs F.r⟩
theorem Far.wipe {K : PySem.W.Frag} {W0 W2 : Wd} {H0 H2 : Hp} {D : Addr} {e : DE} {σ : L2.St} {t : DT} {acc : List PV} {av : List V} (F : Far K W0 H0 D e σ H2 t acc W2 av) (vs : List Nat) : Far K W0 H0 D (wipeE vs e) (L2.wipe σ vs) H2 t acc W2 av := ⟨F.l, F.R.wipe vs, F.A, F.r⟩
/-- one turn of the last clause -/
theorem turn_last {K : PySem.W.Frag} {W0 W2 : Wd} {H0 H2 : Hp} {D : Addr} {s2 : DS} {σ σ4 : L2.St} {acc qs : List PV} {av : List V} {e2 : DE} {W3 : Wd} {Good : Re (List PV) → Prop} (gb : ¬ Good .bad) (ge : ∀ x s, ¬ Good (.exc x s)) {Nx : Hp → Prop}
    (F : Far K W0 H0 D e2 σ4 H2 s2.t acc W2 av) (hw : L2.wipe σ4 vs1 = L2.wipe σ vs1)
    (g : Good ((tt1 ⟨e2, s2.t⟩).bind fun b s1 => if b = true then (f s1).bind fun y s2 => if acc.length < sizeLine then lcL t1 tt1 f vs1 qs (acc ++ [y]) s2 else .bad else lcL t1 tt1 f vs1 qs acc s1))
    (nx : ∀ W' s' acc' av' H', Far K W0 H0 D (wipeE vs1 s'.e) (L2.wipe σ vs1) H' s'.t acc' W' av' → Good (lcL t1 tt1 f vs1 qs acc' s') → Nx H') :
    tT K Z0 tt1 σ4 H2 fun b H6 => if b = true then tE K Z0 f σ4 H6 fun y H7 => ∃ acc, H7 D = some (.lst acc) ∧ acc.length < sizeLine ∧ Nx (upd H7 D (.lst (acc ++ [y]))) else Nx H6 := by
  refine ⟨W2, ⟨e2, s2.t⟩, F.R, ?_⟩
  cases e3 : tt1 ⟨e2, s2.t⟩ with
  | bad => rw [e3] at g; exact (gb g).elim
  | exc x s3 => rw [e3] at g; exact (ge _ _ g).elim
  | ok b s3 =>
    rw [e3] at g
    simp only [Re.bind] at g
    intro c W4 H4 st4 R5 rc
    obtain rfl : c = b := rc
    have F4 := F.step st4 R5
    cases c with
    | false =>
      rw [if_neg (by decide)] at g ⊢
      exact nx W4 s3 acc av H4 (by rw [← hw]; exact F4.wipe vs1) g
    | true =>
      rw [if_pos rfl] at g ⊢
      refine ⟨W4, s3, R5, ?_⟩
      cases e4 : f s3 with
      | bad => rw [e4] at g; exact (gb g).elim
      | exc x s4 => rw [e4] at g; exact (ge _ _ g).elim
      | ok y s4 =>
        rw [e4] at g
        simp only at g
        intro v W5 H5 st5 R6 rv5
        have F5 := F4.step st5 R6
        by_cases hz : acc.length < sizeLine
        · rw [if_pos hz] at g
          refine ⟨av, F5.A, by rw [F5.r.len]; exact hz, nx W5 s4 (acc ++ [y]) (av ++ [v]) _ ?_ g⟩
          have F6 := F5.wipe vs1
          rw [hw] at F6
          exact ⟨F6.l.poke, F6.R.poke F6.l.inP, upd_same, rvs_poke F6.l.inP (F6.r.app (reps_cons rv5 reps_nil))⟩
        · rw [if_neg hz] at g
          exact (gb g).elim
theorem tLc2_of {Q : VK} {σ : L2.St} {H : Hp} {K : PySem.W.Frag} (ht : tgIn t vs = true) (ht1 : tgIn t1 vs1 = true) (hin : ∀ i ∈ vs1, i ∈ vs) (h : tO K Z (lc2O it t tt it1 t1 tt1 f vs vs1) σ H Q) :
    tLc2 (tI K Z it) (gX K t) (tT K Z0 tt) (tI K Z0 it1) (gX K t1) (tT K Z0 tt1) (tE K Z0 f) vs vs1 σ H Q := by
  obtain ⟨W, s, R, h⟩ := h
  refine ⟨W, s, R, Post.bind h fun ps s1 J W1 H1 _ st0 R1 G q D hD => ?_⟩
  have G : Goes K J ps W1 H1 := G
  obtain ⟨W1', stN, R1', hL⟩ := R1.newL hD
  obtain ⟨nO, nS, nP⟩ := Wd.notL.mp hL
  have q := Post.step q stN
  obtain ⟨Rk, vk⟩ := R1'.keep (o := .lst []) hD nO
  have good : ∀ {P : Prop}, (lc2L t tt it1 t1 tt1 f vs vs1 ps [] s1 = .bad ∨ ∃ x s', lc2L t tt it1 t1 tt1 f vs vs1 ps [] s1 = .exc x s') → P := fun {P} z => by
    rcases z with z | ⟨x, s', z⟩ <;> (rw [z] at q; exact q.elim)
  refine ⟨fun i m H2 => m = ps.length - i ∧ i ≤ ps.length ∧ ∃ W2 s2 acc av, Far K W1' H1 D (wipeE vs s2.e) (L2.wipe σ vs) H2 s2.t acc W2 av ∧ lc2L t tt it1 t1 tt1 f vs vs1 ps [] s1 = lc2L t tt it1 t1 tt1 f vs vs1 (ps.drop i) acc s2,
    ⟨ps.length, by simp, Nat.zero_le _, W1'.keep D, s1, [], [], ⟨LSt.start hD nP, Rk.wipe vs, upd_same, reps_nil⟩, rfl⟩, ?_⟩
  rintro i m H2 ⟨rfl, hi, W2, s2, acc, av, F, eq⟩
  have vw : Vw W1 H1 W2 H2 := stN.vw.trans F.l.vw
  by_cases hlt : i < ps.length
  · refine .inr ⟨G.go W2 H2 i vw hlt, fun H2 => i + 1 ≤ ps.length ∧ ∃ W2 s2 acc av, Far K W1' H1 D (wipeE vs s2.e) (L2.wipe σ vs) H2 s2.t acc W2 av ∧ lc2L t tt it1 t1 tt1 f vs vs1 ps [] s1 = lc2L t tt it1 t1 tt1 f vs vs1 (ps.drop (i + 1)) acc s2, fun H' z => ⟨ps.length - (i + 1), by omega, rfl, z⟩, fun x H3 y => ?_⟩
    obtain ⟨W3, st3, R3, rv⟩ := G.yld W2 H2 i x H3 ps[i] ⟨wipeE vs s2.e, s2.t⟩ (L2.wipe σ vs) vw (List.getElem?_eq_getElem hlt) F.R y
    have F3 := F.step st3 R3
    have eq2 := eq
    rw [List.drop_eq_getElem_cons hlt, lc2L_cons] at eq2
    cases e1 : asgT t ps[i] (wipeE vs s2.e) with
    | none => simp only [e1] at eq2; exact good (.inl eq2)
    | some e2 =>
      simp only [e1] at eq2
      refine ⟨W3, ⟨wipeE vs s2.e, s2.t⟩, ps[i], R3, rv, e2, e1, fun σ4 hw R4 => ⟨(hw vs ht).trans (wipe_wipe σ), W3, ⟨e2, s2.t⟩, R4, ?_⟩⟩
      have hw4 : L2.wipe σ4 vs = L2.wipe σ vs := (hw vs ht).trans (wipe_wipe σ)
      have F4 : Far K W1' H1 D e2 σ4 H3 s2.t acc W3 av := F3.step (Step.refl _ _) R4
      cases e3 : tt ⟨e2, s2.t⟩ with
      | bad => rw [e3] at eq2; exact good (.inl eq2)
      | exc x s3 => rw [e3] at eq2; exact good (.inr ⟨x, s3, eq2⟩)
      | ok b s3 =>
        rw [e3] at eq2
        simp only [Re.bind] at eq2
        intro c W4 H4 st4 R5 rc
        obtain rfl : c = b := rc
        have F5 := F4.step st4 R5
        cases c with
        | false =>
          rw [if_neg (by decide)] at eq2 ⊢
          exact ⟨hlt, W4, s3, acc, av, by rw [← hw4]; exact F5.wipe vs, eq2⟩
        | true =>
          rw [if_pos rfl] at eq2 ⊢
          refine ⟨W4, s3, R5, ?_⟩
          cases e4 : it1 s3 with
          | bad => rw [e4] at eq2; exact good (.inl eq2)
          | exc x s4 => rw [e4] at eq2; exact good (.inr ⟨x, s4, eq2⟩)
          | ok qs s4 =>
            rw [e4] at eq2
            simp only at eq2
            intro J1 W5 H5 st5 R6 G1
            have G1 : Goes K J1 qs W5 H5 := G1
            have F6 := F5.step st5 R6
            refine ⟨fun j k H => k = qs.length - j ∧ j ≤ qs.length ∧ ∃ W' s' acc' av', Far K W1' H1 D (wipeE vs1 s'.e) (L2.wipe σ4 vs1) H s'.t acc' W' av' ∧ Vw W5 H5 W' H ∧ lcL t1 tt1 f vs1 qs acc s4 = lcL t1 tt1 f vs1 (qs.drop j) acc' s',
              ⟨qs.length, by simp, Nat.zero_le _, W5, s4, acc, av, F6.wipe vs1, (Step.refl _ _).vw, rfl⟩, ?_⟩
            rintro j k H6 ⟨rfl, hj, W6, s6, acc6, av6, F7, vw7, eq7⟩
            by_cases hl2 : j < qs.length
            · refine .inr ⟨G1.go W6 H6 j vw7 hl2, fun H => j + 1 ≤ qs.length ∧ ∃ W' s' acc' av', Far K W1' H1 D (wipeE vs1 s'.e) (L2.wipe σ4 vs1) H s'.t acc' W' av' ∧ Vw W5 H5 W' H ∧ lcL t1 tt1 f vs1 qs acc s4 = lcL t1 tt1 f vs1 (qs.drop (j + 1)) acc' s', fun H' z => ⟨qs.length - (j + 1), by omega, rfl, z⟩, fun x2 H7 y2 => ?_⟩
              obtain ⟨W7, st7, R7, rv7⟩ := G1.yld W6 H6 j x2 H7 qs[j] ⟨wipeE vs1 s6.e, s6.t⟩ (L2.wipe σ4 vs1) vw7 (List.getElem?_eq_getElem hl2) F7.R y2
              have F8 := F7.step st7 R7
              have eq8 := eq7
              rw [List.drop_eq_getElem_cons hl2, lcL_cons] at eq8
              cases e5 : asgT t1 qs[j] (wipeE vs1 s6.e) with
              | none => simp only [e5] at eq8; rw [eq8] at eq2; exact good (.inl eq2)
              | some e6 =>
                simp only [e5] at eq8
                refine ⟨W7, ⟨wipeE vs1 s6.e, s6.t⟩, qs[j], R7, rv7, e6, e5, fun σ9 hw9 R9 => ⟨(hw9 vs1 ht1).trans (wipe_wipe σ4), ?_⟩⟩
                have F9 : Far K W1' H1 D e6 σ9 H7 s6.t acc6 W7 av6 := F8.step (Step.refl _ _) R9
                -- the world grows on
                let Good : Re (List PV) → Prop := fun r => lcL t1 tt1 f vs1 qs acc s4 = r
                have gb : ¬ Good .bad := fun z => by
                  have z : lcL t1 tt1 f vs1 qs acc s4 = .bad := z
                  rw [z] at eq2
                  exact good (.inl eq2)
                have ge : ∀ x s, ¬ Good (.exc x s) := fun x s z => by
                  have z : lcL t1 tt1 f vs1 qs acc s4 = .exc x s := z
                  rw [z] at eq2
                  exact good (.inr ⟨x, s, eq2⟩)
                have vw9 : Vw W5 H5 W7 H7 := vw7.trans st7.vw
                refine ⟨W7, ⟨e6, s6.t⟩, F9.R, ?_⟩
                cases e8 : tt1 ⟨e6, s6.t⟩ with
                | bad => rw [e8] at eq8; exact (gb eq8).elim
                | exc x s3 => rw [e8] at eq8; exact (ge _ _ eq8).elim
                | ok b s8 =>
                  rw [e8] at eq8
                  simp only [Re.bind] at eq8
                  intro c W10 H10 st10 R10 rc
                  obtain rfl : c = b := rc
                  have F10 := F9.step st10 R10
                  have hw : L2.wipe σ9 vs1 = L2.wipe σ4 vs1 := (hw9 vs1 ht1).trans (wipe_wipe σ4)
                  cases c with
                  | false =>
                    rw [if_neg (by decide)] at eq8 ⊢
                    exact ⟨hl2, W10, s8, acc6, av6, by rw [← hw]; exact F10.wipe vs1, vw9.trans st10.vw, eq8⟩
                  | true =>
                    rw [if_pos rfl] at eq8 ⊢
                    refine ⟨W10, s8, R10, ?_⟩
                    cases e9 : f s8 with
                    | bad => rw [e9] at eq8; exact (gb eq8).elim
                    | exc x s4 => rw [e9] at eq8; exact (ge _ _ eq8).elim
                    | ok y s9 =>
                      rw [e9] at eq8
                      simp only at eq8
                      intro v W11 H11 st11 R11 rv11
                      have F11 := F10.step st11 R11
                      by_cases hz : acc6.length < sizeLine
                      · rw [if_pos hz] at eq8
                        have F12 := F11.wipe vs1
                        rw [hw] at F12
                        refine ⟨av6, F11.A, by rw [F11.r.len]; exact hz, hl2, W11, s9, acc6 ++ [y], av6 ++ [v], ⟨F12.l.poke, F12.R.poke F12.l.inP, upd_same, rvs_poke F12.l.inP (F12.r.app (reps_cons rv11 reps_nil))⟩, ?_, eq8⟩
                        have vw12 := (vw9.trans st10.vw).trans st11.vw
                        exact ⟨by rw [Wd.m_upd (by simp [Wd.L, F12.l.inP])]; exact vw12.same, vw12.pre⟩
                      · rw [if_neg hz] at eq8
                        exact (gb eq8).elim
            · have e : j = qs.length := by omega
              subst e
              rw [List.drop_length] at eq7
              refine .inl ⟨G1.stop W6 H6 vw7, hlt, W6, s6, acc6, av6, ?_, ?_⟩
              · have F8 := F7.wipe vs
                rw [wipeE_in _ hin, wipe_in _ hin, hw4] at F8
                exact F8
              · rw [eq7] at eq2
                exact eq2
  · have e : i = ps.length := by omega
    subst e
    rw [List.drop_length] at eq
    refine .inl ⟨G.stop W2 H2 vw, ?_⟩
    rw [eq] at q
    have l := F.l
    have R2 := F.R
    refine q (.ref D) ⟨D :: W2.O, W2.S, W1'.P⟩ H2 l.fin (l.fin_R ⟨_, F.A⟩ R1'.e R2) ⟨D, rfl, List.mem_cons_self, ?_, fun j p hj z => ?_⟩
    · refine ⟨av, F.A, ?_⟩
      show Reps K W2.S (Wd.m ⟨D :: W2.O, W2.S, W1'.P⟩ H2) acc av
      rw [l.fin_m]
      exact F.r
    · obtain ⟨hj, hj2⟩ := restE_own hj
      obtain ⟨a, g1, g2, _⟩ := R2.e.ow j p (by rw [wipeE_get, if_neg hj]; exact hj2)
      rw [wipe_get, if_neg hj] at g1
      rw [g1] at z
      have za : a = D := by injection z with z; injection z with z; injection z
      exact R2.t.pa a g2 (by rw [l.P, za]; exact List.mem_cons_self)
theorem po_lc2 {elt tgt iter tgt1 iter1 : Expr} {ifs ifs1 : List Expr} {scope : Scope} {own : List (Str × Nat)} (hc : X.calm = true) (hN : X.N.Nodup) (hi : PIX X Z tgt iter it) (ok : BlkOk X.N X.env.scope scope own) (hg : Blk X scope fun Y => PGX Y tgt t) (ht : Blk X scope fun Y => PTsX Y ifs tt)
    (hi1 : Blk X scope fun Y => PIX Y Z0 tgt1 iter1 it1) (hg1 : Blk X scope fun Y => PGX Y tgt1 t1) (ht1 : Blk X scope fun Y => PTsX Y ifs1 tt1) (he : Blk X scope fun Y => PX Y Z0 elt f)
    (hv : own.map (·.2) = vs := by rfl) (hin : tgIn t vs = true := by rfl) (hin1 : tgIn t1 vs1 = true := by rfl) (hsub : ∀ i ∈ vs1, i ∈ vs := by decide) (hs : ∀ x, foldedSetIterable iter X.env x = pure x := by intro _; rfl) (hs1 : ∀ env x, foldedSetIterable iter1 env x = pure x := by intro _ _; rfl) :
    PO X Z (.ListComp elt [⟨tgt, iter, ifs, 0⟩, ⟨tgt1, iter1, ifs1, 0⟩] scope pos) (lc2O it t tt it1 t1 tt1 f vs vs1) := by
  subst hv
  exact ⟨PE_imp (L2.pe_lc2 (wi := tI X.K Z it) (g := gX X.K t) (tt := tT X.K Z0 tt) (wi1 := tI X.K Z0 it1) (g1 := gX X.K t1) (tt1 := tT X.K Z0 tt1) (te := tE X.K Z0 f) hc hN hi.pi ok hsub (fun s H L cl fp => (hg s H L cl fp).pg) (fun s H L cl fp => (ht s H L cl fp).pts) (fun s H L cl fp => (hi1 s H L cl fp).pi) (fun s H L cl fp => (hg1 s H L cl fp).pg) (fun s H L cl fp => (ht1 s H L cl fp).pts) (fun s H L cl fp => (he s H L cl fp).pe) hs hs1) fun σ H Q h => tLc2_of hin hin1 hsub h⟩
theorem ps_setLc2X {i : Nat} {y : Str} {py spos : Pos} {elt tgt iter tgt1 iter1 : Expr} {ifs ifs1 : List Expr} {scope : Scope} {own : List (Str × Nat)} (hc : X.calm = true) (hN : X.N.Nodup) (hy : X.N[i]? = some y) (hyl : X.env.scope.names.lookup y = some .local)
    (hsw : swapsWith (.ListComp elt [⟨tgt, iter, ifs, 0⟩, ⟨tgt1, iter1, ifs1, 0⟩] scope pos) (some (.Name y py)) spos.line X.env = pure true) (hi : PIX X Z tgt iter it) (ok : BlkOk X.N X.env.scope scope own) (hg : Blk X scope fun Y => PGX Y tgt t) (ht : Blk X scope fun Y => PTsX Y ifs tt)
    (hi1 : Blk X scope fun Y => PIX Y Z0 tgt1 iter1 it1) (hg1 : Blk X scope fun Y => PGX Y tgt1 t1) (ht1 : Blk X scope fun Y => PTsX Y ifs1 tt1) (he : Blk X scope fun Y => PX Y Z0 elt f)
    (hv : own.map (·.2) = vs := by rfl) (hin : tgIn t vs = true := by rfl) (hin1 : tgIn t1 vs1 = true := by rfl) (hsub : ∀ i ∈ vs1, i ∈ vs := by decide) (hs : ∀ x, foldedSetIterable iter X.env x = pure x := by intro _; rfl) (hs1 : ∀ env x, foldedSetIterable iter1 env x = pure x := by intro _ _; rfl) :
    PSX X Z (.Assign [.Name y py] (.ListComp elt [⟨tgt, iter, ifs, 0⟩, ⟨tgt1, iter1, ifs1, 0⟩] scope pos) spos) (setS i (lc2O it t tt it1 t1 tt1 f vs vs1)) := by
  subst hv
  refine ⟨PS_imp (L2.ps_setLc2 (wi := tI X.K Z it) (g := gX X.K t) (tt := tT X.K Z0 tt) (wi1 := tI X.K Z0 it1) (g1 := gX X.K t1) (tt1 := tT X.K Z0 tt1) (te := tE X.K Z0 f) hc hN hy hyl hsw hi.pi ok hsub (fun s H L cl fp => (hg s H L cl fp).pg) (fun s H L cl fp => (ht s H L cl fp).pts) (fun s H L cl fp => (hi1 s H L cl fp).pi) (fun s H L cl fp => (hg1 s H L cl fp).pg) (fun s H L cl fp => (ht1 s H L cl fp).pts) (fun s H L cl fp => (he s H L cl fp).pe) hs hs1) fun D σ H ⟨W, s, R, h⟩ => ?_⟩
  exact tLc2_of hin hin1 hsub ⟨W, s, R, PostS.bindE h fun p s1 y W1 H1 _ st R1 ry q => q _ W1 H1 (Step.refl _ _) (R1.put ry)⟩
end
end DR
/-! DR: several values at once by way of a pair; built-ins of two arguments; facts of the built-in names. -/
namespace DR
open PySem PySem.Spec PyProof.Rows L2
section
variable {X : Cx} {Z : WX} {e : Expr} {es : List Expr} {f g : EM} {pos : Pos}
theorem rOs_alloc {K : PySem.W.Frag} {W : Wd} {H : Hp} {s : DS} {σ : L2.St} {p : Addr} {o : HO} (R : RSt K W H s σ) (hp : H p = none) : ∀ {ps : List (PV × Bool)} {vs : List V}, rOs K σ W H s ps vs → rOs K σ W (upd H p o) s ps vs
  | [], _, r => r
  | (q, b) :: ps, vs, r => by
    unfold rOs at r ⊢
    obtain ⟨v, rr, e, h1, h2, h3⟩ := r
    have st : Step W H W (upd H p o) := Step.alloc hp (R.nP hp)
    refine ⟨v, rr, e, ?_, rOs_alloc R hp h2, h3⟩
    cases b with
    | false => exact st.rv (show RV K W H q v from h1)
    | true =>
      obtain ⟨a, e1, e2, e3, e4⟩ := (show Own K σ W H s q v from h1)
      obtain ⟨u, hu⟩ := e3.there
      exact ⟨a, e1, e2, e3.step st (upd_ne (ne_of_none hu hp)), e4⟩
def gsO (K : PySem.W.Frag) (is : List Nat) : TGs := fun vs σ H Q => ∃ W s ps, RSt K W H s σ ∧ rOs K σ W H s ps vs ∧ ps.length = is.length ∧ ∀ σ', RSt K W H ⟨putL is ps s.e, s.t⟩ σ' → Q σ' H
structure PGsO (X : Cx) (es : List Expr) (is : List Nat) : Prop where
  pgs : PGs X es (gsO X.K is)
theorem go_nil : PGsO X [] [] := by
  refine ⟨PGs_imp L2.pgs_nil fun v σ H Q ⟨W, s, ps, R, r, hl, k⟩ => ?_⟩
  cases ps with
  | nil => exact ⟨r, k σ R⟩
  | cons a b => simp at hl
theorem go_cons (i : Nat) {x : Str} {p1 : Pos} {is : List Nat} (hN : X.N.Nodup) (h2 : PGsO X es is) (hi : X.N[i]? = some x := by rfl) (hx : Loc X.env.scope x := by first | exact Or.inl rfl | exact Or.inr rfl) (hf : X.fn x = true ∨ X.env.scope.names.lookup x = some .local := by first | exact .inl rfl | exact .inr rfl)
    (hs : (assignEach (.Name x p1 :: es) X.env).map (·.2) = assign (.Name x p1) X.env :: (assignEach es X.env).map (·.2) := by rfl) : PGsO X (.Name x p1 :: es) (i :: is) := by
  refine ⟨PGs_imp (L2.pgs_cons (L2.pg_name hN hi hx hf) h2.pgs hs) fun vs σ H Q ⟨W, s, ps, R, r, hl, k⟩ => ?_⟩
  cases ps with
  | nil => simp at hl
  | cons p ps =>
    unfold rOs at r
    obtain ⟨v, rr, e, h1, h2, h3⟩ := r
    exact ⟨v, rr, e, W, ⟨s.e.set i (putSl p), s.t⟩, ps, R.put h1, rOs_put h1 h2 h3, by simpa using hl, fun σ' R' => k σ' R'⟩
theorem ps_parT {es tgs : List Expr} {f : LM} {is : List Nat} {k2 kt : Nat} {pt2 pt : Pos} (hc : X.calm = true) (ha : PLX X Z es f) (hg : PGsO X tgs is) (hl : lineOk is.length = true := by rfl)
    (hs : swapsWithSole [.Tuple tgs kt pt] (.Tuple es k2 pt2) pos.line X.env = pure false := by rfl) (hw : swappedStores [.Tuple tgs kt pt] (.Tuple es k2 pt2) X.env = pure none := by rfl)
    (h1 : (assignEach [.Tuple tgs kt pt] X.env).map (·.2) = [assign (.Tuple tgs kt pt) X.env] := by rfl) (hn : (assignEach tgs X.env).length = is.length := by rfl) (hst : (assignEach tgs X.env).findIdx? (·.1) = none := by rfl) :
    PSX X Z (.Assign [.Tuple tgs kt pt] (.Tuple es k2 pt2) pos) (parS is f) := by
  refine ⟨PS_imp (L2.ps_asg (pe_tup ha.pa) (L2.pg_tup hc hg.pgs hn hst) hs hw h1) fun D σ H ⟨W, s, R, h⟩ => ⟨W, s, R, PostS.bindE h fun ps s1 vs W1 H1 _ st R1 rv q => ?_⟩⟩
  have rv : rOs X.K σ W1 H1 s1 ps vs := rv
  split at q
  · rename_i hps
    have hv : vs.length = is.length := by rw [rOs_len rv, hps]
    refine ⟨by rw [hv]; exact of_decide_eq_true hl, fun p hp => ?_⟩
    exact ⟨p, vs, rfl, SqT.of upd_same, hv, W1, s1, ps, R1.alloc hp, rOs_alloc R1 hp rv, hps, fun σ' R' => q σ' W1 _ (Step.alloc hp (R1.nP hp)) R'⟩
  · exact q.elim
theorem pt_cmpB {a b : Expr} {op : CmpOp} {g : P2} {fa fb : EM} (hg : BinB X (compareOp op) g) (ha : PX X Z a fa) (hb : PB X Z b fb) (hm : behindInMarks op b = false := by first | exact nomark _ | rfl | with_unfolding_all rfl) : PTX X Z (.Compare a [op] [b] pos) (testE (binE g fa fb)) := by
  obtain ⟨r, o, k⟩ := hg
  refine ⟨PT_imp (L2.pt_cmpR o ha.pe hb.pe hm) fun σ H Q h => ?_⟩
  obtain ⟨W, s, R, h⟩ := h
  unfold testE binE plainE binO at h
  refine ⟨W, s, R, ?_⟩
  cases e1 : fa s with
  | bad => rw [e1] at h; exact h.elim
  | exc x s1 => rw [e1] at h; exact h
  | ok p s1 =>
    rw [e1] at h
    intro x W1 H1 st R1 rx
    refine ⟨W1, s1, R1, ?_⟩
    cases e2 : fb s1 with
    | bad => simp only [Re.bind, e2] at h; exact h.elim
    | exc x s2 => simp only [Re.bind, e2] at h; exact fun d W' H' st' R' xr => h d W' H' (st.trans st') R' xr
    | ok q s2 =>
      intro y W2 H2 st2 R2 ry
      simp only [Re.bind, e2, DR.p2] at h
      cases e : g p q with
      | none => simp only [e, Option.map_none] at h; exact h.elim
      | some res =>
        simp only [e, Option.map_some] at h
        refine k W2 H2 p q x y res _ (st2.rv rx) ry e fun v rv => ?_
        exact toB_post (Z := Z) R2 rv (Post.step (Post.step h st) st2)
/-! ### built-ins of two arguments -/
theorem px_blt2 {x : Str} {id : String} {a b : Expr} {p : Pos} {fa fb : EM} {r : List V → Hp → VK → Prop} {g : P2} (c : CallR X (.builtin id) r) (k : ∀ (W : Wd) (H : Hp) (p q : PV) (x y : V) (res : PV) (Q : VK), RV X.K W H p x → RV X.K W H q y → g p q = some res → (∀ v, RV X.K W H res v → Q v H) → r [x, y] H Q)
    (hg : Gl X x) (hm : X.mg x = none) (hv : bootBuiltins x = some (.builtin id)) (ha : PX X Z a fa) (hb : PX X Z b fb) (hn : x ≠ "__name__" := by decide) (hdb : (x == ("__debug__" : Str)) = false := by decide)
    (he : starEach [a, b] X.env = (false, eval a X.env) :: starEach [b] X.env := by rfl) (he2 : starEach [b] X.env = (false, eval b X.env) :: starEach [] X.env := by rfl) (hpl : (backTo pos (starEach [b] X.env)).any (·.1) = false := by rfl) : PX X Z (.Call (.Name x p) [a, b] [] pos) (binE g fa fb) := by
  refine px_of ⟨PE_imp (L2.pe_callB c hg hm hv (L2.pa_cons ha.pe (L2.pa_cons hb.pe L2.pa_nil he2) he) hn hdb he hpl) fun σ H Q ⟨W, s, R, h⟩ => ⟨W, s, R, Post.bind h fun p s1 x W1 H1 _ st R1 rx q => ⟨W1, s1, R1, Post.bind q fun q0 s2 y W2 H2 _ st2 R2 ry q2 => ?_⟩⟩⟩
  simp only [DR.p2] at q2
  cases e : g p q0 with
  | none => simp only [e, Option.map_none] at q2; exact q2.elim
  | some res =>
    simp only [e, Option.map_some] at q2
    exact k W2 H2 p q0 x y res Q (st2.rv rx) ry e fun v rv => q2 v W2 H2 (Step.refl _ _) R2 rv
def max2G : P2 := ii (fun _ _ => true) fun i j => .int (if j > i then j else i)
def min2G : P2 := ii (fun _ _ => true) fun i j => .int (if j < i then j else i)
theorem px_max2 {a b : Expr} {p : Pos} {fa fb : EM} (hc : X.calm = true) (hg : Gl X "max") (hm : X.mg "max" = none) (hv : bootBuiltins "max" = some (.builtin "max")) (ha : PX X Z a fa) (hb : PX X Z b fb)
    (he : starEach [a, b] X.env = (false, eval a X.env) :: starEach [b] X.env := by rfl) (he2 : starEach [b] X.env = (false, eval b X.env) :: starEach [] X.env := by rfl) (hpl : (backTo pos (starEach [b] X.env)).any (·.1) = false := by rfl) : PX X Z (.Call (.Name "max" p) [a, b] [] pos) (binE max2G fa fb) :=
  px_blt2 (call_max2 hc) (fun W H p q x y res Q rx ry e k => by
    obtain ⟨i, j, rfl, rfl, _, rfl⟩ := ii_some e
    exact ⟨i, j, by rw [rv_int_inv rx, rv_int_inv ry], k _ rv_int⟩) hg hm hv ha hb (by decide) (by decide) he he2 hpl
theorem px_min2 {a b : Expr} {p : Pos} {fa fb : EM} (hc : X.calm = true) (hg : Gl X "min") (hm : X.mg "min" = none) (hv : bootBuiltins "min" = some (.builtin "min")) (ha : PX X Z a fa) (hb : PX X Z b fb)
    (he : starEach [a, b] X.env = (false, eval a X.env) :: starEach [b] X.env := by rfl) (he2 : starEach [b] X.env = (false, eval b X.env) :: starEach [] X.env := by rfl) (hpl : (backTo pos (starEach [b] X.env)).any (·.1) = false := by rfl) : PX X Z (.Call (.Name "min" p) [a, b] [] pos) (binE min2G fa fb) :=
  px_blt2 (call_min2 hc) (fun W H p q x y res Q rx ry e k => by
    obtain ⟨i, j, rfl, rfl, _, rfl⟩ := ii_some e
    exact ⟨i, j, by rw [rv_int_inv rx, rv_int_inv ry], k _ rv_int⟩) hg hm hv ha hb (by decide) (by decide) he he2 hpl
end
theorem u65 {k : Nat} {A : Around} (r : Room k A) : A.units + 65 < cLine := by have := r.un; omega
theorem u64 {k : Nat} {A : Around} (r : Room k A) : A.units + 64 < cLine := by have := r.un; omega
theorem u1 {k : Nat} {A : Around} (r : Room k A) : A.units + 1 < cLine := by have := r.un; omega
/-! ### the built-in names -/
theorem bb_len : bootBuiltins "len" = some (.builtin "len") := by decide +kernel
theorem bb_abs : bootBuiltins "abs" = some (.builtin "abs") := by decide +kernel
theorem bb_all : bootBuiltins "all" = some (.builtin "all") := by decide +kernel
theorem bb_any : bootBuiltins "any" = some (.builtin "any") := by decide +kernel
theorem bb_sum : bootBuiltins "sum" = some (.builtin "sum") := by decide +kernel
theorem bb_max : bootBuiltins "max" = some (.builtin "max") := by decide +kernel
theorem bb_min : bootBuiltins "min" = some (.builtin "min") := by decide +kernel
theorem bb_sorted : bootBuiltins "sorted" = some (.builtin "sorted") := by decide +kernel
theorem bb_repr : bootBuiltins "repr" = some (.builtin "repr") := by decide +kernel
theorem bb_isinstance : bootBuiltins "isinstance" = some (.builtin "isinstance") := by decide +kernel
theorem bb_int : bootBuiltins "int" = some (.type "int") := by decide +kernel
theorem bb_bool : bootBuiltins "bool" = some (.type "bool") := by decide +kernel
theorem bb_tuple : bootBuiltins "tuple" = some (.type "tuple") := by decide +kernel
theorem bb_list : bootBuiltins "list" = some (.type "list") := by decide +kernel
theorem bb_dict : bootBuiltins "dict" = some (.type "dict") := by decide +kernel
theorem bb_set : bootBuiltins "set" = some (.type "set") := by decide +kernel
theorem bb_str : bootBuiltins "str" = some (.type "str") := by decide +kernel
end DR
namespace DR
open PySem
/-! ### where a comprehension stands -/
def pS (l : List Stmt) (i : Nat) : Stmt := l.getD i (.Pass ⟨0, 0, 0, 0⟩)
def pX : Expr := .Constant .none 0 ⟨0, 0, 0, 0⟩
def pVal : Stmt → Expr
  | .Assign _ e _ => e
  | .AugAssign _ _ e _ => e
  | .Expr e _ => e
  | .Return (some e) _ => e
  | _ => pX
def pTest : Stmt → Expr
  | .If c _ _ _ => c
  | .While c _ _ _ => c
  | .For _ i _ _ _ => i
  | _ => pX
def pBody : Stmt → List Stmt
  | .If _ b _ _ => b
  | .While _ b _ _ => b
  | .For _ _ b _ _ => b
  | _ => []
def pElse : Stmt → List Stmt
  | .If _ _ b _ => b
  | .While _ _ b _ => b
  | .For _ _ _ b _ => b
  | _ => []
def pFun : Expr → Expr
  | .Call f _ _ _ => f
  | .Attribute v _ _ => v
  | .IfExp t _ _ _ => t
  | _ => pX
def pArg : Expr → Nat → Expr
  | .Call _ as _ _, i => as.getD i pX
  | .Compare _ _ as _, i => as.getD i pX
  | .BoolOp _ as _, i => as.getD i pX
  | .Tuple as _ _, i => as.getD i pX
  | .List as _, i => as.getD i pX
  | _, _ => pX
def pL : Expr → Expr
  | .BinOp a _ _ _ => a
  | .Compare a _ _ _ => a
  | .UnaryOp _ a _ => a
  | .IfExp _ a _ _ => a
  | .Subscript a _ _ => a
  | .ListComp a _ _ _ => a
  | _ => pX
def pR : Expr → Expr
  | .BinOp _ _ a _ => a
  | .IfExp _ _ a _ => a
  | .Subscript _ a _ => a
  | _ => pX
def pIter : Expr → Nat → Expr
  | .ListComp _ [⟨_, a, _, _⟩] _ _, 0 => a
  | .ListComp _ [⟨_, a, _, _⟩, _] _ _, 0 => a
  | .ListComp _ [_, ⟨_, a, _, _⟩] _ _, 1 => a
  | _, _ => pX
def pIf : Expr → Nat → Nat → Expr
  | .ListComp _ [⟨_, _, as, _⟩] _ _, 0, i => as.getD i pX
  | .ListComp _ [⟨_, _, as, _⟩, _] _ _, 0, i => as.getD i pX
  | .ListComp _ [_, ⟨_, _, as, _⟩] _ _, 1, i => as.getD i pX
  | _, _, _ => pX
def pScope : Expr → Scope
  | .ListComp _ _ s _ => s
  | _ => default
/-- how many turns a loop is allowed -/
def fuel : Nat := 1000000
end DR
/-! DR: max and min of a list or a tuple of ints. -/
namespace DR
open PySem PySem.Spec PyProof.Rows L2
section
variable {X : Cx}
def rTopT (K : PySem.W.Frag) (best : Int → List Int → Int) : List V → Hp → VK → Prop := fun xs H Q => ∃ (a : Addr) (n : Int) (ns : List Int), xs = [.ref a] ∧ SqT K H a ((n :: ns).map V.int) ∧ Q (.int (best n ns)) H
theorem dpInts {K : PySem.W.Frag} {H : Hp} : ∀ ns : List Int, DpAll K H (ns.map V.int) (ns.map PyData.int)
  | [] => .nil
  | n :: ns => .cons (.int n) (dpInts ns)
theorem reads_int {h : Heap} {v : Value} {m : Int} {bs : List Addr} (r : Reads h v (.int m) bs) : ∃ t, v = .int m t := by
  cases r
  exact ⟨_, rfl⟩
theorem cr_maxT (hc : X.calm = true) (hu : X.A.units + 65 < cLine) : CallR X (.builtin "max") (rTopT X.K fun n ns => ns.foldl max n) := by
  intro pins s σ H xs us Q I r h
  obtain ⟨a, n, ns, rfl, hs, q⟩ := h
  obtain ⟨its, rv, tp, _⟩ := I.tuple hs
  rw [Vals.ref1 r]
  obtain ⟨as, rs⟩ := Dp.readsAll I ((n :: ns).map PyData.int) ((n :: ns).map V.int) its (dpInts (n :: ns)) rv
  have dep := PySem.W.depthAll_map (α := Int) (n :: ns)
  refine PySem.W.max_tuple_data (x := .int n) (xs := ns.map .int) (I.ok.hd hc) tp (by simpa using rs) (PySem.W.alikeAll_datum (α := Int) (n :: ns)) ?_ fun i v h' tk bs hi rd hk => ?_
  · have : PyData.depthAll ((n :: ns).map PyData.int) ≤ 0 := dep
    rw [List.map_cons] at this
    omega
  · rw [PySem.W.maxD_ints] at rd
    obtain ⟨t, rfl⟩ := reads_int rd
    exact ⟨.int _, H, I.kept (t' := tk) hk, ⟨t, rfl⟩, q⟩
theorem cr_minT (hc : X.calm = true) (hu : X.A.units + 65 < cLine) : CallR X (.builtin "min") (rTopT X.K fun n ns => ns.foldl min n) := by
  intro pins s σ H xs us Q I r h
  obtain ⟨a, n, ns, rfl, hs, q⟩ := h
  obtain ⟨its, rv, tp, _⟩ := I.tuple hs
  rw [Vals.ref1 r]
  obtain ⟨as, rs⟩ := Dp.readsAll I ((n :: ns).map PyData.int) ((n :: ns).map V.int) its (dpInts (n :: ns)) rv
  have dep := PySem.W.depthAll_map (α := Int) (n :: ns)
  refine PySem.W.min_tuple_data (x := .int n) (xs := ns.map .int) (I.ok.hd hc) tp (by simpa using rs) (PySem.W.alikeAll_datum (α := Int) (n :: ns)) ?_ fun i v h' tk bs hi rd hk => ?_
  · have : PyData.depthAll ((n :: ns).map PyData.int) ≤ 0 := dep
    rw [List.map_cons] at this
    omega
  · rw [PySem.W.minD_ints] at rd
    obtain ⟨t, rfl⟩ := reads_int rd
    exact ⟨.int _, H, I.kept (t' := tk) hk, ⟨t, rfl⟩, q⟩
def maxTG : G1 := fun p => match p with
  | .tup _ ps => ((intsP ps).bind maxL).map PV.int
  | _ => none
def minTG : G1 := fun p => match p with
  | .tup _ ps => ((intsP ps).bind minL).map PV.int
  | _ => none
theorem u_maxT (hc : X.calm = true) (hu : X.A.units + 65 < cLine) : Un1 X (.builtin "max") (g1 maxTG) := Un1.plain (cr_maxT hc hu) fun W H p x res Q rx e k => by
  cases p with
  | tup c ps =>
    simp only [maxTG, Option.map_eq_some_iff, Option.bind_eq_some_iff] at e
    obtain ⟨m, ⟨bs, e, hm⟩, rfl⟩ := e
    obtain ⟨a, vs, rfl, h1, h2⟩ := bv_tup rx
    have hv := ints_vs e h2
    subst hv
    cases bs with
    | nil => cases hm
    | cons n ns =>
      cases hm
      exact ⟨a, n, ns, rfl, h1, k _ rv_int⟩
  | _ => simp [maxTG] at e
theorem u_minT (hc : X.calm = true) (hu : X.A.units + 65 < cLine) : Un1 X (.builtin "min") (g1 minTG) := Un1.plain (cr_minT hc hu) fun W H p x res Q rx e k => by
  cases p with
  | tup c ps =>
    simp only [minTG, Option.map_eq_some_iff, Option.bind_eq_some_iff] at e
    obtain ⟨m, ⟨bs, e, hm⟩, rfl⟩ := e
    obtain ⟨a, vs, rfl, h1, h2⟩ := bv_tup rx
    have hv := ints_vs e h2
    subst hv
    cases bs with
    | nil => cases hm
    | cons n ns =>
      cases hm
      exact ⟨a, n, ns, rfl, h1, k _ rv_int⟩
  | _ => simp [minTG] at e
/-- two rules with plain answers -/
theorem Un1.or1 {f : Value} {g g' : G1} (h : Un1 X f (g1 g)) (h' : Un1 X f (g1 g')) : Un1 X f (g1 fun p => (g p).or (g' p)) := by
  have := h.or h'
  have e : (fun p => (g1 g p).or (g1 g' p)) = g1 fun p => (g p).or (g' p) := by
    funext p
    simp only [g1]
    cases g p <;> rfl
  rw [← e]
  exact this
def maxA : G1 := fun p => (maxG p).or (maxTG p)
def minA : G1 := fun p => (minG p).or (minTG p)
theorem u_maxA (hc : X.calm = true) (hu : X.A.units + 65 < cLine) : Un1 X (.builtin "max") (g1 maxA) := (u_max hc).or1 (u_maxT hc hu)
theorem u_minA (hc : X.calm = true) (hu : X.A.units + 65 < cLine) : Un1 X (.builtin "min") (g1 minA) := (u_min hc).or1 (u_minT hc hu)
def lenA : G1 := fun p => (lenG p).or (lenQ p)
theorem u_lenA : Un1 X (.builtin "len") (g1 lenA) := u_len.or1 u_lenQ
end
end DR
/-! DR: a law's end. -/
namespace DR
open PySem PySem.Spec PyProof.Rows L2
theorem walkW {l : PySem.W.OpenLaw} {n k : Nat} {q : Program} {loose : List Str} {XP : (Str → Option Value) → Heap → Prop} {YP : World → Heap → Prop} {d : DefRec} {CX : World → CXT} {x : Str} (most : l.most = some n) (small : n ≤ sizeLine) (nodf : d.params.defaults = []) (room : Room k callerA)
    (out : ∀ (w : World) (H : Hp) (s : Shared) (e : Value) (s' : Shared), CX w [] H s (fun _ _ _ => False) e s' → False)
    (F : ∀ (w : World) (mg : Str → Option Value) (g : Addr) (h : Heap), YP w h → h.Ns mainGlobals mg → mg d.name = some (.ref g) → ∃ (K : PySem.W.Frag) (fd : FuncData) (sp : Sp), K.In h ∧ (∀ (s : Shared) (u : Value), BindsTo s fd ⟨[u], []⟩ [(x, u)]) ∧
      (∀ (H : Hp) (a : Addr) (ns : List Int), ns.length ≤ n → Only H → SqL K H a (ns.map V.int) → sp [.ref a] H (fun v _ => v = .bl true) fun _ _ _ => False) ∧ ∀ base : Heap, K.In base → base.Ns mainGlobals mg → FnOk l.prog w K mg base (CX w) k g fd [x] sp) :
    PySem.W.WalkO q loose XP YP l.row.toRowW d [] (fun f vs => PySem.call f vs) := by
  refine Att.attach_call most nodf fun w s0 s1 mg mb g o pm cd doc a vs ns T Y h1 h2 h3 h4 h5 h6 h7 h8 => ?_
  obtain ⟨K, fd, sp, kin, binds, says, ok⟩ := F w mg g _ Y T.T.g h4
  exact law_call kin T.T.g T.T.b T.T.builtins T.T.nolimit h8 h5 h6 (Nat.le_trans h7 small) room ok binds (fun H only sq => says H a ns h7 only sq) fun H e s' => out w H s1 e s'
theorem cx_closed {P : Program} (w : World) (H : Hp) (s : Shared) (e : Value) (s' : Shared) (h : L2.CX P w [] H s (fun _ _ _ => False) e s') : False := by
  obtain ⟨_, _, _, _, _, _, _, _, _, _, _, _, z⟩ := h
  exact z
/-- a law that answers True -/
theorem promise {K : PySem.W.Frag} {f : SemF} (law : ∀ ns : List Int, ns.length ≤ 63 → ∃ t, f [.scr (ns.map .int)] [] = .ok (.bl true) false t) (H : Hp) (a : Addr) (ns : List Int) (hl : ns.length ≤ 63) (_ : Only H) (hS : SqL K H a (ns.map V.int)) :
    spF K 1 f [.ref a] H (fun v _ => v = .bl true) fun _ _ _ => False := by
  obtain ⟨t, e⟩ := law ns hl
  have hm : Wd.m ⟨[], [], []⟩ H = H := by
    funext b
    exact msk_out (by simp [Wd.L])
  have nums : ∀ l : List Int, Reps K [] H (l.map PV.int) (l.map V.int) := fun l => by
    induction l with
    | nil => exact reps_nil
    | cons i l ih => exact reps_cons (by unfold Rep; rfl) ih
  refine ⟨rfl, ⟨[], [], []⟩, [], [.scr (ns.map .int)], rfl, ⟨rfl, fun k p a h => by simp at h, List.nodup_nil, fun a h => (nomatch h), fun a h => (nomatch h), fun a h => (nomatch h), fun a h => (nomatch h), fun a h => (nomatch h)⟩, reps_cons ?_ reps_nil, ?_⟩
  · rw [hm]
    unfold Rep
    exact ⟨a, ns.map V.int, rfl, hS, nums ns⟩
  · rw [e]
    exact fun v W' H' _ _ r => rv_bl_inv (K := K) (W := W') (H := H') r
/-- facts by names -/
theorem Fd.of_ok {P : Program} {w : World} {K : PySem.W.Frag} {mg : Str → Option Value} {base : Heap} {x : Str} {k n : Nat} {sem : SemF} (h : Fd P w K mg base x k n sem) {f : Addr} (hm : mg x = some (.ref f)) :
    ∃ (fd : FuncData) (ps : List Str), FnOk P w K mg base (L2.CX P w) k f fd ps (spF K n sem) ∧ ps.length = n := by
  obtain ⟨g, fd, ps, e, ok, kp, b, hl⟩ := h.ex
  rw [hm] at e
  cases e
  exact ⟨fd, ps, ok, hl⟩
end DR
/-! DR: reckoning with the forms. -/
namespace DR
open PySem PySem.Spec PyProof.Rows L2
section
variable {α β : Type}
theorem bind_ok (a : α) (s : DS) (g : α → DS → Re β) : (Re.ok a s).bind g = g a s := (rfl)
theorem bind_bad (g : α → DS → Re β) : (Re.bad : Re α).bind g = .bad := (rfl)
theorem bind_exc (x : Exn) (s : DS) (g : α → DS → Re β) : (Re.exc x s : Re α).bind g = .exc x s := (rfl)
theorem noX_ok (a : α) (s : DS) : noX (Re.ok a s) = .ok a s := (rfl)
/-! names -/
theorem nameE_val {i : Nat} {e : DE} {t : DT} {p : PV} (h : e[i]? = some (.val p)) : nameE i ⟨e, t⟩ = .ok p ⟨e, t⟩ := by simp [nameE, h]
/-! kinds -/
theorem isi_int_int (i : Int) : isiG "int" (.int i) = some (.bl true) := (by rfl)
theorem isi_int_bool (i : Int) : isiG "bool" (.int i) = some (.bl false) := (by rfl)
theorem isi_tup_tup (c : Bool) (ps : List PV) : isiG "tuple" (.tup c ps) = some (.bl true) := (by rfl)
theorem isi_lst_lst (ps : List PV) : isiG "list" (.lst ps) = some (.bl true) := (by rfl)
theorem isi_lst_tup (ps : List PV) : isiG "tuple" (.lst ps) = some (.bl false) := (by rfl)
theorem isi_tup_lst (c : Bool) (ps : List PV) : isiG "list" (.tup c ps) = some (.bl false) := (by rfl)
end
/-! ints -/
theorem subI_ok (i j : Int) : subI (.int i) (.int j) = some (.int (i - j)) := (rfl)
theorem addI_ok (i j : Int) : addO (.int i) (.int j) = some (.int (i + j), false) := (rfl)
theorem mulI_r {i j : Int} (h : -18446744073709551616 < j ∧ j < 18446744073709551616) : mulO (.int i) (.int j) = some (.int (i * j), false) := by simp [mulO, p2, mulI, ii, h]
theorem mulI_l {i j : Int} (h : -18446744073709551616 < i ∧ i < 18446744073709551616) : mulO (.int i) (.int j) = some (.int (i * j), false) := by simp [mulO, p2, mulI, ii, h]
theorem modI_ok {i j : Int} (h : 0 < j) : modI (.int i) (.int j) = some (.int (i % j)) := by simp [modI, ii, h]
theorem fdivI_ok {i j : Int} (h : 0 < j) (h2 : j < 1073741824) : fdivI (.int i) (.int j) = some (.int (i / j)) := by simp [fdivI, ii, h, h2]
theorem ltI_ok (i j : Int) : ltI (.int i) (.int j) = some (.bl (decide (i < j))) := (rfl)
theorem leI_ok (i j : Int) : leI (.int i) (.int j) = some (.bl (decide (i ≤ j))) := (rfl)
theorem gtI_ok (i j : Int) : gtI (.int i) (.int j) = some (.bl (decide (j < i))) := (rfl)
theorem geI_ok (i j : Int) : geI (.int i) (.int j) = some (.bl (decide (j ≤ i))) := (rfl)
theorem cmpI_ok (c : Int → Int → Bool) (i j : Int) : cmpI c (.int i) (.int j) = some (.bl (c i j)) := (rfl)
theorem max2_ok (i j : Int) : max2G (.int i) (.int j) = some (.int (max i j)) := by
  simp only [max2G, ii, if_true]
  congr 2
  split <;> omega
theorem min2_ok (i j : Int) : min2G (.int i) (.int j) = some (.int (min i j)) := by
  simp only [min2G, ii, if_true]
  congr 2
  split <;> omega
theorem abs_ok (i : Int) : absG (.int i) = some (.int (if i < 0 then -i else i)) := (rfl)
theorem eq_int (n : Bool) (i j : Int) : eqG n (.int i) (.int j) = some (.bl (n != decide (i = j))) := by
  simp [eqG, okD, toD, SeqAt.shaped, eqD, PyData.eqv, PyData.canLay0, PyData.depth]
  by_cases h : i = j <;> simp [h]
/-! several -/
section
variable {vs : List Nat} {tg : Tg} {tt : TM} {f : EM}
inductive All2 (R : PV → Option PV → Prop) : List PV → List (Option PV) → Prop
  | nil : All2 R [] []
  | cons {p o ps os} : R p o → All2 R ps os → All2 R (p :: ps) (o :: os)
theorem All2.fn {g : PV → Option PV} {R : PV → Option PV → Prop} (h : ∀ p o, R p o → o = g p) : ∀ {ps os}, All2 R ps os → os = ps.map g
  | [], _, .nil => rfl
  | p :: ps, _, .cons a b => by rw [h _ _ a, All2.fn h b]; rfl
theorem All2.all {Q : PV → Prop} {R : PV → Option PV → Prop} (h : ∀ p y, R p (some y) → Q y) : ∀ {ps os}, All2 R ps os → ∀ y ∈ os.filterMap id, Q y
  | [], _, .nil, y, hy => by simp at hy
  | p :: ps, _, .cons (o := o) a b, y, hy => by
    cases o with
    | none => exact All2.all h b y (by simpa using hy)
    | some z =>
      simp only [List.filterMap_cons, id] at hy
      rcases List.mem_cons.mp hy with rfl | hy
      · exact h p y a
      · exact All2.all h b y hy
/-- a comprehension under an invariant of the state -/
theorem lcL_inv {Inv : DE → DT → Prop} {R : PV → Option PV → Prop} :
    ∀ (ps acc : List PV) (s : DS), (∀ p ∈ ps, ∀ e t, Inv e t → ∃ e1 b s2, asgT tg p e = some e1 ∧ tt ⟨e1, t⟩ = .ok b s2 ∧ ((b = true ∧ ∃ y s3, f s2 = .ok y s3 ∧ R p (some y) ∧ Inv (wipeE vs s3.e) s3.t) ∨ (b = false ∧ R p none ∧ Inv (wipeE vs s2.e) s2.t))) →
    Inv (wipeE vs s.e) s.t → acc.length + ps.length ≤ sizeLine → ∃ os s', lcL tg tt f vs ps acc s = .ok (acc ++ os.filterMap id) s' ∧ All2 R ps os ∧ Inv (wipeE vs s'.e) s'.t
  | [], acc, s, h, i, hl => ⟨[], s, by simp [lcL], .nil, i⟩
  | p :: ps, acc, s, h, i, hl => by
    obtain ⟨e1, b, s2, h1, h2, h3⟩ := h p List.mem_cons_self _ _ i
    simp only [List.length_cons] at hl
    rcases h3 with ⟨rfl, y, s3, h4, h5, h6⟩ | ⟨rfl, h5, h6⟩
    · obtain ⟨os, s', g1, g2, g3⟩ := lcL_inv ps (acc ++ [y]) s3 (fun q hq => h q (List.mem_cons_of_mem _ hq)) h6 (by simp; omega)
      refine ⟨some y :: os, s', ?_, .cons h5 g2, g3⟩
      rw [lcL_cons, h1]
      simp only [h2, bind_ok, if_true, h4]
      rw [if_pos (by omega), g1]
      simp
    · obtain ⟨os, s', g1, g2, g3⟩ := lcL_inv ps acc s2 (fun q hq => h q (List.mem_cons_of_mem _ hq)) h6 (by omega)
      refine ⟨none :: os, s', ?_, .cons h5 g2, g3⟩
      rw [lcL_cons, h1]
      simp only [h2, bind_ok]
      rw [if_neg (by decide), g1]
      simp
/-- a comprehension that changes nothing -/
theorem lcL_pure {e0 : DE} {t0 : DT} (g : PV → Option PV) (ps acc : List PV) (s : DS) (h : ∀ p ∈ ps, ∃ e1 b s2, asgT tg p e0 = some e1 ∧ tt ⟨e1, t0⟩ = .ok b s2 ∧ ((b = true ∧ ∃ y s3, f s2 = .ok y s3 ∧ g p = some y ∧ wipeE vs s3.e = e0 ∧ s3.t = t0) ∨ (b = false ∧ g p = none ∧ wipeE vs s2.e = e0 ∧ s2.t = t0)))
    (i : wipeE vs s.e = e0) (it : s.t = t0) (hl : acc.length + ps.length ≤ sizeLine) : ∃ s', lcL tg tt f vs ps acc s = .ok (acc ++ ps.filterMap g) s' ∧ wipeE vs s'.e = e0 ∧ s'.t = t0 := by
  obtain ⟨os, s', h1, h2, h3⟩ := lcL_inv (Inv := fun e t => e = e0 ∧ t = t0) (R := fun p o => o = g p) ps acc s (fun p hp e t ⟨a, b⟩ => by
    subst a b
    obtain ⟨e1, b, s2, h1, h2, h3⟩ := h p hp
    refine ⟨e1, b, s2, h1, h2, ?_⟩
    rcases h3 with ⟨a, y, s3, h4, h5, h6, h7⟩ | ⟨a, h5, h6, h7⟩
    · exact .inl ⟨a, y, s3, h4, h5.symm, h6, h7⟩
    · exact .inr ⟨a, h5.symm, h6, h7⟩) ⟨i, it⟩ hl
  have ho := h2.fn (fun _ _ z => z)
  subst ho
  refine ⟨s', ?_, h3.1, h3.2⟩
  rw [h1]
  congr 2
  induction ps with
  | nil => rfl
  | cons p ps ih => cases hg : g p <;> simp [hg]
theorem restE_eq {e0 : DE} : ∀ {e e' : DE}, wipeE vs e' = wipeE vs e → restE vs e0 e' = restE vs e0 e := fun {e e'} h => by
  refine List.ext_getElem? fun j => ?_
  have hj := congrArg (fun l => l[j]?) h
  simp only [wipeE_get] at hj
  rw [restE_get, restE_get]
  by_cases z : j ∈ vs
  · rw [if_pos z, if_pos z]
    rw [if_pos z, if_pos z] at hj
    cases h1 : e'[j]? <;> cases h2 : e[j]? <;> simp_all
  · rw [if_neg z, if_neg z]
    rw [if_neg z, if_neg z] at hj
    exact hj
/-- a list made item by item, nothing changed -/
theorem lcO_pure {it : IM} {s s1 : DS} {ps : List PV} (g : PV → Option PV) (hit : it s = .ok ps s1) (h : ∀ p ∈ ps, ∃ e1 b s2, asgT tg p (wipeE vs s1.e) = some e1 ∧ tt ⟨e1, s1.t⟩ = .ok b s2 ∧ ((b = true ∧ ∃ y s3, f s2 = .ok y s3 ∧ g p = some y ∧ wipeE vs s3.e = wipeE vs s1.e ∧ s3.t = s1.t) ∨ (b = false ∧ g p = none ∧ wipeE vs s2.e = wipeE vs s1.e ∧ s2.t = s1.t)))
    (hl : ps.length ≤ sizeLine) : lcO it tg tt f vs s = .ok (.lst (ps.filterMap g), true) ⟨restE vs s1.e s1.e, s1.t⟩ := by
  obtain ⟨s', h1, h2, h3⟩ := lcL_pure (vs := vs) (tg := tg) (tt := tt) (f := f) (e0 := wipeE vs s1.e) (t0 := s1.t) g ps [] s1 h rfl rfl (by simpa using hl)
  unfold lcO
  rw [hit, bind_ok, h1, noX_ok, bind_ok, h3, restE_eq h2]
  simp
/-- every item is made: no guard -/
theorem lcO_map {it : IM} {s s1 : DS} {ps : List PV} (g : PV → PV) (hit : it s = .ok ps s1) (h : ∀ p ∈ ps, ∃ e1 s3, asgT tg p (wipeE vs s1.e) = some e1 ∧ f ⟨e1, s1.t⟩ = .ok (g p) s3 ∧ wipeE vs s3.e = wipeE vs s1.e ∧ s3.t = s1.t)
    (hl : ps.length ≤ sizeLine) : lcO it tg yesT f vs s = .ok (.lst (ps.map g), true) ⟨restE vs s1.e s1.e, s1.t⟩ := by
  rw [lcO_pure (fun p => some (g p)) hit (fun p hp => ?_) hl]
  · congr 3
    clear h hl hit
    induction ps with
    | nil => rfl
    | cons p ps ih => simp [ih]
  · obtain ⟨e1, s3, h1, h2, h3, h4⟩ := h p hp
    exact ⟨e1, true, ⟨e1, s1.t⟩, h1, rfl, .inl ⟨rfl, _, s3, h2, rfl, h3, h4⟩⟩
/-- a loop under an invariant -/
theorem forL_inv {b : SM} {Inv : Nat → DE → DT → Prop} (ps : List PV) : ∀ (n : Nat) (s : DS), (∀ i p, ps[i]? = some p → ∀ e t, Inv i e t → ∃ e1 s', asgT tg p e = some e1 ∧ (b ⟨e1, t⟩ = .ok .nx s' ∨ b ⟨e1, t⟩ = .ok .ct s') ∧ Inv (i + 1) s'.e s'.t) →
    n ≤ ps.length → Inv n s.e s.t → ∃ s', forL tg b (ps.drop n) s = .ok .nx s' ∧ Inv ps.length s'.e s'.t := by
  intro n s h hn hi
  induction k : ps.length - n generalizing n s with
  | zero =>
    have e : n = ps.length := by omega
    subst e
    rw [List.drop_length]
    exact ⟨s, rfl, hi⟩
  | succ k ih =>
    have hlt : n < ps.length := by omega
    obtain ⟨e1, s', h1, h2, h3⟩ := h n _ (List.getElem?_eq_getElem hlt) _ _ hi
    obtain ⟨s2, g1, g2⟩ := ih (n + 1) s' hlt h3 (by omega)
    refine ⟨s2, ?_, g2⟩
    rw [List.drop_eq_getElem_cons hlt]
    unfold forL
    rw [h1]
    rcases h2 with h2 | h2 <;> (simp only [h2, bind_ok]; exact g1)
/-- a loop that may leave -/
theorem forL_ret {b : SM} {Inv : Nat → DE → DT → Prop} {Q : Re Fl → Prop} (ps : List PV) : ∀ (n : Nat) (s : DS), (∀ i p, ps[i]? = some p → ∀ e t, Inv i e t → ∃ e1, asgT tg p e = some e1 ∧ ((∃ s', (b ⟨e1, t⟩ = .ok .nx s' ∨ b ⟨e1, t⟩ = .ok .ct s') ∧ Inv (i + 1) s'.e s'.t) ∨ (∃ p fr s', b ⟨e1, t⟩ = .ok (.rt p fr) s' ∧ Q (.ok (.rt p fr) s')) ∨ ∃ s', b ⟨e1, t⟩ = .ok .bk s' ∧ Q (.ok .nx s'))) →
    (∀ e t, Inv ps.length e t → Q (.ok .nx ⟨e, t⟩)) → n ≤ ps.length → Inv n s.e s.t → Q (forL tg b (ps.drop n) s) := by
  intro n s h hq hn hi
  induction k : ps.length - n generalizing n s with
  | zero =>
    have e : n = ps.length := by omega
    subst e
    rw [List.drop_length]
    exact hq _ _ hi
  | succ k ih =>
    have hlt : n < ps.length := by omega
    obtain ⟨e1, h1, h2⟩ := h n _ (List.getElem?_eq_getElem hlt) _ _ hi
    rw [List.drop_eq_getElem_cons hlt]
    unfold forL
    rw [h1]
    rcases h2 with ⟨s', h2, h3⟩ | ⟨p, fr, s', h2, h3⟩ | ⟨s', h2, h3⟩
    · rcases h2 with h2 | h2 <;> (simp only [h2, bind_ok]; exact ih (n + 1) s' hlt h3 (by omega))
    · simp only [h2, bind_ok]; exact h3
    · simp only [h2, bind_ok]; exact h3
/-- a while loop by a measure -/
theorem while_inv {tt : TM} {b : SM} {Inv : Nat → DE → DT → Prop} {Q : Re Fl → Prop} : ∀ (m n : Nat) (s : DS), m < n → (∀ m e t, Inv m e t → ∃ c s1, tt ⟨e, t⟩ = .ok c s1 ∧ ((c = false ∧ Q (.ok .nx s1)) ∨ (c = true ∧ ((∃ s2 m', (b s1 = .ok .nx s2 ∨ b s1 = .ok .ct s2) ∧ m' < m ∧ Inv m' s2.e s2.t) ∨ (∃ p fr s2, b s1 = .ok (.rt p fr) s2 ∧ Q (.ok (.rt p fr) s2)) ∨ ∃ s2, b s1 = .ok .bk s2 ∧ Q (.ok .nx s2))))) →
    Inv m s.e s.t → Q (whileN tt b n s) := by
  intro m
  induction m using Nat.strongRecOn with
  | ind m ih =>
    intro n s hn h hi
    cases n with
    | zero => omega
    | succ n =>
      obtain ⟨c, s1, h1, h2⟩ := h m _ _ hi
      unfold whileN
      have h1 : tt s = .ok c s1 := h1
      rw [h1]
      rcases h2 with ⟨rfl, h2⟩ | ⟨rfl, h2⟩
      · simp only [bind_ok]; rw [if_neg (by decide)]; exact h2
      · simp only [bind_ok, if_true]
        rcases h2 with ⟨s2, m', h2, h3, h4⟩ | ⟨p, fr, s2, h2, h3⟩ | ⟨s2, h2, h3⟩
        · rcases h2 with h2 | h2 <;> (simp only [h2, bind_ok]; exact ih m' h3 n s2 (by omega) h h4)
        · simp only [h2, bind_ok]; exact h3
        · simp only [h2, bind_ok]; exact h3
end
end DR
namespace DR
theorem mul_modL {x y k : Int} (h : 0 < k) (h2 : k < 18446744073709551616) : mulO (.int (x % k)) (.int y) = some (.int (x % k * y), false) :=
  mulI_l ⟨by have := Int.emod_nonneg x (show k ≠ 0 by omega); omega, by have := Int.emod_lt_of_pos x h; omega⟩
theorem pow_ok {i j : Int} (h : 0 ≤ j) (h1 : j ≤ 1000000) (h2 : i.natAbs < 2 ^ 64) : powI (.int i) (.int j) = some (.int (i ^ j.toNat)) := by simp [powI, ii, h, h1, h2]
theorem atI_nat {ps : List PV} {n : Nat} {p : PV} (h : ps[n]? = some p) : L2.atI ps (n : Int) = some p := by
  have hn : n < ps.length := (List.getElem?_eq_some_iff.mp h).1
  have hp : ps[n] = p := by
    rw [List.getElem?_eq_getElem hn] at h
    exact Option.some.inj h
  unfold L2.atI L2.ixN
  simp [hn, hp]
theorem atI_of {ps : List PV} {i : Int} (h0 : 0 ≤ i) (h : i < ps.length) : L2.atI ps i = ps[i.toNat]? := by
  unfold L2.atI L2.ixN
  simp [h0, h]
theorem ixN_of {n : Nat} {i : Int} (h0 : 0 ≤ i) (h : i < n) : L2.ixN n i = some i.toNat := by
  unfold L2.ixN
  simp [h0, h]
theorem atI_int {ps : List PV} {i : Int} {p : PV} (h0 : 0 ≤ i) (h : ps[i.toNat]? = some p) : L2.atI ps i = some p := by
  have := atI_nat h
  rwa [Int.toNat_of_nonneg h0] at this
/-- the hand that a law draws from -/
def HandP (cells : List PV) (a b c d : Int) : PV := .lst [.lst cells, .int a, .int b, .int c, .int d]
def HandOk (h : PV) : Prop := ∃ (xs : List Int) (a b c d : Int), (∀ x ∈ xs, 0 ≤ x) ∧ 0 ≤ a ∧ 0 ≤ b ∧ h = HandP (xs.map .int) a b c d
end DR
/-! DR: each form at a state, in steps that a rewriter takes from the left. -/
namespace DR
open PySem L2
section
variable {α β : Type} {u v : SM} {g h : OM} {f f2 f3 : EM} {fa ga : AM} {fl gl : LM} {t1 t2 : TM} {s : DS} {i j k : Nat} {p q r : PV} {b fr : Bool} {ps qs : List PV} {e : DE} {t t' : DT} {tg : Tg} {it : IM} {G : P2} {B : B2} {U : G1} {O : O1} {sem : SemF} {n : Nat} {x y : Int}
def kSeq (v : SM) (fl : Fl) (s : DS) : Re Fl := match fl with
  | .nx => v s
  | o => .ok o s
theorem seqS_ap : seqS u v s = (u s).bind (kSeq v) := (rfl)
theorem kSeq_nx : kSeq v .nx s = v s := (rfl)
theorem kSeq_rt : kSeq v (.rt p fr) s = .ok (.rt p fr) s := (rfl)
theorem kSeq_bk : kSeq v .bk s = .ok .bk s := (rfl)
theorem kSeq_ct : kSeq v .ct s = .ok .ct s := (rfl)
def kRet (p : PV × Bool) (s : DS) : Re Fl := .ok (.rt p.1 p.2) s
theorem retS_ap : retS g s = (g s).bind kRet := (rfl)
theorem kRet_ap : kRet (p, fr) s = .ok (.rt p fr) s := (rfl)
theorem retN_ap : retN s = .ok (.rt .non false) s := (rfl)
def kNx {α : Type} (_ : α) (s : DS) : Re Fl := .ok .nx s
theorem exprS_ap : exprS f s = (f s).bind kNx := (rfl)
theorem kNx_ap {a : α} : kNx a s = .ok .nx s := (rfl)
def kIf {α : Type} (u v : DS → Re α) (b : Bool) (s : DS) : Re α := if b = true then u s else v s
theorem ifS_ap : ifS t1 u v s = (t1 s).bind (kIf u v) := (rfl)
theorem ifE_ap : ifE t1 f f2 s = (t1 s).bind (kIf f f2) := (rfl)
theorem ifO_ap : ifO t1 g h s = (t1 s).bind (kIf g h) := (rfl)
theorem kIf_t {u v : DS → Re α} : kIf u v true s = u s := (rfl)
theorem kIf_f {u v : DS → Re α} : kIf u v false s = v s := (rfl)
theorem badS_ap : badS s = .bad := (rfl)
theorem nextS_ap : nextS s = .ok .nx s := (rfl)
def kSet (i : Nat) (p : PV × Bool) (s : DS) : Re Fl := .ok .nx ⟨s.e.set i (putSl p), s.t⟩
theorem setS_ap : setS i g s = (g s).bind (kSet i) := (rfl)
theorem kSet_v : kSet i (p, false) ⟨e, t⟩ = .ok .nx ⟨e.set i (.val p), t⟩ := (rfl)
theorem kSet_o : kSet i (p, true) ⟨e, t⟩ = .ok .nx ⟨e.set i (.own p), t⟩ := (rfl)
def kCell (i : Nat) (p : PV × Bool) (s : DS) : Re Fl := if p.2 = true then .ok .nx ⟨s.e.set i (.val (.cell s.t.length)), s.t ++ [p.1]⟩ else .bad
theorem cellS_ap : cellS i g s = (g s).bind (kCell i) := (rfl)
theorem kCell_ap : kCell i (p, true) ⟨e, t⟩ = .ok .nx ⟨e.set i (.val (.cell t.length)), t ++ [p]⟩ := (rfl)
def kPar (is : List Nat) (ps : List (PV × Bool)) (s : DS) : Re Fl := if ps.length = is.length then .ok .nx ⟨putL is ps s.e, s.t⟩ else .bad
theorem parS_ap {is : List Nat} : parS is fl s = (fl s).bind (kPar is) := (rfl)
theorem kPar_2 {a b : PV × Bool} : kPar [i, j] [a, b] ⟨e, t⟩ = .ok .nx ⟨(e.set i (putSl a)).set j (putSl b), t⟩ := (rfl)
theorem kPar_3 {a b c : PV × Bool} : kPar [i, j, k] [a, b, c] ⟨e, t⟩ = .ok .nx ⟨((e.set i (putSl a)).set j (putSl b)).set k (putSl c), t⟩ := (rfl)
theorem kPar_4 {a b c d : PV × Bool} : kPar [i, j, k, n] [a, b, c, d] ⟨e, t⟩ = .ok .nx ⟨(((e.set i (putSl a)).set j (putSl b)).set k (putSl c)).set n (putSl d), t⟩ := (rfl)
theorem putSl_v : putSl (p, false) = .val p := (rfl)
theorem putSl_o : putSl (p, true) = .own p := (rfl)
def kAsg2 (o : Option DE) (t : DT) : Re Fl := match o with
  | some e => .ok .nx ⟨e, t⟩
  | none => .bad
def kAsg (tg : Tg) (p : PV) (s : DS) : Re Fl := kAsg2 (asgT tg p s.e) s.t
theorem asgS_ap : asgS tg f s = (f s).bind (kAsg tg) := (rfl)
theorem kAsg_ap : kAsg tg p ⟨e, t⟩ = kAsg2 (asgT tg p e) t := (rfl)
theorem kAsg2_ap : kAsg2 (some e) t = .ok .nx ⟨e, t⟩ := (rfl)
theorem asgT_nm : asgT (.nm i) p e = some (e.set i (.val p)) := (rfl)
theorem asgT_tp {ts : List Tg} : asgT (.tp ts) (.tup b ps) e = asgTs ts ps e := (rfl)
theorem asgTs_nil : asgTs [] [] e = some e := (rfl)
theorem asgTs_nm {ts : List Tg} : asgTs (.nm i :: ts) (p :: ps) e = asgTs ts ps (e.set i (.val p)) := (rfl)
def kAug2 (i : Nat) (o : Option PV) (s : DS) : Re Fl := match o with
  | some r => .ok .nx ⟨s.e.set i (.val r), s.t⟩
  | none => .bad
def kAug1 (i : Nat) (G : P2) (p q : PV) (s : DS) : Re Fl := kAug2 i (G p q) s
def kAug (i : Nat) (G : P2) (f : EM) (o : Option Sl) (s : DS) : Re Fl := match o with
  | some (.val p) => (f s).bind (kAug1 i G p)
  | _ => .bad
theorem augS_ap : augS i G f s = kAug i G f s.e[i]? s := by
  unfold augS kAug
  cases s.e[i]? with
  | none => rfl
  | some sl => cases sl <;> rfl
theorem kAug_ap : kAug i G f (some (.val p)) s = (f s).bind (kAug1 i G p) := (rfl)
theorem kAug1_ap : kAug1 i G p q s = kAug2 i (G p q) s := (rfl)
theorem kAug2_ap : kAug2 i (some r) ⟨e, t⟩ = .ok .nx ⟨e.set i (.val r), t⟩ := (rfl)
/-! names -/
def kNm (i : Nat) (o : Option Sl) (s : DS) : Re PV := match o with
  | some (.val p) => .ok p s
  | some (.own p) => .ok p ⟨s.e.set i (.val p), s.t⟩
  | _ => .bad
theorem nameE_ap : nameE i s = kNm i s.e[i]? s := (rfl)
theorem kNm_v : kNm i (some (.val p)) s = .ok p s := (rfl)
theorem kNm_o : kNm i (some (.own p)) ⟨e, t⟩ = .ok p ⟨e.set i (.val p), t⟩ := (rfl)
def kNd (o : Option PV) (s : DS) : Re PV := match o with
  | some p => .ok p s
  | none => .bad
def kNc (p : PV) (s : DS) : Re PV := match p with
  | .cell k => kNd s.t[k]? s
  | p => .ok p s
def kNb (o : Option Sl) (s : DS) : Re PV := match o with
  | some (.val p) => kNc p s
  | some (.own p) => .ok p s
  | _ => .bad
theorem nameB_ap : nameB i s = kNb s.e[i]? s := by
  unfold nameB kNb
  cases s.e[i]? with
  | none => rfl
  | some sl =>
    cases sl with
    | no => rfl
    | own p => rfl
    | val p => cases p <;> rfl
theorem kNb_o : kNb (some (.own p)) s = .ok p s := (rfl)
theorem kNb_v : kNb (some (.val p)) s = kNc p s := (rfl)
theorem kNc_cell : kNc (.cell k) ⟨e, t⟩ = kNd t[k]? ⟨e, t⟩ := (rfl)
theorem kNd_ap : kNd (some p) s = .ok p s := (rfl)
theorem kNc_int : kNc (.int x) s = .ok (.int x) s := (rfl)
theorem kNc_bl : kNc (.bl b) s = .ok (.bl b) s := (rfl)
theorem kNc_non : kNc .non s = .ok .non s := (rfl)
theorem kNc_str {z : Str} : kNc (.str z) s = .ok (.str z) s := (rfl)
theorem kNc_tup : kNc (.tup b ps) s = .ok (.tup b ps) s := (rfl)
theorem kNc_lst : kNc (.lst ps) s = .ok (.lst ps) s := (rfl)
theorem kNc_scr : kNc (.scr ps) s = .ok (.scr ps) s := (rfl)
theorem kNc_dK {l : List (Key × PV)} : kNc (.dK l) s = .ok (.dK l) s := (rfl)
theorem kNc_dT {l : List (List Key × PV)} : kNc (.dT l) s = .ok (.dT l) s := (rfl)
theorem kNc_ins {c : Addr} {l : List (Str × PV)} : kNc (.ins c l) s = .ok (.ins c l) s := (rfl)
/-! changes -/
def kMo (i : Nat) (o : Option (PV × PV)) (s : DS) : Re PV := match o with
  | some (p, r) => .ok r ⟨s.e.set i (.own p), s.t⟩
  | none => .bad
def kMd (k : Nat) (o : Option (PV × PV)) (s : DS) : Re PV := match o with
  | some (p, r) => .ok r ⟨s.e, s.t.set k p⟩
  | none => .bad
def kMc (k : Nat) (F : PV → Option (PV × PV)) (o : Option PV) (s : DS) : Re PV := match o with
  | some p => kMd k (F p) s
  | none => .bad
def kMod (i : Nat) (F : PV → Option (PV × PV)) (o : Option Sl) (s : DS) : Re PV := match o with
  | some (.own p) => kMo i (F p) s
  | some (.val (.cell k)) => kMc k F s.t[k]? s
  | _ => .bad
theorem modB_ap {F : PV → Option (PV × PV)} : modB i F s = kMod i F s.e[i]? s := by
  unfold modB kMod
  cases s.e[i]? with
  | none => rfl
  | some sl =>
    cases sl with
    | no => rfl
    | own p => first
      | (simp only [kMo]; done)
      | (simp only [kMo]; cases F p <;> rfl)
    | val p =>
      cases p <;> rfl
theorem kMod_o {F : PV → Option (PV × PV)} : kMod i F (some (.own p)) s = kMo i (F p) s := (rfl)
theorem kMod_c {F : PV → Option (PV × PV)} : kMod i F (some (.val (.cell k))) ⟨e, t⟩ = kMc k F t[k]? ⟨e, t⟩ := (rfl)
theorem kMc_ap {F : PV → Option (PV × PV)} : kMc k F (some p) s = kMd k (F p) s := (rfl)
theorem kMo_ap : kMo i (some (p, r)) ⟨e, t⟩ = .ok r ⟨e.set i (.own p), t⟩ := (rfl)
theorem kMd_ap : kMd k (some (p, r)) ⟨e, t⟩ = .ok r ⟨e, t.set k p⟩ := (rfl)
def kAp2 (i : Nat) (q : PV) (s : DS) : Re PV := modB i (appU q) s
def kAp (i : Nat) (f : EM) (s : DS) (p : PV) (_ : DS) : Re PV := if tyN p = some "list" then (f s).bind (kAp2 i) else .bad
theorem appE_ap : appE i f s = (nameB i s).bind (kAp i f s) := (rfl)
theorem kAp_ap {s2 : DS} : kAp i f s (.lst ps) s2 = (f s).bind (kAp2 i) := by simp [kAp, tyN]
theorem kAp2_ap : kAp2 i q s = kMod i (appU q) s.e[i]? s := modB_ap
theorem appU_ok (hl : ps.length < sizeLine) : appU q (.lst ps) = some (.lst (ps ++ [q]), .non) := by simp [appU, hl]
def kSi3 (i : Nat) (q j : PV) (s : DS) : Re Fl := (modB i (setU j q) s).bind kNx
def kSi2 (i : Nat) (f : EM) (q : PV) (s : DS) (_ : PV) (_ : DS) : Re Fl := (f s).bind (kSi3 i q)
def kSi (i : Nat) (f : EM) (q : PV) (s : DS) : Re Fl := (nameB i s).bind (kSi2 i f q s)
theorem setIxS_ap : setIxS i f f2 s = (f s).bind (kSi i f2) := (rfl)
theorem kSi_ap : kSi i f q s = (nameB i s).bind (kSi2 i f q s) := (rfl)
theorem kSi2_ap {s2 : DS} : kSi2 i f q s p s2 = (f s).bind (kSi3 i q) := (rfl)
theorem kSi3_ap : kSi3 i q p s = (kMod i (setU p q) s.e[i]? s).bind kNx := by unfold kSi3; rw [modB_ap]
theorem setU_lst (h0 : 0 ≤ x) (hx : x.toNat < ps.length) : setU (.int x) q (.lst ps) = some (.lst (ps.set x.toNat q), .non) := by
  show (L2.ixN ps.length x).map _ = _
  rw [ixN_of h0 (by omega)]
  rfl
def kAx4 (i : Nat) (j : PV) (o : Option PV) (s : DS) : Re Fl := match o with
  | some r => kSi3 i r j s
  | none => .bad
def kAx3 (i : Nat) (c : P2) (j old q : PV) (s : DS) : Re Fl := kAx4 i j (c old q) s
def kAx2 (i : Nat) (c : P2) (f : EM) (j : PV) (o : Option PV) (s : DS) : Re Fl := match o with
  | some old => (f s).bind (kAx3 i c j old)
  | none => .bad
def kAx1b (i : Nat) (c : P2) (f : EM) (j : PV) (s : DS) (p : PV) (_ : DS) : Re Fl := kAx2 i c f j (lixG p j) s
def kAx1 (i : Nat) (c : P2) (f : EM) (j : PV) (s : DS) : Re Fl := (nameB i s).bind (kAx1b i c f j s)
def kAx (i : Nat) (c : P2) (g f : EM) (s : DS) (_ : PV) (_ : DS) : Re Fl := (g s).bind (kAx1 i c f)
theorem augIxS_ap {c : P2} : augIxS i c f f2 s = (nameB i s).bind (kAx i c f f2 s) := by
  unfold augIxS kAx
  cases nameB i s with
  | ok p s1 =>
    simp only [bind_ok]
    cases f s with
    | ok j s2 =>
      simp only [bind_ok, kAx1]
      cases nameB i s2 with
      | ok p s3 =>
        simp only [bind_ok, kAx1b, kAx2]
        cases lixG p j with
        | none => rfl
        | some old =>
          simp only
          cases f2 s2 with
          | ok q s4 =>
            simp only [bind_ok, kAx3, kAx4, kSi3]
            cases c old q with
            | none => rfl
            | some r => rfl
          | exc _ _ => rfl
          | bad => rfl
      | exc _ _ => rfl
      | bad => rfl
    | exc _ _ => rfl
    | bad => rfl
  | exc _ _ => rfl
  | bad => rfl
theorem kAx_ap {c : P2} {s2 : DS} : kAx i c f f2 s p s2 = (f s).bind (kAx1 i c f2) := (rfl)
theorem kAx1_ap {c : P2} : kAx1 i c f q s = (nameB i s).bind (kAx1b i c f q s) := (rfl)
theorem kAx1b_ap {c : P2} {s2 : DS} : kAx1b i c f q s p s2 = kAx2 i c f q (lixG p q) s := (rfl)
theorem kAx2_ap {c : P2} : kAx2 i c f q (some p) s = (f s).bind (kAx3 i c q p) := (rfl)
theorem kAx3_ap {c : P2} : kAx3 i c r p q s = kAx4 i r (c p q) s := (rfl)
theorem kAx4_ap : kAx4 i q (some r) s = kSi3 i r q s := (rfl)
theorem lixG_ok (h0 : 0 ≤ x) (hx : x.toNat < ps.length) : lixG (.lst ps) (.int x) = ps[x.toNat]? := atI_of h0 (by omega)
/-! expressions -/
def kSh (p : PV) (s : DS) : Re (PV × Bool) := .ok (p, false) s
theorem sharedE_ap : sharedE f s = (f s).bind kSh := (rfl)
theorem kSh_ap : kSh p s = .ok (p, false) s := (rfl)
def kPl (p : PV × Bool) (s : DS) : Re PV := .ok p.1 s
theorem plainE_ap : plainE g s = (g s).bind kPl := (rfl)
theorem kPl_ap : kPl (p, fr) s = .ok p s := (rfl)
theorem constE_ap : constE p s = .ok p s := (rfl)
theorem nilA_ap : nilA s = .ok [] s := (rfl)
def kCo2 {α : Type} (p : α) (ps : List α) (s : DS) : Re (List α) := .ok (p :: ps) s
def kCo {α : Type} (g : DS → Re (List α)) (p : α) (s : DS) : Re (List α) := (g s).bind (kCo2 p)
theorem consA_ap : consA f fa s = (f s).bind (kCo fa) := (rfl)
theorem kCo_ap {g : DS → Re (List α)} {a : α} : kCo g a s = (g s).bind (kCo2 a) := (rfl)
theorem kCo2_ap {a : α} {as : List α} : kCo2 a as s = .ok (a :: as) s := (rfl)
theorem nilL_ap : nilL s = .ok [] s := (rfl)
theorem consL_ap : consL g fl s = (g s).bind (kCo fl) := (rfl)
def kTu (ps : List PV) (s : DS) : Re PV := if lineOk ps.length then .ok (.tup false ps) s else .bad
def kLs (ps : List PV) (s : DS) : Re (PV × Bool) := if lineOk ps.length then .ok (.lst ps, true) s else .bad
theorem tupE_ap : tupE fa s = (fa s).bind kTu := (rfl)
theorem lstE_ap : lstE fa s = (fa s).bind kLs := (rfl)
theorem lineOk_le (hn : n ≤ 100) : lineOk n = true := by
  unfold lineOk
  have : 100 ≤ sizeLine := by decide
  exact decide_eq_true (by omega)
theorem kTu_ap (hn : ps.length ≤ 100) : kTu ps s = .ok (.tup false ps) s := by unfold kTu; rw [if_pos (lineOk_le hn)]
theorem kLs_ap (hn : ps.length ≤ 100) : kLs ps s = .ok (.lst ps, true) s := by unfold kLs; rw [if_pos (lineOk_le hn)]
def kOp {α : Type} (o : Option α) (s : DS) : Re α := match o with
  | some r => .ok r s
  | none => .bad
theorem kOp_ap {a : α} : kOp (some a) s = .ok a s := (rfl)
theorem kOp_no : kOp (none : Option α) s = .bad := (rfl)
def kBi2 (B : B2) (p q : PV) (s : DS) : Re (PV × Bool) := kOp (B p q) s
def kBi (B : B2) (f : EM) (p : PV) (s : DS) : Re (PV × Bool) := (f s).bind (kBi2 B p)
theorem binO_ap : binO B f f2 s = (f s).bind (kBi B f2) := by
  unfold binO
  congr 1
  funext p s1
  unfold kBi
  congr 1
  funext q s2
  unfold kBi2
  cases B p q <;> rfl
theorem kBi_ap : kBi B f p s = (f s).bind (kBi2 B p) := (rfl)
theorem kBi2_ap : kBi2 B p q s = kOp (B p q) s := (rfl)
def kBe2 (G : P2) (p q : PV) (s : DS) : Re PV := kOp (G p q) s
def kBe (G : P2) (f : EM) (p : PV) (s : DS) : Re PV := (f s).bind (kBe2 G p)
theorem binE_ap : binE G f f2 s = (f s).bind (kBe G f2) := by
  unfold binE plainE binO
  cases f s with
  | ok p s1 =>
    simp only [bind_ok, kBe]
    cases f2 s1 with
    | ok q s2 =>
      simp only [bind_ok, p2, kBe2]
      cases G p q <;> rfl
    | exc _ _ => rfl
    | bad => rfl
  | exc _ _ => rfl
  | bad => rfl
theorem kBe_ap : kBe G f p s = (f s).bind (kBe2 G p) := (rfl)
theorem kBe2_ap : kBe2 G p q s = kOp (G p q) s := (rfl)
def kCh4 (G : P2) (p q : PV) (s : DS) : Re PV := kOp (G p q) s
def kCh3 (G : P2) (f : EM) (q : PV) (o : Option PV) (s : DS) : Re PV := match o with
  | some (.bl true) => (f s).bind (kCh4 G q)
  | some (.bl false) => .ok (.bl false) s
  | _ => .bad
def kCh2 (G G' : P2) (f : EM) (p q : PV) (s : DS) : Re PV := kCh3 G' f q (G p q) s
def kCh (G G' : P2) (f f2 : EM) (p : PV) (s : DS) : Re PV := (f s).bind (kCh2 G G' f2 p)
theorem chainE_ap {G' : P2} : chainE G G' f f2 f3 s = (f s).bind (kCh G G' f2 f3) := by
  unfold chainE
  congr 1
  funext p s1
  unfold kCh
  congr 1
  funext q s2
  unfold kCh2 kCh3
  cases G p q with
  | none => rfl
  | some z =>
    cases z <;> try rfl
    rename_i b
    cases b with
    | false => rfl
    | true =>
      simp only
      congr 1
      funext r s3
      unfold kCh4
      cases G' q r <;> rfl
theorem kCh_ap {G' : P2} : kCh G G' f f2 p s = (f s).bind (kCh2 G G' f2 p) := (rfl)
theorem kCh2_ap {G' : P2} : kCh2 G G' f p q s = kCh3 G' f q (G p q) s := (rfl)
theorem kCh3_t : kCh3 G f q (some (.bl true)) s = (f s).bind (kCh4 G q) := (rfl)
theorem kCh3_f : kCh3 G f q (some (.bl false)) s = .ok (.bl false) s := (rfl)
theorem kCh4_ap : kCh4 G p q s = kOp (G p q) s := (rfl)
theorem testE_ap : testE f s = (f s).bind toB := (rfl)
theorem toB_ap : toB (.bl b) s = .ok b s := (rfl)
def kAnd (f : EM) (p : PV) (s : DS) : Re PV := match p with
  | .bl true => f s
  | .bl false => .ok (.bl false) s
  | _ => .bad
def kOr (f : EM) (p : PV) (s : DS) : Re PV := match p with
  | .bl true => .ok (.bl true) s
  | .bl false => f s
  | _ => .bad
def kNot (p : PV) (s : DS) : Re PV := match p with
  | .bl b => .ok (.bl (!b)) s
  | _ => .bad
theorem andE_ap : andE f f2 s = (f s).bind (kAnd f2) := (rfl)
theorem orE_ap : orE f f2 s = (f s).bind (kOr f2) := (rfl)
theorem notE_ap : notE f s = (f s).bind kNot := (rfl)
theorem kAnd_t : kAnd f (.bl true) s = f s := (rfl)
theorem kAnd_f : kAnd f (.bl false) s = .ok (.bl false) s := (rfl)
theorem kOr_t : kOr f (.bl true) s = .ok (.bl true) s := (rfl)
theorem kOr_f : kOr f (.bl false) s = f s := (rfl)
theorem kNot_ap : kNot (.bl b) s = .ok (.bl (!b)) s := (rfl)
def kAndT (t : TM) (b : Bool) (s : DS) : Re Bool := if b = true then t s else .ok false s
def kOrT (t : TM) (b : Bool) (s : DS) : Re Bool := if b = true then .ok true s else t s
def kNotT (b : Bool) (s : DS) : Re Bool := .ok (!b) s
theorem andT_ap : andT t1 t2 s = (t1 s).bind (kAndT t2) := (rfl)
theorem orT_ap : orT t1 t2 s = (t1 s).bind (kOrT t2) := (rfl)
theorem notT_ap : notT t1 s = (t1 s).bind kNotT := (rfl)
theorem kAndT_t : kAndT t1 true s = t1 s := (rfl)
theorem kAndT_f : kAndT t1 false s = .ok false s := (rfl)
theorem kOrT_t : kOrT t1 true s = .ok true s := (rfl)
theorem kOrT_f : kOrT t1 false s = t1 s := (rfl)
theorem kNotT_ap : kNotT b s = .ok (!b) s := (rfl)
def kNeg (p : PV) (s : DS) : Re PV := match p with
  | .int i => .ok (.int (-i)) s
  | _ => .bad
theorem negE_ap : negE f s = (f s).bind kNeg := (rfl)
theorem kNeg_ap : kNeg (.int x) s = .ok (.int (-x)) s := (rfl)
/-! calls -/
def kFr (r : FR) (s : DS) : Re (PV × Bool) := match r with
  | .ok p fr t' => .ok (p, fr) ⟨s.e, t'⟩
  | .exc x t' => .exc x ⟨s.e, t'⟩
  | .bad => .bad
def kCall (sem : SemF) (ps : List PV) (s : DS) : Re (PV × Bool) := kFr (sem ps s.t) s
theorem callO_ap : callO sem fa s = (fa s).bind (kCall sem) := by
  unfold callO
  cases fa s <;> rfl
theorem kCall_ap : kCall sem ps ⟨e, t⟩ = kFr (sem ps t) ⟨e, t⟩ := (rfl)
theorem kFr_ap : kFr (.ok p fr t') ⟨e, t⟩ = .ok (p, fr) ⟨e, t'⟩ := (rfl)
theorem kFr_exc {z : Exn} : kFr (.exc z t') ⟨e, t⟩ = .exc z ⟨e, t'⟩ := (rfl)
def kUn (O : O1) (p : PV) (s : DS) : Re (PV × Bool) := kOp (O p) s
def kUe (U : G1) (p : PV) (s : DS) : Re PV := kOp (U p) s
theorem un1O_ap : un1O O f s = (f s).bind (kUn O) := by
  unfold un1O
  congr 1
  funext p s1
  unfold kUn
  cases O p <;> rfl
theorem kUn_ap : kUn O p s = kOp (O p) s := (rfl)
theorem un1E_ap : un1E U f s = (f s).bind (kUe U) := by
  unfold un1E plainE un1O
  cases f s with
  | ok p s1 =>
    simp only [bind_ok, g1, kUe]
    cases U p <;> rfl
  | exc _ _ => rfl
  | bad => rfl
theorem kUe_ap : kUe U p s = kOp (U p) s := (rfl)
theorem lenG_lst : lenG (.lst ps) = some (.int ps.length) := (rfl)
theorem lenG_tup : lenG (.tup b ps) = some (.int ps.length) := (rfl)
theorem lenG_scr : lenG (.scr ps) = some (.int ps.length) := (rfl)
theorem tupG_lst : tupG (.lst ps) = some (.tup false ps) := (rfl)
theorem tupG_tup : tupG (.tup b ps) = some (.tup b ps) := (rfl)
theorem listG_lst : listG (.lst ps) = some (.lst ps, true) := (rfl)
theorem listG_tup : listG (.tup b ps) = some (.lst ps, true) := (rfl)
theorem intG_int : intG (.int x) = some (.int x) := (rfl)
theorem intG_bl : intG (.bl b) = some (.int (if b then 1 else 0)) := (rfl)
theorem absG_int : absG (.int x) = some (.int (if x < 0 then -x else x)) := (rfl)
/-! items, slices -/
def kIx3 (q p : PV) (s : DS) : Re PV := kOp (ixG p q) s
def kIx2 (i : Nat) (q : PV) (s : DS) : Re PV := (nameB i s).bind (kIx3 q)
def kIx (i : Nat) (f : EM) (s : DS) (_ : PV) (_ : DS) : Re PV := (f s).bind (kIx2 i)
theorem ixN_ap : ixN i f s = (nameB i s).bind (kIx i f s) := by
  unfold ixN
  congr 1
  funext p s1
  unfold kIx
  congr 1
  funext q s2
  unfold kIx2
  congr 1
  funext r s3
  unfold kIx3
  cases ixG r q <;> rfl
theorem kIx_ap {s2 : DS} : kIx i f s p s2 = (f s).bind (kIx2 i) := (rfl)
theorem kIx2_ap : kIx2 i q s = (nameB i s).bind (kIx3 q) := (rfl)
theorem kIx3_ap : kIx3 q p s = kOp (ixG p q) s := (rfl)
def kIe2 (p q : PV) (s : DS) : Re PV := kOp (ixG p q) s
def kIe (f : EM) (p : PV) (s : DS) : Re PV := (f s).bind (kIe2 p)
theorem ixE_ap : ixE f f2 s = (f s).bind (kIe f2) := by
  unfold ixE
  congr 1
  funext p s1
  unfold kIe
  congr 1
  funext q s2
  unfold kIe2
  cases ixG p q <;> rfl
theorem kIe_ap : kIe f p s = (f s).bind (kIe2 p) := (rfl)
theorem kIe2_ap : kIe2 p q s = kOp (ixG p q) s := (rfl)
theorem ixG_lst (h0 : 0 ≤ x) (hx : x.toNat < ps.length) : ixG (.lst ps) (.int x) = ps[x.toNat]? := atI_of h0 (by omega)
theorem ixG_tup (h0 : 0 ≤ x) (hx : x.toNat < ps.length) : ixG (.tup b ps) (.int x) = ps[x.toNat]? := atI_of h0 (by omega)
theorem ixG_scr (h0 : 0 ≤ x) (hx : x.toNat < ps.length) : ixG (.scr ps) (.int x) = ps[x.toNat]? := atI_of h0 (by omega)
theorem noQ_ap : noQ s = .ok none s := (rfl)
def kSq (p : PV) (s : DS) : Re (Option Int) := match p with
  | .int i => .ok (some i) s
  | _ => .bad
theorem someQ_ap : someQ f s = (f s).bind kSq := (rfl)
theorem kSq_ap : kSq (.int x) s = .ok (some x) s := (rfl)
def kCt3 (p : PV) (lo hi : Option Int) (s : DS) : Re (PV × Bool) := kOp (cutG p lo hi) s
def kCt2 (u : QM) (p : PV) (lo : Option Int) (s : DS) : Re (PV × Bool) := (u s).bind (kCt3 p lo)
def kCt (l u : QM) (p : PV) (s : DS) : Re (PV × Bool) := (l s).bind (kCt2 u p)
theorem cutO_ap {l u : QM} : cutO f l u s = (f s).bind (kCt l u) := by
  unfold cutO
  congr 1
  funext p s1
  unfold kCt
  congr 1
  funext lo s2
  unfold kCt2
  congr 1
  funext hi s3
  unfold kCt3
  cases cutG p lo hi <;> rfl
theorem kCt_ap {l u : QM} : kCt l u p s = (l s).bind (kCt2 u p) := (rfl)
theorem kCt2_ap {u : QM} {lo : Option Int} : kCt2 u p lo s = (u s).bind (kCt3 p lo) := (rfl)
theorem kCt3_ap {lo hi : Option Int} : kCt3 p lo hi s = kOp (cutG p lo hi) s := (rfl)
def kCn4 (lo hi : Option Int) (p : PV) (s : DS) : Re (PV × Bool) := kOp (cutG p lo hi) s
def kCn3 (i : Nat) (lo hi : Option Int) (s : DS) : Re (PV × Bool) := (nameB i s).bind (kCn4 lo hi)
def kCn2 (i : Nat) (u : QM) (lo : Option Int) (s : DS) : Re (PV × Bool) := (u s).bind (kCn3 i lo)
def kCn (i : Nat) (l u : QM) (s : DS) (_ : PV) (_ : DS) : Re (PV × Bool) := (l s).bind (kCn2 i u)
theorem cutN_ap {l u : QM} : cutN i l u s = (nameB i s).bind (kCn i l u s) := by
  unfold cutN
  congr 1
  funext p s1
  unfold kCn
  congr 1
  funext lo s2
  unfold kCn2
  congr 1
  funext hi s3
  unfold kCn3
  congr 1
  funext q s4
  unfold kCn4
  cases cutG q lo hi <;> rfl
theorem kCn_ap {l u : QM} {s2 : DS} : kCn i l u s p s2 = (l s).bind (kCn2 i u) := (rfl)
theorem kCn2_ap {u : QM} {lo : Option Int} : kCn2 i u lo s = (u s).bind (kCn3 i lo) := (rfl)
theorem kCn3_ap {lo hi : Option Int} : kCn3 i lo hi s = (nameB i s).bind (kCn4 lo hi) := (rfl)
theorem kCn4_ap {lo hi : Option Int} : kCn4 lo hi p s = kOp (cutG p lo hi) s := (rfl)
theorem newK_ap : newK s = .ok (.dK [], true) s := (rfl)
theorem newT_ap : newT s = .ok (.dT [], true) s := (rfl)
/-! what is walked -/
theorem seqI_ap : seqI f s = (f s).bind seqP := (rfl)
theorem seqP_lst : seqP (.lst ps) s = .ok ps s := (rfl)
theorem seqP_tup : seqP (.tup b ps) s = .ok ps s := (rfl)
theorem seqP_scr : seqP (.scr ps) s = .ok ps s := (rfl)
def kR1 (p : PV) (s : DS) : Re (List PV) := match p with
  | .int j => if big62 j then .ok (rangeP 0 j.toNat) s else .bad
  | _ => .bad
theorem range1I_ap : range1I f s = (f s).bind kR1 := (rfl)
theorem big62_ok (h0 : -1000000000 ≤ x) (h1 : x ≤ 1000000000) : big62 x = true := decide_eq_true (by omega)
theorem kR1_ap (h0 : -1000000000 ≤ x) (h1 : x ≤ 1000000000) : kR1 (.int x) s = .ok (rangeP 0 x.toNat) s := by
  show (if big62 x then _ else _) = _
  rw [if_pos (big62_ok h0 h1)]
def kR2b (p q : PV) (s : DS) : Re (List PV) := match p, q with
  | .int i, .int j => if big62 i && big62 j then .ok (rangeP i (j - i).toNat) s else .bad
  | _, _ => .bad
def kR2 (f : EM) (p : PV) (s : DS) : Re (List PV) := (f s).bind (kR2b p)
theorem range2I_ap : range2I f f2 s = (f s).bind (kR2 f2) := (rfl)
theorem kR2_ap : kR2 f p s = (f s).bind (kR2b p) := (rfl)
theorem kR2b_ap (h0 : -1000000000 ≤ x) (h1 : x ≤ 1000000000) (g0 : -1000000000 ≤ y) (g1 : y ≤ 1000000000) : kR2b (.int x) (.int y) s = .ok (rangeP x (y - x).toNat) s := by
  show (if big62 x && big62 y then _ else _) = _
  rw [big62_ok h0 h1, big62_ok g0 g1]
  rfl
theorem forS_ap {bd : SM} : forS it tg bd s = (it s).bind (forL tg bd) := (rfl)
def kBody (r : Re Fl) : FR := match r with
  | .ok (.rt p fr) s => .ok p fr s.t
  | .ok .nx s => .ok .non false s.t
  | .ok .bk _ => .bad
  | .ok .ct _ => .bad
  | .exc x s => .exc x s.t
  | .bad => .bad
theorem bodyF_ap : bodyF n u ps t = kBody (u ⟨frameE n ps, t⟩) := (rfl)
theorem kBody_rt : kBody (.ok (.rt p fr) ⟨e, t⟩) = .ok p fr t := (rfl)
theorem kBody_nx : kBody (.ok .nx ⟨e, t⟩) = .ok .non false t := (rfl)
theorem kBody_exc {z : Exn} : kBody (.exc z ⟨e, t⟩) = .exc z t := (rfl)
theorem yesT_ap : yesT s = .ok true s := (rfl)
theorem ix0 {a : α} {l : List α} : (a :: l)[0]? = some a := (rfl)
theorem ix1 {a : α} {l : List α} {n : Nat} : (a :: l)[n + 1]? = l[n]? := (rfl)
theorem allG_ok {bs : List Bool} : allG (.lst (bs.map .bl)) = some (.bl (bs.all id)) := by
  have h : bools (bs.map PV.bl) = some bs := by
    induction bs with
    | nil => rfl
    | cons a l ih => simp [bools, ih]
  simp [allG, h]
theorem anyG_ok {bs : List Bool} : anyG (.lst (bs.map .bl)) = some (.bl (bs.any id)) := by
  have h : bools (bs.map PV.bl) = some bs := by
    induction bs with
    | nil => rfl
    | cons a l ih => simp [bools, ih]
  simp [anyG, h]
theorem intsP_ok {xs : List Int} : intsP (xs.map .int) = some xs := by
  induction xs with
  | nil => rfl
  | cons a l ih => simp [intsP, ih]
theorem sumG_ok {xs : List Int} : sumG (.lst (xs.map .int)) = some (.int xs.sum) := by simp [sumG, intsP_ok]
theorem maxG_ok {xs : List Int} {m : Int} (hm : maxL xs = some m) : maxG (.lst (xs.map .int)) = some (.int m) := by simp [maxG, intsP_ok, hm]
theorem minG_ok {xs : List Int} {m : Int} (hm : minL xs = some m) : minG (.lst (xs.map .int)) = some (.int m) := by simp [minG, intsP_ok, hm]
/-! loops, turn by turn -/
def kFor2 (tg : Tg) (bd : SM) (ps : List PV) (fl : Fl) (s : DS) : Re Fl := match fl with
  | .nx => forL tg bd ps s
  | .ct => forL tg bd ps s
  | .bk => .ok .nx s
  | .rt p fr => .ok (.rt p fr) s
def kFor (tg : Tg) (bd : SM) (ps : List PV) (o : Option DE) (t : DT) : Re Fl := match o with
  | some e => (bd ⟨e, t⟩).bind (kFor2 tg bd ps)
  | none => .bad
theorem forL_nil {bd : SM} : forL tg bd [] s = .ok .nx s := (rfl)
theorem forL_ap {bd : SM} : forL tg bd (p :: ps) ⟨e, t⟩ = kFor tg bd ps (asgT tg p e) t := by
  unfold kFor
  show (match asgT tg p e with
    | none => _
    | some e' => _) = _
  cases asgT tg p e <;> rfl
theorem kFor_ap {bd : SM} : kFor tg bd ps (some e) t = (bd ⟨e, t⟩).bind (kFor2 tg bd ps) := (rfl)
theorem kFor2_nx {bd : SM} : kFor2 tg bd ps .nx s = forL tg bd ps s := (rfl)
theorem kFor2_ct {bd : SM} : kFor2 tg bd ps .ct s = forL tg bd ps s := (rfl)
theorem kFor2_bk {bd : SM} : kFor2 tg bd ps .bk s = .ok .nx s := (rfl)
theorem kFor2_rt {bd : SM} : kFor2 tg bd ps (.rt p fr) s = .ok (.rt p fr) s := (rfl)
theorem lenA_lst : lenA (.lst ps) = some (.int ps.length) := (rfl)
theorem lenA_tup : lenA (.tup b ps) = some (.int ps.length) := (rfl)
theorem lenA_scr : lenA (.scr ps) = some (.int ps.length) := (rfl)
theorem lenA_dK {l : List (Key × PV)} : lenA (.dK l) = some (.int l.length) := (rfl)
theorem lenA_dT {l : List (List Key × PV)} : lenA (.dT l) = some (.int l.length) := (rfl)
theorem maxA_lst {xs : List Int} {m : Int} (hm : maxL xs = some m) : maxA (.lst (xs.map .int)) = some (.int m) := by simp [maxA, maxG, intsP_ok, hm]
theorem minA_lst {xs : List Int} {m : Int} (hm : minL xs = some m) : minA (.lst (xs.map .int)) = some (.int m) := by simp [minA, minG, intsP_ok, hm]
theorem maxA_tup {xs : List Int} {m : Int} (hm : maxL xs = some m) : maxA (.tup b (xs.map .int)) = some (.int m) := by simp [maxA, maxG, maxTG, intsP_ok, hm]
theorem minA_tup {xs : List Int} {m : Int} (hm : minL xs = some m) : minA (.tup b (xs.map .int)) = some (.int m) := by simp [minA, minG, minTG, intsP_ok, hm]
end
end DR
/-! DR: comprehensions of two clauses, reckoned; ranges; rows of ints. -/
namespace DR
open PySem
section
variable {vs vs1 : List Nat} {tg tg1 : Tg} {tt1 : TM} {f : EM} {it it1 : IM}
theorem wipeE_eq_of {e e' : DE} (hsub : ∀ i ∈ vs1, i ∈ vs) (h : wipeE vs1 e = wipeE vs1 e') : wipeE vs e = wipeE vs e' := by
  rw [← wipeE_in e hsub, ← wipeE_in e' hsub, h]
theorem lc2L_pure {e0 : DE} {t0 : DT} (Q : PV → List PV) (g : PV → PV → Option PV) (hsub : ∀ i ∈ vs1, i ∈ vs) : ∀ (ps acc : List PV) (s : DS),
    (∀ p ∈ ps, ∃ e1 s2, asgT tg p e0 = some e1 ∧ it1 ⟨e1, t0⟩ = .ok (Q p) s2 ∧ s2.t = t0 ∧ wipeE vs s2.e = e0 ∧ ∀ q ∈ Q p, ∃ e3 b s4, asgT tg1 q (wipeE vs1 s2.e) = some e3 ∧ tt1 ⟨e3, t0⟩ = .ok b s4 ∧ ((b = true ∧ ∃ y s5, f s4 = .ok y s5 ∧ g p q = some y ∧ wipeE vs1 s5.e = wipeE vs1 s2.e ∧ s5.t = t0) ∨ (b = false ∧ g p q = none ∧ wipeE vs1 s4.e = wipeE vs1 s2.e ∧ s4.t = t0))) →
    wipeE vs s.e = e0 → s.t = t0 → acc.length + (ps.flatMap Q).length ≤ sizeLine →
    ∃ s', lc2L tg yesT it1 tg1 tt1 f vs vs1 ps acc s = .ok (acc ++ ps.flatMap fun p => (Q p).filterMap (g p)) s' ∧ wipeE vs s'.e = e0 ∧ s'.t = t0
  | [], acc, s, h, i, it, hl => ⟨s, by simp [lc2L], i, it⟩
  | p :: ps, acc, s, h, i, it, hl => by
    obtain ⟨e1, s2, h1, h2, h3, h4, h5⟩ := h p List.mem_cons_self
    simp only [List.flatMap_cons, List.length_append] at hl
    obtain ⟨s6, k1, k2, k3⟩ := lcL_pure (vs := vs1) (tg := tg1) (tt := tt1) (f := f) (e0 := wipeE vs1 s2.e) (t0 := t0) (g p) (Q p) acc s2 h5 rfl h3 (by omega)
    have hw : wipeE vs s6.e = e0 := (wipeE_eq_of hsub k2).trans h4
    have hlen : ((Q p).filterMap (g p)).length ≤ (Q p).length := List.length_filterMap_le _ _
    obtain ⟨s7, m1, m2, m3⟩ := lc2L_pure Q g hsub ps (acc ++ (Q p).filterMap (g p)) s6 (fun q hq => h q (List.mem_cons_of_mem _ hq)) hw k3 (by simp only [List.length_append]; omega)
    refine ⟨s7, ?_, m2, m3⟩
    rw [lc2L_cons, i, h1]
    simp only [yesT_ap, bind_ok, if_true, it, h2, k1, m1, List.flatMap_cons, List.append_assoc]
theorem lc2O_pure {s s1 : DS} {ps : List PV} (Q : PV → List PV) (g : PV → PV → Option PV) (hsub : ∀ i ∈ vs1, i ∈ vs) (hit : it s = .ok ps s1)
    (h : ∀ p ∈ ps, ∃ e1 s2, asgT tg p (wipeE vs s1.e) = some e1 ∧ it1 ⟨e1, s1.t⟩ = .ok (Q p) s2 ∧ s2.t = s1.t ∧ wipeE vs s2.e = wipeE vs s1.e ∧ ∀ q ∈ Q p, ∃ e3 b s4, asgT tg1 q (wipeE vs1 s2.e) = some e3 ∧ tt1 ⟨e3, s1.t⟩ = .ok b s4 ∧ ((b = true ∧ ∃ y s5, f s4 = .ok y s5 ∧ g p q = some y ∧ wipeE vs1 s5.e = wipeE vs1 s2.e ∧ s5.t = s1.t) ∨ (b = false ∧ g p q = none ∧ wipeE vs1 s4.e = wipeE vs1 s2.e ∧ s4.t = s1.t)))
    (hl : (ps.flatMap Q).length ≤ sizeLine) : lc2O it tg yesT it1 tg1 tt1 f vs vs1 s = .ok (.lst (ps.flatMap fun p => (Q p).filterMap (g p)), true) ⟨restE vs s1.e s1.e, s1.t⟩ := by
  obtain ⟨s', h1, h2, h3⟩ := lc2L_pure (it1 := it1) (tg := tg) (tg1 := tg1) (tt1 := tt1) (f := f) (e0 := wipeE vs s1.e) (t0 := s1.t) Q g hsub ps [] s1 h rfl rfl (by simpa using hl)
  unfold lc2O
  rw [hit, bind_ok, h1, noX_ok, bind_ok, h3, restE_eq h2]
  simp
end
/-! ### nothing changed at all -/
mutual
theorem asgT_wipe {vs : List Nat} : ∀ (tg : Tg) (p : PV) (e e1 : DE), tgIn tg vs = true → asgT tg p e = some e1 → wipeE vs e1 = wipeE vs e
  | .nm i, p, e, e1, h, z => by
    simp only [asgT, Option.some.injEq] at z
    subst z
    have h : i ∈ vs := of_decide_eq_true h
    refine List.ext_getElem? fun j => ?_
    rw [wipeE_get, wipeE_get]
    by_cases hj : j ∈ vs
    · rw [if_pos hj, if_pos hj]
      by_cases hij : i = j
      · subst hij
        by_cases hl : i < e.length
        · rw [List.getElem?_set_self hl, List.getElem?_eq_getElem hl]
          rfl
        · rw [List.getElem?_eq_none (by rw [List.length_set]; omega), List.getElem?_eq_none (by omega)]
      · rw [List.getElem?_set_ne hij]
    · rw [if_neg hj, if_neg hj, List.getElem?_set_ne (show i ≠ j from fun z => hj (by rw [← z]; exact h))]
  | .tp ts, p, e, e1, h, z => by
    cases p with
    | tup c ps => exact asgTs_wipe ts ps e e1 h (by simpa [asgT] using z)
    | _ => simp [asgT] at z
theorem asgTs_wipe {vs : List Nat} : ∀ (ts : List Tg) (ps : List PV) (e e1 : DE), tgsIn ts vs = true → asgTs ts ps e = some e1 → wipeE vs e1 = wipeE vs e
  | [], ps, e, e1, h, z => by
    cases ps with
    | nil => simp only [asgTs, Option.some.injEq] at z; rw [z]
    | cons a b => simp [asgTs] at z
  | t :: ts, ps, e, e1, h, z => by
    cases ps with
    | nil => simp [asgTs] at z
    | cons a b =>
      simp only [asgTs] at z
      simp only [tgsIn, Bool.and_eq_true] at h
      cases e2 : asgT t a e with
      | none => rw [e2] at z; cases z
      | some e3 =>
        rw [e2] at z
        exact (asgTs_wipe ts b e3 e1 h.2 z).trans (asgT_wipe t a e e3 h.1 e2)
end
section
variable {vs vs1 : List Nat} {tg tg1 : Tg} {tt tt1 : TM} {f : EM} {it it1 : IM} {s s1 : DS} {ps : List PV}
theorem lcO_map0 (g : PV → PV) (hit : it s = .ok ps s1) (h : ∀ p ∈ ps, ∃ e1, asgT tg p (wipeE vs s1.e) = some e1 ∧ f ⟨e1, s1.t⟩ = .ok (g p) ⟨e1, s1.t⟩) (hl : ps.length ≤ sizeLine) (hin : tgIn tg vs = true := by rfl) :
    lcO it tg yesT f vs s = .ok (.lst (ps.map g), true) ⟨restE vs s1.e s1.e, s1.t⟩ :=
  lcO_map g hit (fun p hp => by
    obtain ⟨e1, h1, h2⟩ := h p hp
    exact ⟨e1, _, h1, h2, (asgT_wipe tg p _ _ hin h1).trans (wipeE_in _ fun _ z => z), rfl⟩) hl
theorem lcO_flt0 (c : PV → Bool) (g : PV → PV) (hit : it s = .ok ps s1) (h : ∀ p ∈ ps, ∃ e1, asgT tg p (wipeE vs s1.e) = some e1 ∧ tt ⟨e1, s1.t⟩ = .ok (c p) ⟨e1, s1.t⟩ ∧ (c p = true → f ⟨e1, s1.t⟩ = .ok (g p) ⟨e1, s1.t⟩)) (hl : ps.length ≤ sizeLine) (hin : tgIn tg vs = true := by rfl) :
    lcO it tg tt f vs s = .ok (.lst ((ps.filter c).map g), true) ⟨restE vs s1.e s1.e, s1.t⟩ := by
  rw [lcO_pure (fun p => if c p = true then some (g p) else none) hit (fun p hp => ?_) hl]
  · congr 3
    clear h hl hit
    induction ps with
    | nil => rfl
    | cons p ps ih => by_cases hc : c p = true <;> simp [hc, ih]
  · obtain ⟨e1, h1, h2, h3⟩ := h p hp
    have hw := (asgT_wipe tg p _ _ hin h1).trans (wipeE_in _ fun _ z => z)
    by_cases hc : c p = true
    · exact ⟨e1, true, ⟨e1, s1.t⟩, h1, by rw [h2, hc], .inl ⟨rfl, g p, _, h3 hc, by rw [if_pos hc], hw, rfl⟩⟩
    · exact ⟨e1, false, ⟨e1, s1.t⟩, h1, by rw [h2, Bool.eq_false_iff.mpr hc], .inr ⟨rfl, by rw [if_neg hc], hw, rfl⟩⟩
theorem lc2O_0 (Q : PV → List PV) (c : PV → PV → Bool) (g : PV → PV → PV) (hit : it s = .ok ps s1)
    (h : ∀ p ∈ ps, ∃ e1, asgT tg p (wipeE vs s1.e) = some e1 ∧ it1 ⟨e1, s1.t⟩ = .ok (Q p) ⟨e1, s1.t⟩ ∧ ∀ q ∈ Q p, ∃ e3, asgT tg1 q (wipeE vs1 e1) = some e3 ∧ tt1 ⟨e3, s1.t⟩ = .ok (c p q) ⟨e3, s1.t⟩ ∧ (c p q = true → f ⟨e3, s1.t⟩ = .ok (g p q) ⟨e3, s1.t⟩))
    (hl : (ps.flatMap Q).length ≤ sizeLine) (hin : tgIn tg vs = true := by rfl) (hin1 : tgIn tg1 vs1 = true := by rfl) (hsub : ∀ i ∈ vs1, i ∈ vs := by decide) :
    lc2O it tg yesT it1 tg1 tt1 f vs vs1 s = .ok (.lst (ps.flatMap fun p => ((Q p).filter (c p)).map (g p)), true) ⟨restE vs s1.e s1.e, s1.t⟩ := by
  rw [lc2O_pure Q (fun p q => if c p q = true then some (g p q) else none) hsub hit (fun p hp => ?_) hl]
  · have e : ∀ p, (Q p).filterMap (fun q => if c p q = true then some (g p q) else none) = ((Q p).filter (c p)).map (g p) := fun p => by
      induction Q p with
      | nil => rfl
      | cons q qs ih => by_cases hc : c p q = true <;> simp [hc, ih]
    simp only [e]
  · obtain ⟨e1, h1, h2, h3⟩ := h p hp
    have hw := (asgT_wipe tg p _ _ hin h1).trans (wipeE_in _ fun _ z => z)
    refine ⟨e1, _, h1, h2, rfl, hw, fun q hq => ?_⟩
    obtain ⟨e3, k1, k2, k3⟩ := h3 q hq
    have hw3 := (asgT_wipe tg1 q _ _ hin1 k1).trans (wipeE_in _ fun _ z => z)
    by_cases hc : c p q = true
    · exact ⟨e3, true, ⟨e3, s1.t⟩, k1, by rw [k2, hc], .inl ⟨rfl, g p q, _, k3 hc, by rw [if_pos hc], hw3, rfl⟩⟩
    · exact ⟨e3, false, ⟨e3, s1.t⟩, k1, by rw [k2, Bool.eq_false_iff.mpr hc], .inr ⟨rfl, by rw [if_neg hc], hw3, rfl⟩⟩
end
theorem pow_10_18 : powI (.int 10) (.int 18) = some (.int 1000000000000000000) := by
  rw [pow_ok (by decide) (by decide) (by decide)]
  rfl
theorem rangeP0 (n : Nat) : rangeP 0 n = (List.range n).map fun i : Nat => PV.int (i : Int) := by
  unfold rangeP
  congr 1
  funext i
  rw [Int.zero_add]
theorem mem_rangeP0 {n : Nat} {p : PV} (h : p ∈ rangeP 0 n) : ∃ i : Nat, i < n ∧ p = .int i := by
  rw [rangeP0] at h
  obtain ⟨i, h1, rfl⟩ := List.mem_map.mp h
  exact ⟨i, List.mem_range.mp h1, rfl⟩
theorem rangeP0_get {n i : Nat} {p : PV} (h : (rangeP 0 n)[i]? = some p) : i < n ∧ p = .int (i : Int) := by
  have h1 := (List.getElem?_eq_some_iff.mp h).1
  rw [rangeP_len] at h1
  have h2 := rangeP_get h
  rw [Int.zero_add] at h2
  exact ⟨h1, h2⟩
/-- rows of ints -/
abbrev rowP (r : List Int) : PV := .tup false (r.map .int)
abbrev shP (sh : List (List Int)) : PV := .tup false (sh.map rowP)
def at2 (sh : List (List Int)) (a b : Nat) : Int := (sh.getD a []).getD b 0
theorem ix_sh {c : Bool} {sh : List (List Int)} {a : Nat} (h : a < sh.length) : ixG (.tup c (sh.map rowP)) (.int a) = some (rowP (sh.getD a [])) := by
  show L2.atI _ _ = _
  apply atI_nat
  rw [List.getElem?_map, List.getElem?_eq_getElem h, List.getD_eq_getElem?_getD, List.getElem?_eq_getElem h]
  rfl
theorem ix_row {c : Bool} {r : List Int} {b : Nat} (h : b < r.length) : ixG (.tup c (r.map .int)) (.int b) = some (.int (r.getD b 0)) := by
  show L2.atI _ _ = _
  apply atI_nat
  rw [List.getElem?_map, List.getElem?_eq_getElem h, List.getD_eq_getElem?_getD, List.getElem?_eq_getElem h]
  rfl
theorem ix_lrow {r : List Int} {b : Nat} (h : b < r.length) : ixG (.lst (r.map .int)) (.int b) = some (.int (r.getD b 0)) := by
  show L2.atI _ _ = _
  apply atI_nat
  rw [List.getElem?_map, List.getElem?_eq_getElem h, List.getD_eq_getElem?_getD, List.getElem?_eq_getElem h]
  rfl
theorem ix_shI {c : Bool} {sh : List (List Int)} {i : Int} (h0 : 0 ≤ i) (h : i.toNat < sh.length) : ixG (.tup c (sh.map rowP)) (.int i) = some (rowP (sh.getD i.toNat [])) := by
  have := ix_sh (c := c) h
  rwa [Int.toNat_of_nonneg h0] at this
theorem ix_rowI {c : Bool} {r : List Int} {i : Int} (h0 : 0 ≤ i) (h : i.toNat < r.length) : ixG (.tup c (r.map .int)) (.int i) = some (.int (r.getD i.toNat 0)) := by
  have := ix_row (c := c) h
  rwa [Int.toNat_of_nonneg h0] at this
end DR
/-! DR: data compared; pairs of ints. -/
namespace DR
open PySem
/-- data of at most n deep -/
def dOk (n : Nat) (p : PV) : Prop := ∃ d, toD p = some d ∧ d.canLay0 = true ∧ d.depth ≤ n
def dsOk (n : Nat) (ps : List PV) : Prop := ∃ ds, toDs ps = some ds ∧ PyData.canLayAll0 ds = true ∧ PyData.depthAll ds ≤ n
theorem dOk_int (n : Nat) (i : Int) : dOk n (.int i) := ⟨.int i, rfl, by simp [PyData.canLay0], by simp [PyData.depth]⟩
theorem dOk_bl (n : Nat) (i : Bool) : dOk n (.bl i) := ⟨.bool i, rfl, by simp [PyData.canLay0], by simp [PyData.depth]⟩
theorem dOk_non (n : Nat) : dOk n .non := ⟨.none, rfl, by simp [PyData.canLay0], by simp [PyData.depth]⟩
theorem dsOk_all {n : Nat} : ∀ {ps : List PV}, (∀ p ∈ ps, dOk n p) → dsOk n ps
  | [], _ => ⟨[], rfl, by simp [PyData.canLayAll0], by simp [PyData.depthAll]⟩
  | p :: ps, h => by
    obtain ⟨d, h1, h2, h3⟩ := h p List.mem_cons_self
    obtain ⟨ds, g1, g2, g3⟩ := dsOk_all fun q hq => h q (List.mem_cons_of_mem _ hq)
    exact ⟨d :: ds, by simp [toDs, h1, g1], by simp [PyData.canLayAll0, h2, g2], by simp [PyData.depthAll]; omega⟩
theorem dOk_tup {n : Nat} {c : Bool} {ps : List PV} (h : ∀ p ∈ ps, dOk n p) : dOk (n + 1) (.tup c ps) := by
  obtain ⟨ds, h1, h2, h3⟩ := dsOk_all h
  exact ⟨.tuple ds, by simp [toD, h1], by simp [PyData.canLay0, h2], by simp [PyData.depth]; omega⟩
theorem dOk_lst {n : Nat} {ps : List PV} (h : ∀ p ∈ ps, dOk n p) : dOk (n + 1) (.lst ps) := by
  obtain ⟨ds, h1, h2, h3⟩ := dsOk_all h
  exact ⟨.list ds, by simp [toD, h1], by simp [PyData.canLay0, h2], by simp [PyData.depth]; omega⟩
theorem dOk.ok {n : Nat} {p : PV} (h : dOk n p) (hn : n ≤ 64) : okD p = true := by
  obtain ⟨d, h1, h2, h3⟩ := h
  simp [okD, h1, SeqAt.shaped, h2]
  omega
theorem eqD_self {p : PV} (h : okD p = true) : eqD p p = true := by
  obtain ⟨d, h1, h2⟩ := okD_data h
  unfold eqD
  rw [h1]
  exact PySem.SeqAt.eqv_refl d (SeqAt.canLay_of_shaped h2)
theorem eqG_self {p : PV} (n : Bool) (h : okD p = true) : eqG n p p = some (.bl (!n)) := by
  unfold eqG
  rw [h, eqD_self h]
  cases n <;> rfl
/-- pairs of ints -/
abbrev pairP (x : Int × Int) : PV := .tup false [.int x.1, .int x.2]
theorem dOk_pair {n : Nat} (x : Int × Int) : dOk (n + 1) (pairP x) := dOk_tup fun p hp => by
  simp only [List.mem_cons, List.not_mem_nil, or_false] at hp
  rcases hp with rfl | rfl <;> exact dOk_int _ _
theorem okD_pairs (l : List (Int × Int)) : okD (.lst (l.map pairP)) = true := (dOk_lst (n := 1) fun p hp => by
  obtain ⟨x, _, rfl⟩ := List.mem_map.mp hp
  exact dOk_pair x).ok (by decide)
theorem okD_pair (x : Int × Int) : okD (pairP x) = true := (dOk_pair (n := 0) x).ok (by decide)
theorem eqv_pair (x y : Int × Int) : PyData.eqv (.tuple [.int x.1, .int x.2]) (.tuple [.int y.1, .int y.2]) = decide (x = y) := by
  obtain ⟨a, b⟩ := x
  obtain ⟨c, d⟩ := y
  simp only [PyData.eqv, PyData.eqvAll, Prod.mk.injEq]
  by_cases h : a = c <;> by_cases g : b = d <;> simp [h, g]
theorem eqG_pair (n : Bool) (x y : Int × Int) : eqG n (pairP x) (pairP y) = some (.bl (n != decide (x = y))) := by
  have e : eqD (pairP x) (pairP y) = decide (x = y) := eqv_pair x y
  unfold eqG
  rw [okD_pair, okD_pair, e]
  rfl
theorem toDs_pairs : ∀ l : List (Int × Int), toDs (l.map pairP) = some (l.map fun x => PyData.tuple [.int x.1, .int x.2])
  | [] => rfl
  | x :: l => by simp [toDs, toD, toDs_pairs l]
theorem any_pair (x : Int × Int) (l : List (Int × Int)) : ((l.map fun x => PyData.tuple [.int x.1, .int x.2]).any fun z => PyData.eqv z (.tuple [.int x.1, .int x.2])) = decide (x ∈ l) := by
  induction l with
  | nil => simp
  | cons y l ih =>
    simp only [List.map_cons, List.any_cons, ih, eqv_pair, List.mem_cons]
    by_cases h : y = x
    · simp [h]
    · simp [h, Ne.symm h]
theorem memD_pairs (x : Int × Int) (l : List (Int × Int)) : memD (pairP x) (l.map pairP) = some (decide (x ∈ l)) := by
  have h1 := okD_pairs l
  have h2 := okD_pair x
  have h3 : okD (.tup false (l.map pairP)) = true := (dOk_tup (n := 1) fun p hp => by
    obtain ⟨x, _, rfl⟩ := List.mem_map.mp hp
    exact dOk_pair x).ok (by decide)
  simp only [okD, toD, toDs_pairs, Option.map_some] at h1 h2 h3
  unfold memD
  rw [toDs_pairs]
  have e : toD (pairP x) = some (.tuple [.int x.1, .int x.2]) := rfl
  rw [e]
  simp only
  rw [h1, h3, show SeqAt.shaped (.tuple [.int x.1, .int x.2]) = true from h2, any_pair]
  rfl
theorem inG_pairs (n : Bool) (x : Int × Int) (l : List (Int × Int)) : inG n (pairP x) (.lst (l.map pairP)) = some (.bl (n != decide (x ∈ l))) := by
  show (memD (pairP x) (l.map pairP)).map _ = _
  rw [memD_pairs]
  rfl
/-- largest, least -/
theorem maxL_some {xs : List Int} (h : xs ≠ []) : ∃ m, maxL xs = some m ∧ m ∈ xs ∧ ∀ y ∈ xs, y ≤ m := by
  cases xs with
  | nil => exact absurd rfl h
  | cons a l => exact ⟨_, rfl, maxL_spec rfl⟩
theorem minL_some {xs : List Int} (h : xs ≠ []) : ∃ m, minL xs = some m ∧ m ∈ xs ∧ ∀ y ∈ xs, m ≤ y := by
  cases xs with
  | nil => exact absurd rfl h
  | cons a l => exact ⟨_, rfl, minL_spec rfl⟩
theorem ix_last {c : Bool} {ps : List PV} (h : 0 < ps.length) : ixG (.tup c ps) (.int (-1)) = ps[ps.length - 1]? := by
  show L2.atI _ _ = _
  unfold L2.atI L2.ixN
  have h1 : ¬ (0 : Int) ≤ -1 := by omega
  have h2 : -(ps.length : Int) ≤ -1 := by omega
  simp only [h1, if_false, h2, if_true]
  have h3 : (-1 + (ps.length : Int)).toNat = ps.length - 1 := by omega
  rw [h3]
  rfl
theorem ix_lastL {ps : List PV} (h : 0 < ps.length) : ixG (.lst ps) (.int (-1)) = ps[ps.length - 1]? := ix_last (c := true) h
/-- the places of a board, row by row -/
def grid (h w : Nat) (P : Nat → Nat → Bool) : List (Int × Int) := (List.range h).flatMap fun a => ((List.range w).filter fun b => P a b).map fun b : Nat => ((a : Int), (b : Int))
def toI : PV → Int
  | .int i => i
  | _ => 0
theorem grid_eq (h w : Nat) (P : Nat → Nat → Bool) : ((rangeP 0 h).flatMap fun p => ((rangeP 0 w).filter fun q => P (toI p).toNat (toI q).toNat).map fun q => PV.tup false [p, q]) = (grid h w P).map pairP := by
  unfold grid
  rw [rangeP0, rangeP0, List.flatMap_map, List.map_flatMap]
  congr 1
  funext a
  rw [List.map_map, List.filter_map, List.map_map]
  simp only [toI, Int.toNat_natCast, Function.comp_def]
theorem mem_grid {h w : Nat} {P : Nat → Nat → Bool} {x : Int × Int} : x ∈ grid h w P ↔ ∃ a b : Nat, a < h ∧ b < w ∧ P a b = true ∧ x = ((a : Int), (b : Int)) := by
  unfold grid
  simp only [List.mem_flatMap, List.mem_range, List.mem_map, List.mem_filter]
  constructor
  · rintro ⟨a, ha, b, ⟨hb, hp⟩, rfl⟩
    exact ⟨a, b, ha, hb, hp, rfl⟩
  · rintro ⟨a, b, ha, hb, hp, rfl⟩
    exact ⟨a, ha, b, ⟨hb, hp⟩, rfl⟩
theorem grid_filter (h w : Nat) (P Q : Nat → Nat → Bool) : (grid h w P).filter (fun x => Q x.1.toNat x.2.toNat) = grid h w fun a b => P a b && Q a b := by
  unfold grid
  rw [List.filter_flatMap]
  congr 1
  funext a
  rw [List.filter_map, List.filter_filter]
  simp only [Function.comp_def, Int.toNat_natCast]
  congr 1
  congr 1
  funext b
  exact Bool.and_comm _ _
theorem grid_len (h w : Nat) (P : Nat → Nat → Bool) : (grid h w P).length ≤ h * w := by
  unfold grid
  rw [List.length_flatMap]
  have : ∀ n : Nat, ((List.range n).map fun a => (((List.range w).filter fun b => P a b).map fun b : Nat => ((a : Int), (b : Int))).length).sum ≤ n * w := fun n => by
    induction n with
    | zero => simp
    | succ n ih =>
      rw [List.range_succ, List.map_append, List.sum_append, Nat.succ_mul]
      have := List.length_filter_le (fun b => P n b) (List.range w)
      simp only [List.map_cons, List.map_nil, List.sum_cons, List.sum_nil, List.length_map, Nat.add_zero] at *
      rw [List.length_range] at this
      omega
  exact this h
theorem addI_ap (i j : Int) : addI (.int i) (.int j) = some (.int (i + j)) := (rfl)
end DR
/-! DR: a slot that is let go behind a statement. -/
namespace DR
open PySem PySem.Spec PyProof.Rows L2
def demSl (s : Sl) : Sl := match s with
  | .own p => .val p
  | s => s
def kDem (i : Nat) (fl : Fl) (s : DS) : Re Fl := match fl with
  | .nx => .ok .nx ⟨s.e.set i (demSl (s.e.getD i .no)), s.t⟩
  | o => .ok o s
def thenD (u : SM) (i : Nat) : SM := fun s => (u s).bind (kDem i)
theorem set_self {e : DE} {i : Nat} (h : ∀ p, e[i]? ≠ some (.own p)) : e.set i (demSl (e.getD i .no)) = e := by
  by_cases hi : i < e.length
  · rw [List.getD_eq_getElem?_getD, List.getElem?_eq_getElem hi]
    have k : demSl e[i] = e[i] := by
      cases g : e[i] with
      | own p => exact absurd (by rw [List.getElem?_eq_getElem hi, g]) (h p)
      | no => rfl
      | val p => rfl
    show e.set i (demSl e[i]) = e
    rw [k, List.set_getElem_self]
  · rw [List.set_eq_of_length_le (by omega)]
theorem ps_dem {X : Cx} {Z : WX} {st : Stmt} {f : SM} (i : Nat) (h : PSX X Z st f) : PSX X Z st (thenD f i) := by
  refine ⟨PS_imp h.ps fun D σ H ⟨W, s, R, g⟩ => ⟨W, s, R, ?_⟩⟩
  unfold thenD at g
  cases hr : f s with
  | bad => rw [hr] at g; exact g
  | exc x s1 => rw [hr] at g; exact g
  | ok fl s1 =>
    rw [hr] at g
    cases fl with
    | rt p fr => exact g
    | bk => exact g
    | ct => exact g
    | nx =>
      intro σ' W' H' st' R'
      have g : ∀ σ' W' H', Step W H W' H' → RSt X.K W' H' ⟨s1.e.set i (demSl (s1.e.getD i .no)), s1.t⟩ σ' → D.nx σ' H' := g
      by_cases ho : ∃ p, s1.e[i]? = some (.own p)
      · obtain ⟨p, ho⟩ := ho
        obtain ⟨v, W1, _, st1, R1, _⟩ := R'.demote ho
        refine g σ' W1 H' (st'.trans st1) ?_
        have e : demSl (s1.e.getD i .no) = .val p := by
          rw [List.getD_eq_getElem?_getD, ho]; rfl
        rw [e]
        exact R1
      · refine g σ' W' H' st' ?_
        rw [set_self fun p hp => ho ⟨p, hp⟩]
        exact R'
theorem thenD_ap {u : SM} {i : Nat} {s : DS} : thenD u i s = (u s).bind (kDem i) := (rfl)
theorem kDem_nx {i : Nat} {e : DE} {t : DT} : kDem i .nx ⟨e, t⟩ = .ok .nx ⟨e.set i (demSl (e.getD i .no)), t⟩ := (rfl)
theorem demSl_o {p : PV} : demSl (.own p) = .val p := (rfl)
theorem demSl_v {p : PV} : demSl (.val p) = .val p := (rfl)
theorem demSl_n : demSl .no = .no := (rfl)
end DR
set_option maxHeartbeats 4000000
/-! DR: further methods and built-in functions: extend, pop, sorted, repr. -/
namespace DR
open PySem PySem.Spec PyProof.Rows L2
section
variable {X : Cx} {Z : WX} {x : Str} {pos p1 : Pos} {e : Expr} {g : EM}
/-- x.extend(list) -/
def extU (q : PV) : PV → Option (PV × PV) := fun p => match p, q with
  | .lst ps, .lst qs => if lineOk (ps.length + qs.length) then some (.lst (ps ++ qs), .non) else none
  | _, _ => none
def extE (i : Nat) (g : EM) : EM := fun s => (nameB i s).bind fun p _ => if (tyN p = some "list") then (g s).bind fun q s2 => modB i (extU q) s2 else .bad
theorem px_ext (i : Nat) {apos cpos : Pos} (hN : X.N[i]? = some x := by rfl) (hb : PX X Z e g) (hv : Vis X.env.scope x := by first | exact Or.inl rfl | exact Or.inr (Or.inl rfl) | exact Or.inr (Or.inr rfl))
    (hd : (x == ("__debug__" : Str)) = false := by decide) (hcd : (x == ("__classdict__" : Str)) = false := by decide)
    (hbase : attributeBase (.Name x p1) "extend" X.env (eval (.Name x p1) X.env) = eval (.Name x p1) X.env := by rfl)
    (hfew : ((backTo cpos (starEach [e] X.env)).all (fun x => !x.1) && (backToKw cpos (keywordEach [] X.env)).all (fun x => x.1.isSome)
      && decide ([e].length + ([] : List Keyword).length + (if ([] : List Keyword).isEmpty then 0 else 1) < 30)) = true := by rfl)
    (hline : (apos.endLine == cpos.line) = true := by rfl) (hs : starEach [e] X.env = (false, eval e X.env) :: starEach [] X.env := by rfl) :
    PX X Z (.Call (.Attribute (.Name x p1) "extend" apos) [e] [] cpos) (extE i g) := by
  refine ⟨PE_imp (L2.pe_bm PySem.F.plainAttrs_list PySem.F.slot_list_extend PySem.F.type_list_extend mt_extend (pe_var hN hv hd hcd) (L2.pa_cons hb.pe L2.pa_nil hs) hbase hfew hline hs rfl) fun σ H Q ⟨W, s, R, h⟩ => ?_⟩
  unfold extE at h
  cases e0 : nameB i s with
  | bad => rw [e0] at h; exact h.elim
  | exc x s1 => exact (nameB_no e0).elim
  | ok p0 s0 =>
    rw [e0] at h
    simp only [Re.bind] at h
    obtain ⟨rfl, v, h1, hb0⟩ := nameB_bv R e0
    by_cases ht : tyN p0 = some "list"
    · rw [if_pos ht] at h
      obtain ⟨ps0, rfl⟩ : ∃ ps, p0 = .lst ps := by
        cases p0 <;> simp [tyN] at ht
        exact ⟨_, rfl⟩
      obtain ⟨a0, vs0, rfl, g1, g2⟩ := bv_lst hb0
      refine ⟨_, h1, .inl ⟨rfl, vs0, SqL.of g1⟩, W, s0, R, Post.bind h fun q s2 y W2 H2 _ st2 R2 ry k => ?_⟩
      cases em : modB i (extU q) s2 with
      | bad => rw [em] at k; exact k.elim
      | exc x s1 => exact (modB_no em).elim
      | ok r s3 =>
        rw [em] at k
        obtain ⟨p, p', a, u1, u2, u3, u4, u5⟩ := modB_ok R2 em
        rw [h1] at u2
        cases u2
        cases p with
        | lst ps =>
          cases q with
          | lst qs =>
            obtain ⟨vs, c1, c2⟩ := con_lst u4
            obtain ⟨b, ws, rfl, b1, b2, b3⟩ := rv_lst_inv ry
            simp only [extU] at u1
            split at u1
            · rename_i hz
              cases u1
              obtain ⟨st3, R3⟩ := u5 (.lst (vs ++ ws)) ⟨_, upd_same, rvs_upd u3 (c2.app b3)⟩
              exact ⟨a0, b, vs, ws, rfl, rfl, c1, b2, by rw [c2.len, b3.len]; exact of_decide_eq_true hz, k _ W2 _ st3 R3 rE_non⟩
            · cases u1
          | _ => simp [extU] at u1
        | _ => simp [extU] at u1
    · rw [if_neg ht] at h
      exact h.elim
/-- x.pop() -/
def popU : PV → Option (PV × PV) := fun p => match p with
  | .lst ps => (ps[ps.length - 1]?).map fun q => (.lst ps.dropLast, q)
  | _ => none
def popE (i : Nat) : EM := fun s => (nameB i s).bind fun p _ => if (tyN p = some "list") then modB i popU s else .bad
theorem Reps.dropLast {K : PySem.W.Frag} {cs : List Addr} {H : Hp} {ps : List PV} {vs : List V} (r : Reps K cs H ps vs) : Reps K cs H ps.dropLast vs.dropLast := by
  rw [List.dropLast_eq_take, List.dropLast_eq_take, r.len]
  exact r.take _
theorem px_pop (i : Nat) {apos cpos : Pos} (hN : X.N[i]? = some x := by rfl) (hv : Vis X.env.scope x := by first | exact Or.inl rfl | exact Or.inr (Or.inl rfl) | exact Or.inr (Or.inr rfl))
    (hd : (x == ("__debug__" : Str)) = false := by decide) (hcd : (x == ("__classdict__" : Str)) = false := by decide)
    (hbase : attributeBase (.Name x p1) "pop" X.env (eval (.Name x p1) X.env) = eval (.Name x p1) X.env := by rfl)
    (hline : (apos.endLine == cpos.line) = true := by rfl) : PX X Z (.Call (.Attribute (.Name x p1) "pop" apos) [] [] cpos) (popE i) := by
  refine ⟨PE_imp (L2.pe_bm0 PySem.F.plainAttrs_list PySem.F.slot_list_pop PySem.F.type_list_pop mt_pop (pe_var hN hv hd hcd) hbase hline) fun σ H Q ⟨W, s, R, h⟩ => ?_⟩
  unfold popE at h
  cases e0 : nameB i s with
  | bad => rw [e0] at h; exact h.elim
  | exc x s1 => exact (nameB_no e0).elim
  | ok p0 s0 =>
    rw [e0] at h
    simp only [Re.bind] at h
    obtain ⟨rfl, v, h1, hb0⟩ := nameB_bv R e0
    by_cases ht : tyN p0 = some "list"
    · rw [if_pos ht] at h
      obtain ⟨ps0, rfl⟩ : ∃ ps, p0 = .lst ps := by
        cases p0 <;> simp [tyN] at ht
        exact ⟨_, rfl⟩
      obtain ⟨a0, vs0, rfl, g1, g2⟩ := bv_lst hb0
      refine ⟨_, h1, .inl ⟨rfl, vs0, SqL.of g1⟩, ?_⟩
      cases em : modB i popU s0 with
      | bad => rw [em] at h; exact h.elim
      | exc x s1 => exact (modB_no em).elim
      | ok r s3 =>
        rw [em] at h
        obtain ⟨p, p', a, u1, u2, u3, u4, u5⟩ := modB_ok R em
        rw [h1] at u2
        cases u2
        cases p with
        | lst ps =>
          obtain ⟨vs, c1, c2⟩ := con_lst u4
          obtain ⟨q, q1, q2⟩ := Option.map_eq_some_iff.mp u1
          cases q2
          obtain ⟨w, w1, w2⟩ := c2.get q1
          obtain ⟨st3, R3⟩ := u5 (.lst vs.dropLast) ⟨_, upd_same, rvs_upd u3 c2.dropLast⟩
          exact ⟨a0, vs, w, rfl, rfl, c1, by rw [c2.len]; exact w1, h _ W _ st3 R3 (rv_upd u3 w2)⟩
        | _ => simp [popU] at u1
    · rw [if_neg ht] at h
      exact h.elim
/-! ### repr -/
theorem call_repr_bn : CallR X (.builtin "repr") (fun xs H Q => (∃ b, xs = [.bl b] ∧ Q (.str (if b = true then "True" else "False")) H) ∨ (xs = [.non] ∧ Q (.str "None") H)) := by
  intro pins s σ H xs us Q I r h
  rcases h with ⟨b, rfl, q⟩ | ⟨rfl, q⟩
  · obtain ⟨u, rfl, hu⟩ := vals1 r
    cases hu
    refine PySem.P.repr_of_bool ⟨.str _, H, I.tok _, ⟨_, rfl⟩, ?_⟩
    cases b <;> exact q
  · obtain ⟨u, rfl, hu⟩ := vals1 r
    cases hu
    exact PySem.P.repr_of_none ⟨.str _, H, I.tok _, ⟨_, rfl⟩, q⟩
def reprG : G1 := fun p => match p with
  | .bl b => some (.str (if b = true then "True" else "False"))
  | .non => some (.str "None")
  | _ => none
theorem u_repr : Un1 X (.builtin "repr") (g1 reprG) := Un1.plain call_repr_bn fun W H p x res Q rx e k => by
  cases p with
  | bl b =>
    cases bv_bl rx
    cases e
    exact .inl ⟨b, rfl, k _ rv_str⟩
  | non =>
    rcases rx with rx | ⟨a, _, c⟩
    · unfold RV Rep at rx
      cases rx
      cases e
      exact .inr ⟨rfl, k _ rv_str⟩
    · exact c.elim
  | _ => simp [reprG] at e
/-! ### sorted -/
/-- sorted(xs): what reads as alike data -/
def rSortedD (K : PySem.W.Frag) : List V → Hp → VK → Prop := fun vs H Q => ∃ (a : Addr) (bs : List (V × PyData)), vs = [V.ref a] ∧ SqL K H a (bs.map (·.1)) ∧ (∀ b ∈ bs, Dp K H b.1 b.2) ∧ PySem.W.AllAlike (bs.map (·.2)) ∧ PySem.W.Sortable (bs.map (·.2)) ∧ (∀ b ∈ bs, b.2.depth ≤ 62) ∧
  ∀ (p : Addr), H p = none → Q (.ref p) (upd H p (.lst ((bs.mergeSort (PySem.W.dataLe false fun b => b.2)).map (·.1))))
theorem each_vals {vs : List V} {us : List Value} {β : Type} {bs : List β} {val : β → V} (r : Vals (bs.map val) us) : PySem.W.EachIs (fun u b => RelV (val b) u) us bs := by
  induction bs generalizing us with
  | nil =>
    cases r
    exact .nil
  | cons b bs ih =>
    cases r with
    | cons h1 h2 => exact .cons h1 (ih h2)
theorem vals_each {us : List Value} {β : Type} {bs : List β} {val : β → V} (r : PySem.W.EachIs (fun u b => RelV (val b) u) us bs) : Vals (bs.map val) us := by
  induction r with
  | nil => exact .nil
  | cons h1 h2 ih => exact .cons h1 ih
theorem each_and {α β : Type} {R S : α → β → Prop} : ∀ {us : List α} {bs : List β}, PySem.W.EachIs R us bs → (∀ u b, b ∈ bs → R u b → S u b) → PySem.W.EachIs S us bs
  | _, _, .nil, _ => .nil
  | _, _, .cons h t, k => .cons (k _ _ List.mem_cons_self h) (each_and t fun u b hb => k u b (List.mem_cons_of_mem _ hb))
theorem cr_sortedD (hu : X.A.units + 65 < cLine) : CallR X (.builtin "sorted") (rSortedD X.K) := by
  intro pins s σ H vs us Q I r h
  obtain ⟨a, bs, rfl, hs, hd, hal, hk, hdep, q⟩ := h
  obtain ⟨its, rv, hl, hz⟩ := I.list hs
  rw [Vals.ref1 r]
  have hz' : bs.length ≤ sizeLine := by rw [List.length_map] at hz; exact hz
  refine PySem.W.sorted_data (R := fun u b => RelV b.1 u) (enc := fun b => b.2) hl.isList (each_vals (vs := []) rv) (each_and (each_vals (vs := []) rv) fun u b hb hr => Dp.reads I b.2 b.1 u (hd b hb) hr) hal hk hz' (fun b hb => ?_) fun out ho he => ?_
  · have := hdep b hb
    omega
  · obtain ⟨ep, he'⟩ := PyProof.Rows.sortedAll_at s.heap its out.toArray
    have hlen : ((bs.mergeSort (PySem.W.dataLe false fun b => b.2)).map (·.1)).length ≤ sizeLine := by
      rw [List.length_map, List.length_mergeSort]
      exact hz'
    exact ⟨.ref _, upd H (s.heap.objs.size + 1) (.lst ((bs.mergeSort (PySem.W.dataLe false fun b => b.2)).map (·.1))), I.laid (t' := s.toks) (fun _ _ => PyProof.Rows.sortedAll_old) (Nat.le_succ _) ⟨hlen, out, ep, vals_each he, he'⟩, rfl, q _ (I.hok.fresh (Nat.le_succ _))⟩
def datP (p : PV) : PyData := (toD p).getD .none
def leP (p q : PV) : Bool := PySem.W.dataLe false (fun p => datP p) p q
def tupD (d : PyData) : Bool := match d with
  | .tuple (_ :: _) => true
  | _ => false
def othD (d : PyData) : Bool := match d with
  | .none => false
  | .tuple _ => false
  | _ => true
def okSort (ps : List PV) : Bool := ps.all (fun p => (toD p).isSome && decide ((datP p).depth ≤ 62)) && ps.all (fun p => ps.all fun q => PySem.W.alike (datP p) (datP q)) && (ps.all (fun p => tupD (datP p)) || ps.all (fun p => othD (datP p)))
def sortG : O1 := fun p => match p with
  | .lst ps => if okSort ps then some (.lst (ps.mergeSort leP), true) else none
  | _ => none
theorem reps_zip {K : PySem.W.Frag} {cs : List Addr} {H : Hp} : ∀ {ps : List PV} {vs : List V}, Reps K cs H ps vs → ∃ bs : List (V × PV), bs.map (·.1) = vs ∧ bs.map (·.2) = ps ∧ ∀ b ∈ bs, Rep K cs H b.2 b.1
  | [], vs, r => by
    unfold Reps at r
    subst r
    exact ⟨[], rfl, rfl, fun b hb => nomatch hb⟩
  | p :: ps, vs, r => by
    unfold Reps at r
    obtain ⟨v, vs', rfl, h1, h2⟩ := r
    obtain ⟨bs, e1, e2, h⟩ := reps_zip h2
    exact ⟨(v, p) :: bs, by simp [e1], by simp [e2], fun b hb => by
      rcases List.mem_cons.mp hb with rfl | hb
      · exact h1
      · exact h b hb⟩
theorem zip_reps {K : PySem.W.Frag} {cs : List Addr} {H : Hp} : ∀ {bs : List (V × PV)}, (∀ b ∈ bs, Rep K cs H b.2 b.1) → Reps K cs H (bs.map (·.2)) (bs.map (·.1))
  | [], _ => reps_nil
  | b :: bs, h => reps_cons (h b List.mem_cons_self) (zip_reps fun b hb => h b (List.mem_cons_of_mem _ hb))
theorem u_sorted (hu : X.A.units + 65 < cLine) : Un1 X (.builtin "sorted") sortG := fun Z => by
  refine ⟨_, cr_sortedD hu, fun W H s σ p x res Q R rx e po => ?_⟩
  cases p with
  | lst ps =>
    simp only [sortG] at e
    split at e
    · rename_i hok
      cases e
      obtain ⟨a, vs, rfl, h1, h2⟩ := bv_lst rx
      obtain ⟨zs, e1, e2, h3⟩ := reps_zip h2
      subst e1
      subst e2
      unfold okSort at hok
      rw [Bool.and_eq_true, Bool.and_eq_true, Bool.or_eq_true] at hok
      obtain ⟨⟨k1, k2⟩, k3⟩ := hok
      have hD : ∀ z ∈ zs, toD z.2 = some (datP z.2) ∧ (datP z.2).depth ≤ 62 := fun z hz => by
        have := List.all_eq_true.mp k1 z.2 (List.mem_map.mpr ⟨z, hz, rfl⟩)
        rw [Bool.and_eq_true, decide_eq_true_eq] at this
        obtain ⟨d, hd⟩ := Option.isSome_iff_exists.mp this.1
        exact ⟨by unfold datP; rw [hd]; rfl, this.2⟩
      have sub : Same (W.m H) H := msk_sub _ _
      refine ⟨a, zs.map fun z => (z.1, datP z.2), rfl, ?_, ?_, ?_, ?_, ?_, fun l hl => ?_⟩
      · rw [List.map_map]
        exact SqL.of h1
      · intro b hb
        obtain ⟨z, hz, rfl⟩ := List.mem_map.mp hb
        exact rep_dp sub z.2 z.1 _ (h3 z hz) (hD z hz).1
      · intro d hd d' hd'
        rw [List.map_map] at hd hd'
        obtain ⟨z, hz, rfl⟩ := List.mem_map.mp hd
        obtain ⟨z', hz', rfl⟩ := List.mem_map.mp hd'
        exact List.all_eq_true.mp (List.all_eq_true.mp k2 z.2 (List.mem_map.mpr ⟨z, hz, rfl⟩)) z'.2 (List.mem_map.mpr ⟨z', hz', rfl⟩)
      · rw [List.map_map]
        rcases k3 with k3 | k3
        · refine .inl fun d hd => ?_
          obtain ⟨z, hz, rfl⟩ := List.mem_map.mp hd
          have := List.all_eq_true.mp k3 z.2 (List.mem_map.mpr ⟨z, hz, rfl⟩)
          show ∃ x r, datP z.2 = _
          cases hd2 : datP z.2 with
          | tuple ds =>
            cases ds with
            | nil => rw [hd2] at this; cases this
            | cons y r => exact ⟨y, r, rfl⟩
          | _ => rw [hd2] at this; cases this
        · refine .inr fun d hd => ?_
          obtain ⟨z, hz, rfl⟩ := List.mem_map.mp hd
          have := List.all_eq_true.mp k3 z.2 (List.mem_map.mpr ⟨z, hz, rfl⟩)
          show datP z.2 ≠ _ ∧ ∀ xs, datP z.2 ≠ _
          refine ⟨fun h => ?_, fun xs h => ?_⟩ <;> (rw [h] at this; cases this)
      · intro b hb
        obtain ⟨z, hz, rfl⟩ := List.mem_map.mp hb
        exact (hD z hz).2
      · have m1 : (zs.map fun z => (z.1, datP z.2)).mergeSort (PySem.W.dataLe false fun b => b.2) = (zs.mergeSort fun z z' => leP z.2 z'.2).map fun z => (z.1, datP z.2) := (List.map_mergeSort (f := fun z : V × PV => (z.1, datP z.2)) (r := fun z z' => leP z.2 z'.2) (s := PySem.W.dataLe false fun b : V × PyData => b.2) fun a _ b _ => rfl).symm
        have m2 : (zs.map (·.2)).mergeSort leP = (zs.mergeSort fun z z' => leP z.2 z'.2).map (·.2) := (List.map_mergeSort (f := fun z : V × PV => z.2) (r := fun z z' => leP z.2 z'.2) (s := leP) fun a _ b _ => rfl).symm
        rw [m2] at po
        rw [m1, List.map_map]
        refine Post.newO R hl po ⟨_, upd_same, (Step.allocO hl (R.nP hl)).rvs (zip_reps fun b hb => h3 b ?_)⟩
        exact (List.mergeSort_perm _ _).mem_iff.mp hb
    · cases e
  | _ => simp [sortG] at e
end
end DR
set_option maxHeartbeats 4000000
/-! DR: enumerate over a tuple. -/
namespace DR
open PySem PySem.Spec PyProof.Rows L2
section
theorem newB1 {v : Value} {o : Obj} {HP : Heap → Prop} (B : Begins v o HP) :
    Meets (Builtin.«enumerate.__new__» ⟨[.type "enumerate", v], []⟩) (fun _ R s => HP s.heap ∧ R (.ok (.ret (.ref (s.heap.push o).objs.size)))
      { s with heap := (s.heap.push o).push { cls := .type "enumerate", data := .fields #[.none, .bool false, .ref s.heap.objs.size, rawInt 0, .none, .none] } }) :=
  .of_wp fun prog w A R s h => by
    obtain ⟨hp, g, d, tk, os⟩ := s
    obtain ⟨h1, h⟩ := h
    have sub := sub_enumerate
    have go : ∀ {A' : Around} {E : Value → Shared → Prop} {Q : Value → Shared → Prop}, Q (.ref hp.objs.size) ⟨hp.push o, g, d, tk, os⟩ → wpAny (model prog w) A' (pyIter v) Q E ⟨hp, g, d, tk, os⟩ := fun q => B.iter prog w _ _ ⟨hp, g, d, tk, os⟩ _ h1 q
    wp_walk using go
    refine wpAny_stack_any fun st => wpAny_pure ?_
    split
    · rename_i c _ _ _ _ _
      cases (c == Value.type "enumerate") <;> (wp_walk using go; exact ⟨_, rfl, h⟩)
    · wp_walk using go; exact ⟨_, rfl, h⟩
variable {prog : Program} {w : World} {A : Around} {E : Value → Shared → Prop} {s : Shared}
theorem call_enumB {v : Value} {o : Obj} {HP : Heap → Prop} {Q : Value → Shared → Prop} (B : Begins v o HP) (h1 : HP s.heap)
    (h : ∀ h', IsEnum h' (s.heap.objs.size + 1) s.heap.objs.size 0 .none → h'.get? s.heap.objs.size = some o → h'.objs.size = s.heap.objs.size + 2 → (∀ b u, s.heap.get? b = some u → h'.get? b = some u) → Q (.ref (s.heap.objs.size + 1)) { s with heap := h' }) :
    wpAny (model prog w) A (call (.type "enumerate") [v]) Q E s := by
  refine callType_new F.called_enumerate (by decide) (F.typeCall_enumerate_1 _) (F.newCall_enumerate_1 _) (fun obj => F.args_object_init_2 obj _) F.entry_enumerate_new (newB1 B) ⟨h1, ?_⟩
  have z : (s.heap.push o).objs.size = s.heap.objs.size + 1 := Heap.size_push ..
  rw [z]
  have e : IsEnum ((s.heap.push o).push { cls := .type "enumerate", data := .fields #[.none, .bool false, .ref s.heap.objs.size, rawInt 0, .none, .none] }) (s.heap.objs.size + 1) s.heap.objs.size 0 .none := by
    have k := Heap.get?_push_size (s.heap.push o) (o := { cls := .type "enumerate", data := .fields #[.none, .bool false, .ref s.heap.objs.size, rawInt 0, .none, .none] }) rfl
    rw [z] at k; exact k
  exact ⟨⟨_, e, rfl⟩, h _ e (Heap.get?_push_of_some _ (Heap.get?_push_size _ B.free)) (by rw [Heap.size_push, z]) fun b u x => Heap.get?_push_of_some _ (Heap.get?_push_of_some _ x)⟩
end
/-- the tuple at a as it stands, the items in new pairs -/
def IteT (K : PySem.W.Frag) (a : Addr) : It :=
  ⟨fun i H => ∃ (xs : List V) (x : V), SqT K H a xs ∧ xs[i]? = some x, fun i H v H' => ∃ T x, v = .ref T ∧ H T = none ∧ H' = upd H T (.tup [.int (i : Nat), x]) ∧ ∀ xs, SqT K H a xs → xs[i]? = some x,
    fun i H => ∃ xs : List V, SqT K H a xs ∧ xs.length = i⟩
theorem turn_enumT {P : Program} {w : World} {K : PySem.W.Frag} {elts : List Expr} {kk : Nat} {tpos : Pos} (a e it : Addr) :
    Turn P w K (.Tuple elts kk tpos) (IteT K a) [e, it] e (fun i h => (∃ old, IsEnum h e it ((i : Nat) : Int) old) ∧ h.IsTupleIter it a i ∧ e ≠ it ∧ a ≠ it ∧ a ≠ e) where
  mem := by simp
  obj := fun i h st b hb => by
    obtain ⟨⟨old, he⟩, ⟨o, ho, hc, hd⟩, _⟩ := st
    rcases (show b = e ∨ b = it by simpa using hb) with z | z <;> rw [z]
    · exact ⟨_, he, fun v q => nomatch q⟩
    · exact ⟨o, ho, fun v q => by rw [hd] at q; cases q⟩
  keep := fun i h h' ⟨⟨old, he⟩, hi, hne⟩ k => ⟨⟨old, k e (by simp) _ he⟩, hi.at fun o q => k it (by simp) o q, hne⟩
  item := by
    intro X hP hw hK hc i pins s σ H E I hf ⟨⟨old, he⟩, hit, hne, hai, hae⟩ ⟨xs, x, hq, hx⟩
    subst hP hw hK
    obtain ⟨its, rv, p, hz⟩ := I.tuple hq
    obtain ⟨u, hu, ru⟩ := rv.get hx
    have hel : e < s.heap.objs.size := Heap.lt_size he
    have hil : it < s.heap.objs.size := by obtain ⟨_, q, _⟩ := hit; exact Heap.lt_size q
    have hlt : i < its.toArray.size := by
      rw [List.size_toArray]
      exact (List.getElem?_eq_some_iff.mp hu).1
    refine wpAny_pyNext_enum_itemD (Draws.tuple (A := X.A.in1) (by exact I.ok.hd hc) it a hai its.toArray) he ⟨hit, p⟩ hlt hne (by simp [hne, Ne.symm hae]) fun y h' tk hy ho hst hT hsz hk => ?_
    obtain rfl : y = u := by
      have hy : its[i]? = some y := by simpa using hy
      rw [hu] at hy
      exact (Option.some.inj hy).symm
    refine ⟨_, rfl, wpAny_letOwnedTupleGo_enum (s := { s with heap := h', toks := tk + 1 }) ho fun h'' he' sb => ?_⟩
    have hT2 : h''.get? s.heap.objs.size = some { cls := .type "tuple", data := .seq #[.int i tk, y] } := (sb.2 _ (Nat.ne_of_gt hel)).trans hT
    have new : ObjOk X.prog X.w (upd H s.heap.objs.size (.tup [.int (i : Nat), x])) h'' s.heap.objs.size (.tup [.int (i : Nat), x]) := ⟨by show 2 ≤ sizeLine; decide, [.int i tk, y], .cons ⟨_, rfl⟩ (.cons ru .nil), ⟨_, hT2, rfl, _, rfl⟩⟩
    have I1 : Inv X pins σ (upd H s.heap.objs.size (.tup [.int (i : Nat), x])) { s with heap := h'', toks := tk + 1 } :=
      I.turnedNew (ch := [e, it]) (fun b ob hb q => (sb.2 b (fun z => hb (by simp [z]))).trans (hk b ob (fun z => hb (by simp [z])) (fun z => hb (by simp [z])) q)) hf (Nat.le_refl _) new
    refine ⟨.ref s.heap.objs.size, _, I1, rfl, ⟨_, x, rfl, I.hok.fresh (Nat.le_refl _), rfl, fun ys hy => by rw [I.tuple_inj hy hq]; exact hx⟩, ⟨⟨y, ?_⟩, hst.1.at fun o q => (sb.2 it (Ne.symm hne)).trans q, hne, hai, hae⟩, fun b hb => ?_⟩
    · rw [show ((i + 1 : Nat) : Int) = (i : Int) + 1 by omega]; exact he'
    · have hb' : b < s.heap.objs.size := by
        rcases (show b = e ∨ b = it by simpa using hb) with z | z <;> rw [z]
        · exact hel
        · exact hil
      rw [upd_ne (Nat.ne_of_lt hb')]
      exact (hf b hb).1
  done := by
    intro X hP hw hK hc i pins s σ H E I hf ⟨⟨old, he⟩, hit, hne, hai, hae⟩ ⟨xs, hq, hx⟩
    subst hP hw hK
    obtain ⟨its, rv, p, hz⟩ := I.tuple hq
    obtain ⟨f0, f1, f2, f3, f4, f5⟩ := hf it (by simp)
    have hn : its.toArray.size = i := by rw [List.size_toArray, ← rv.length, hx]
    refine wpAny_pyNext_enum_endD (Draws.tuple (A := X.A.in1) (by exact I.ok.hd hc) it a hai its.toArray) he (by rw [hn]; exact ⟨hit, p⟩) fun h' eb => ⟨rfl, ?_⟩
    exact I.turned (t' := s.toks) (fun b o hb q => eb b o hb q) f0 f1 f3 f4 f5
  self := fun A i s Q E st h => let ⟨⟨_, he⟩, _⟩ := st; wpAny_pyIter_enum he h
def iEnumT (K : PySem.W.Frag) (ta : TA) : TI := fun σ H R => ta σ H fun vs H1 => ∃ a xs, vs = [.ref a] ∧ SqT K H1 a xs ∧ R (IteT K a) H1
theorem pi_enumT {X : Cx} {e : Expr} {ta : TA} {p pos tpos : Pos} {elts : List Expr} {kk : Nat} (hg : Gl X "enumerate") (hm : X.mg "enumerate" = none) (ha : PA X [e] ta) (hs : starEach [e] X.env = [(false, eval e X.env)] := by rfl) :
    PI X (.Tuple elts kk tpos) (.Call (.Name "enumerate" p) [e] [] pos) (iEnumT X.K ta) := by
  refine ⟨fun pins s σ H R I h => Call_ (ld_blt I hg hm boot_enumerate (PyProof.Rows.callWith_type1 (thn (ha.run pos pins s σ H _ I h) fun us s1 ⟨vs, H1, I1, r1, q1⟩ => ?_) hs rfl))⟩
  obtain ⟨a, xs, rfl, hq, q⟩ := q1
  obtain ⟨its, rv, p', hz⟩ := I1.tuple hq
  rw [Vals.ref1 r1]
  refine call_enumB (begins_tuple a its.toArray) p' fun h' he ho hsz hk => wpAny_pyIter_enum he ?_
  have I2 : Inv X pins σ H1 { s1 with heap := h' } := I1.kept (t' := s1.toks) hk
  have hal : a < s1.heap.objs.size := by obtain ⟨o, ho, _⟩ := p'; exact Heap.lt_size ho
  refine ⟨s1.heap.objs.size + 1, [s1.heap.objs.size + 1, s1.heap.objs.size], _, _, H1, rfl, I2, turn_enumT a (s1.heap.objs.size + 1) s1.heap.objs.size, ⟨⟨.none, he⟩, ⟨_, ho, rfl, rfl⟩, Nat.succ_ne_self _, Nat.ne_of_lt hal, Nat.ne_of_lt (Nat.lt_succ_of_lt hal)⟩, fun b hb => ?_, q⟩
  have hle : s1.heap.objs.size ≤ b := by
    rcases (show b = s1.heap.objs.size + 1 ∨ b = s1.heap.objs.size by simpa using hb) with z | z <;> rw [z]
    · exact Nat.le_add_right _ _
    · exact Nat.le_refl _
  exact I1.fpOk hle (I1.hok.fresh hle)
section
variable {K : PySem.W.Frag} {W : Wd} {H : Hp} {a : Addr} {vs : List V} {ps : List PV}
theorem goes_enumT (h : SqT K (W.m H) a vs) (r : RVs K W H ps vs) : Goes K (IteT K a) (enumP 0 ps) W H := by
  have at_ : ∀ {W1 H1}, Vw W H W1 H1 → SqT K H1 a vs := fun st => sqT_mono (msk_sub _ _) (sqT_mono st.same h)
  refine ⟨fun W1 H1 i st hi => ?_, fun W1 H1 st => ⟨vs, at_ st, by rw [enumP_len, r.len]⟩, fun W1 H1 i x H2 p s σ st hp R y => ?_⟩
  · have hi' : i < vs.length := by rw [enumP_len] at hi; rw [r.len]; exact hi
    exact ⟨vs, vs[i], at_ st, List.getElem?_eq_getElem hi'⟩
  · obtain ⟨T, z, e1, e2, e3, e4⟩ := y
    obtain ⟨q, h1, h2⟩ := enumP_get hp
    subst h2
    exact yldPair R e2 e3 e1 (by rw [Nat.zero_add]; exact rv_int) (atRep st r h1 (e4 _ (at_ st)))
end
/-- enumerate over a list or a tuple -/
def enumAI (f : EM) : IM := fun s => (f s).bind fun p s1 => match p with
  | .lst ps => .ok (enumP 0 ps) s1
  | .tup _ ps => .ok (enumP 0 ps) s1
  | _ => .bad
section
variable {X : Cx} {Z : WX} {e : Expr} {f : EM} {p pos : Pos}
theorem i_enumA {elts : List Expr} {kk : Nat} {tpos : Pos} (hg : Gl X "enumerate") (hm : X.mg "enumerate" = none) (h : PX X Z e f) (hs : starEach [e] X.env = [(false, eval e X.env)] := by rfl) : PIX X Z (.Tuple elts kk tpos) (.Call (.Name "enumerate" p) [e] [] pos) (enumAI f) := by
  have run := PI_or (L2.pi_enum (tpos := tpos) (elts := elts) (kk := kk) (p := p) (pos := pos) hg hm (pa_consX h pa_nilX hs).pa hs) (pi_enumT (tpos := tpos) (elts := elts) (kk := kk) (p := p) (pos := pos) hg hm (pa_consX h pa_nilX hs).pa hs)
  refine ⟨PI_imp run fun σ H Q ⟨W, s, R, h⟩ => ?_⟩
  unfold enumAI at h
  cases e1 : f s with
  | bad => rw [e1] at h; exact h.elim
  | exc x s1 =>
    rw [e1] at h
    exact .inl ⟨W, s, R, by unfold consA nilA; rw [e1]; exact h⟩
  | ok p s1 =>
    rw [e1] at h
    simp only [Re.bind] at h
    cases p with
    | lst ps =>
      refine .inl ⟨W, s, R, ?_⟩
      unfold consA nilA
      rw [e1]
      intro vs W1 H1 st R1 rv
      have rv : Reps X.K W1.S (W1.m H1) [.lst ps] vs := rv
      unfold Reps at rv
      obtain ⟨v, r, rfl, h1, rv⟩ := rv
      unfold Reps at rv
      subst rv
      obtain ⟨a, vs, rfl, g1, g2, g3⟩ := rv_lst_inv h1
      exact ⟨a, vs, rfl, SqL.of g2, h _ W1 H1 st R1 (goes_enum g1 g2 g3)⟩
    | tup c ps =>
      refine .inr ⟨W, s, R, ?_⟩
      unfold consA nilA
      rw [e1]
      intro vs W1 H1 st R1 rv
      have rv : Reps X.K W1.S (W1.m H1) [.tup c ps] vs := rv
      unfold Reps at rv
      obtain ⟨v, r, rfl, h1, rv⟩ := rv
      unfold Reps at rv
      subst rv
      obtain ⟨a, vs, rfl, g2, g3⟩ := rep_tup h1
      exact ⟨a, vs, rfl, sqT_mono (msk_sub _ _) g2, h _ W1 H1 st R1 (goes_enumT g2 g3)⟩
    | _ => exact h.elim
end
end DR
set_option maxHeartbeats 4000000
/-! DR: dict comprehensions, keys ints, texts, or tuples of them: the rule. -/
namespace DR
open PySem PySem.Spec PyProof.Rows L2
theorem dict_put {X : Cx} {pins : List (Addr × Obj)} {σ : L2.St} {H H' : Hp} {s : Shared} {E : Value → Shared → Prop} {D : Addr} {y v : V} {u r : Value} {Q : Unit → Shared → Prop} (hu : X.A.units + 1 < cLine) (I : Inv X pins σ H s) (g : DPut H D y v H') (ry : RelV y u) (rv : RelV v r)
    (h : ∀ s', Inv X pins σ H' s' → Q () s') : wpAny (model X.prog X.w) X.A (dictSet D u r) Q E s := by
  rcases g with ⟨kvs, k, e, ey, l, eH⟩ | ⟨kvs, k, b, e, ey, eb, l, eH⟩ <;> subst ey eH
  · exact L2.d_dictSet I e l ry rv h
  · cases (show u = Value.ref b from ry)
    obtain ⟨z, hd, xs, rel, dd⟩ := dt_of I.hok e
    have grown := length_putK kvs k v
    refine wpAny_dictSet_heap (hsz := by rw [← Paired.length rel]; exact z) (by show X.A.units < cLine; omega) (key_of I.hok eb) dd fun h' dd' hs => h _ ?_
    obtain ⟨q, es, ep, hq, h2, h3, h4, _, h5⟩ := dd'
    refine d_write I (by rw [e]; exact True.intro) hs ⟨q, hq⟩ ⟨by omega, hd, _, (rel.put k eb rv).keeps fun c ys ec => ?_, q, es, ep, hq, h2, h3, h4, h5⟩
    rw [upd_ne (ne_of ec e (fun z => nomatch z))]; exact ec
/-- {k: v for tg in it if ..}: D the new dict, at first nw -/
def tDX (nw : HO) (wi : TI) (g : TG) (tt : TT) (tk tv : TE) (vs : List Nat) : TE := fun σ H Q => wi σ H fun J H1 => ∀ D, H1 D = none → ∃ W : Nat → Nat → Hp → Prop, (∃ m, W 0 m (upd H1 D nw)) ∧ ∀ i m H, W i m H →
  (J.stop i H ∧ Q (.ref D) H) ∨ (J.go i H ∧ ∃ Nx : Hp → Prop, (∀ H', Nx H' → ∃ m', m' < m ∧ W (i + 1) m' H') ∧ ∀ x H', J.yld i H x H' → g x (wipe σ vs) H' fun σ2 H2 => wipe σ2 vs = wipe σ vs ∧ tt σ2 H2 fun b H3 =>
    if b = true then tk σ2 H3 fun y H4 => tv σ2 H4 fun z H5 => ∃ H6, DPut H5 D y z H6 ∧ Nx H6 else Nx H3)
section
variable {X : Cx}
theorem dcX {pins : List (Addr × Obj)} {s : Shared} {σ : L2.St} {H : Hp} {Q : VK} {nw : HO} (hnw : nw = .dK [] ∨ nw = .dT []) {kx vx tg iter : Expr} {ifs : List Expr} {scope : Scope} {own : List (Str × Nat)} {pos pos' : Pos} {wi : TI} {g : TG} {tt : TT} {tk tv : TE} {use : Option (Value → Sem Unit)} {Qf : Value → Shared → Prop}
    (hu : X.A.units + 1 < cLine) (hc : X.calm = true) (hN : X.N.Nodup) (I : Inv X pins σ H s) (hi : PI X tg iter wi) (ok : BlkOk X.N X.env.scope scope own) (hg : Blk X scope fun Y => PG Y tg g) (ht : Blk X scope fun Y => PTs Y ifs tt) (hk : Blk X scope fun Y => PE Y kx tk) (hv : Blk X scope fun Y => PE Y vx tv)
    (hs : ∀ x, foldedSetIterable iter X.env x = pure x) (h : tDX nw wi g tt tk tv (own.map (·.2)) σ H Q)
    (fin : ∀ D C s' m H', Inv X pins σ H' s' → Q (.ref D) H' → s'.heap.Ns C m → FpOk X pins H' C → compPost (model X.prog X.w) X.A X.xe use Qf (.ref D) C (.ok .next) s') :
    wpAny (model X.prog X.w) X.A (comprehension (.DictComp kx vx [⟨tg, iter, ifs, 0⟩] scope pos) scope X.env pos' newDict false (eval iter X.env) use) Qf X.xe s := by
  have free : ∀ y ∈ scope.names, y.2 = .free → ∃ c, X.env.cells.lookup y.1 = some c := fun y hy e => (ok.free y hy e).elim (fun k => I.ok.has _ (.inl k)) fun k => I.ok.has _ (.inr k)
  refine wpAny_comprehension_free (use := use) rfl hs (closure_ok free) ok.kind (fun y hy e => by rw [ok.uniq y hy, e]) (thn (hi.run pins s σ H _ I h) fun xv s1 hx => thn hx fun itv s2 ⟨it, fp, tn, J, H2, e, I2, T, st2, f2, q⟩ => ?_)
  subst e
  refine wpAny_newObj_type (newEnv_comp ?_)
  generalize hD : s2.heap.objs.size = D
  have Dn : H2 D = none := I2.hok.fresh (Nat.le_of_eq hD)
  obtain ⟨W, ⟨m0, w0⟩, turn⟩ := q D Dn
  generalize es3 : ({ s2 with heap := s2.heap.push { cls := .type "dict", data := .dict #[] } } : Shared) = s3
  have I3 : Inv X pins σ (upd H2 D nw) s3 := by
    rw [← es3]
    refine I2.laid (t' := s2.toks) (fun b o e => Heap.get?_push_of_some _ e) (Nat.le_of_eq hD) ?_
    rw [← hD]
    rcases hnw with z | z <;> rw [z]
    · exact dk_empty s2.heap I2.big
    · exact dt_empty s2.heap I2.big
  have h3 : s3.heap = s2.heap.push { cls := .type "dict", data := .dict #[] } := by rw [← es3]
  have lo : ∀ b ∈ fp, b < s2.heap.objs.size := fun b hb => let ⟨o, e, _⟩ := T.obj _ _ st2 b hb; Heap.lt_size e
  have f3 : ∀ b ∈ fp, FpOk X pins (upd H2 D nw) b ∧ b < s3.heap.objs.size := fun b hb => by
    have hlt := lo b hb
    refine ⟨⟨?_, (f2 b hb).2⟩, by rw [h3, Heap.size_push]; exact Nat.lt_succ_of_lt hlt⟩
    rw [upd_ne (by rw [← hD]; exact Nat.ne_of_lt hlt)]; exact (f2 b hb).1
  have st3 : tn 0 s3.heap := T.keep _ _ _ st2 fun b _ o e => by rw [h3]; exact Heap.get?_push_of_some _ e
  have I4 := block_start I3 ok hN f3
  have pg := hg s3 (upd H2 D nw) s3.heap.objs.size (cellsFrom (s3.heap.objs.size + 1) scope.names (cloFrom X.env.cells scope.names [])) fp
  have pt := ht s3 (upd H2 D nw) s3.heap.objs.size (cellsFrom (s3.heap.objs.size + 1) scope.names (cloFrom X.env.cells scope.names [])) fp
  have pk := hk s3 (upd H2 D nw) s3.heap.objs.size (cellsFrom (s3.heap.objs.size + 1) scope.names (cloFrom X.env.cells scope.names [])) fp
  have pv := hv s3 (upd H2 D nw) s3.heap.objs.size (cellsFrom (s3.heap.objs.size + 1) scope.names (cloFrom X.env.cells scope.names [])) fp
  show codeAny _ _ (.compStart (.DictComp kx vx [⟨tg, iter, ifs, 0⟩] scope pos) 0 (.ref it) (.ref D) (compEnvC scope (cellsFrom (s3.heap.objs.size + 1) scope.names (cloFrom X.env.cells scope.names [])) s3.heap.objs.size X.env)) (compPost (model X.prog X.w) X.A X.xe use Qf (.ref D) s3.heap.objs.size) { s3 with heap := pushCells (s3.heap.push { cls := .type "dict", data := .dict #[] }) scope.names }
  have nfp : ∀ b ∈ fp, (upd H2 D nw) b = none := fun b hb => (f3 b hb).1.1
  generalize ece : compEnvC scope (cellsFrom (s3.heap.objs.size + 1) scope.names (cloFrom X.env.cells scope.names [])) s3.heap.objs.size X.env = ce at I4 pg pt pk pv ⊢
  have cL : ce.locals = s3.heap.objs.size := by subst ece; rfl
  generalize upd H2 D nw = H3 at I3 I4 pg pt pk pv w0 nfp f3
  generalize es4 : ({ s3 with heap := pushCells (s3.heap.push { cls := .type "dict", data := .dict #[] }) scope.names } : Shared) = s4 at I4 ⊢
  have st4 : tn 0 s4.heap := T.keep _ _ _ st3 fun b _ o e => by rw [← es4]; exact pushCells_keeps _ _ _ _ (Heap.get?_push_of_some _ e)
  have hu' : (X.blk s3 H3 scope ce fp).A.units + 1 < cLine := hu
  have still : ∀ {σ' : L2.St} {H' : Hp} {s' : Shared}, Inv (X.blk s3 H3 scope ce fp) [] σ' H' s' → (∀ b ∈ fp, H' b = none) → ∀ b ∈ fp, FpOk (X.blk s3 H3 scope ce fp) [] H' b := fun {σ' H' s'} I' hn b hb =>
    ⟨hn b hb, (I'.ok.exf b hb).1, I'.ok.exfs b hb, .inl hb, fun x c e => (I'.ok.exf b hb).2 x c e, fun p hp => absurd (show p ∈ ([] : List (Addr × Obj)) ++ [] from hp) (by simp)⟩
  refine codeAny_compStart_dict ?lp (T.self X.A 0 _ _ _ st4 ?lp)
  refine compLoop_anyD (fun n s' => ∃ i H', Inv (X.blk s3 H3 scope ce fp) [] (wipe σ (own.map (·.2))) H' s' ∧ tn i s'.heap ∧ (∀ b ∈ fp, H' b = none) ∧ W i n H') ?_ m0 ⟨0, H3, I4, st4, nfp, w0⟩
  rintro n s5 ⟨i, H5, I5, st5, n5, w5⟩
  rcases turn i n H5 w5 with ⟨stop, qq⟩ | ⟨go, Nx, hNx, step⟩
  · refine thnF (T.done (X.blk s3 H3 scope ce fp) rfl rfl rfl hc i [] s5 _ H5 (fun _ _ => False) I5 (still I5 n5) st5 stop) fun r s6 ⟨hr, I6⟩ => ?_
    subst hr
    have I7 : Inv X pins σ H5 s6 := I3.call' (ch := fp) I6.os I6.base I6.hok I6.bare fun b hb => ⟨(f3 b hb).1.2.2.2.1, (f3 b hb).1.2.1, (f3 b hb).1.2.2.2.2.1, (f3 b hb).1.2.2.2.2.2⟩
    have nC : H5 s3.heap.objs.size = none := cL ▸ (show H5 ce.locals = none from I6.free)
    obtain ⟨m, hn, _⟩ := I6.loc
    have hn : s6.heap.Ns ce.locals m := hn
    exact fin D s3.heap.objs.size s6 m H5 I7 qq (cL ▸ hn) (I3.fpOk (Nat.le_refl _) nC)
  · refine thnF (T.item (X.blk s3 H3 scope ce fp) rfl rfl rfl hc i [] s5 _ H5 (fun _ _ => False) I5 (still I5 n5) st5 go) fun r s6 ⟨u, hr, h6⟩ => ?_
    subst hr
    refine thnF h6 fun _ s7 ⟨x, H7, I7, r7, y7, st7, n7⟩ => ?_
    have I7' := I7.pinned (still I7 n7) (T.obj _ _ st7)
    refine thnF (pg.run _ s7 _ H7 x u _ I7' r7 (step x H7 y7)) fun _ s8 ⟨σ8, H8, I8, hw8, q8⟩ => ?_
    refine thnF (pt.run _ s8 σ8 H8 _ I8 q8) fun b s9 ⟨H9, I9, q9⟩ => ?_
    have close : ∀ {s' : Shared} {H' : Hp}, Inv (X.blk s3 H3 scope ce fp) ([] ++ pinsAt fp s7.heap) σ8 H' s' → Nx H' → ∃ m, m < n ∧ ∃ i H', Inv (X.blk s3 H3 scope ce fp) [] (wipe σ (own.map (·.2))) H' s' ∧ tn i s'.heap ∧ (∀ b ∈ fp, H' b = none) ∧ W i m H' := fun {s' H'} I' nx => by
      obtain ⟨m', hm, w'⟩ := hNx H' nx
      have pin : ∀ b ∈ fp, ∀ o, s7.heap.get? b = some o → s'.heap.get? b = some o ∧ H' b = none := fun b hb o e =>
        let z := I'.pin (b, o) (List.mem_append_right _ (List.mem_append_right _ (mem_pinsAt hb e))); ⟨z.1, z.2.1⟩
      have hl : (wipe σ (own.map (·.2))).length = σ8.length := by rw [← hw8, wipe_length]
      refine ⟨m', hm, i + 1, H', (I'.unpinned (pins := [])).weak hl (fun j v e => (wipe_some (by rw [← hw8] at e; exact e)).1), T.keep _ _ _ st7 fun b hb o e => (pin b hb o e).1, fun b hb => ?_, w'⟩
      obtain ⟨o, e, _⟩ := T.obj _ _ st7 b hb
      exact (pin b hb o e).2
    cases b with
    | false =>
      simp only [Bool.false_eq_true, if_false] at q9 ⊢
      exact close I9 q9
    | true =>
      simp only [if_true] at q9 ⊢
      refine thnF (pk.run _ s9 σ8 H9 _ I9 q9) fun z s10 ⟨yk, H10, I10, r10, q10⟩ => ?_
      refine thnF (pv.run _ s10 σ8 H10 _ I10 q10) fun z2 s11 ⟨yv, H11, I11, r11, H12, put, nx⟩ => ?_
      exact dict_put (X := X.blk s3 H3 scope ce fp) hu' I11 put r10 r11 fun s12 I12 => close I12 nx
theorem pe_dX {nw : HO} (hnw : nw = .dK [] ∨ nw = .dT []) {kx vx tg iter : Expr} {ifs : List Expr} {scope : Scope} {own : List (Str × Nat)} {pos : Pos} {wi : TI} {g : TG} {tt : TT} {tk tv : TE} (hu : X.A.units + 1 < cLine) (hc : X.calm = true) (hN : X.N.Nodup) (hi : PI X tg iter wi) (ok : BlkOk X.N X.env.scope scope own)
    (hg : Blk X scope fun Y => PG Y tg g) (ht : Blk X scope fun Y => PTs Y ifs tt) (hk : Blk X scope fun Y => PE Y kx tk) (hv : Blk X scope fun Y => PE Y vx tv) (hs : ∀ x, foldedSetIterable iter X.env x = pure x := by intro _; rfl) : PE X (.DictComp kx vx [⟨tg, iter, ifs, 0⟩] scope pos) (tDX nw wi g tt tk tv (own.map (·.2))) := by
  refine ⟨fun pins s σ H Q I h => ?_⟩
  rw [arm_eval_DictComp]
  refine dcX hnw hu hc hN I hi ok hg ht hk hv hs h fun D C s' m H' I' q hn ⟨f0, f1, f2, f3, f4, f5⟩ => ⟨m, hn, fun h'' sb => ?_⟩
  exact ⟨.ref D, H', I'.turned (t' := s'.toks) (fun b o hb e => (sb.2 b hb).trans e) f0 f1 f3 f4 f5, rfl, q⟩
/-- y = {..} -/
theorem ps_setDX {nw : HO} (hnw : nw = .dK [] ∨ nw = .dT []) {i : Nat} {y : Str} {py : Pos} {kx vx tg iter : Expr} {ifs : List Expr} {scope : Scope} {own : List (Str × Nat)} {pos spos : Pos} {wi : TI} {g : TG} {tt : TT} {tk tv : TE} (hu : X.A.units + 1 < cLine) (hc : X.calm = true) (hN : X.N.Nodup) (hy : X.N[i]? = some y) (hyl : X.env.scope.names.lookup y = some .local)
    (hsw : swapsWith (.DictComp kx vx [⟨tg, iter, ifs, 0⟩] scope pos) (some (.Name y py)) spos.line X.env = pure true) (hi : PI X tg iter wi) (ok : BlkOk X.N X.env.scope scope own) (hg : Blk X scope fun Y => PG Y tg g) (ht : Blk X scope fun Y => PTs Y ifs tt) (hk : Blk X scope fun Y => PE Y kx tk) (hv : Blk X scope fun Y => PE Y vx tv)
    (hs : ∀ x, foldedSetIterable iter X.env x = pure x := by intro _; rfl) : PS X (.Assign [.Name y py] (.DictComp kx vx [⟨tg, iter, ifs, 0⟩] scope pos) spos) (tAsg (tDX nw wi g tt tk tv (own.map (·.2))) (gName i)) := by
  refine ⟨fun pins s σ H D I h => ?_⟩
  rw [exec_Assign_Name_used _ _ _ _ hsw]
  refine wpAny_bind (wpAny_standAt (wpAny_bind ?_))
  show wpAny _ X.A (do let _ ← comprehension (.DictComp kx vx [⟨tg, iter, ifs, 0⟩] scope pos) scope X.env (firstIterPos [⟨tg, iter, ifs, 0⟩] pos) newDict false (eval iter X.env) (some (assign (.Name y py) X.env))) _ _ s
  have h : tDX nw wi g tt tk tv (own.map (·.2)) σ H (fun x H1 => gName i x σ H1 D.nx) := h
  refine wpAny_bind (thn (dcX (Qf := fun _ s' => SP X pins D .next s') hnw hu hc hN I hi ok hg ht hk hv hs h fun L C s' m H' I' q hn ⟨f0, f1, f2, f3, f4, f5⟩ => ?_) fun _ s' hq => wpAny_pure (wpAny_pure hq))
  show wpAny _ _ (assign (.Name y py) X.env (.ref L)) _ _ _
  refine wpAny_assign_Name (store_ok2 (v := V.ref L) I' hN hy (.inl hyl) rfl (fun s2 I2 ⟨a, sb, ha⟩ => ?_) (.inr hyl))
  have away : C ≠ a := ha.elim (fun z => z ▸ f1) fun z e => f4 y a z e.symm
  exact ⟨m, hn.sameBut sb away, fun h3 sb3 => ⟨_, H', I2.turned (t' := s2.toks) (fun b o hb e => (sb3.2 b hb).trans e) f0 f1 f3 f4 f5, q⟩⟩
end
end DR
set_option maxHeartbeats 4000000
/-! DR: dict comprehensions. -/
namespace DR
open PySem PySem.Spec PyProof.Rows L2
def dcL (t : Tg) (tt : TM) (fk fv : EM) (vs : List Nat) : List PV → PV → DS → Re PV
  | [], d, s => .ok d s
  | p :: ps, d, s => match asgT t p (wipeE vs s.e) with
    | none => .bad
    | some e' => (tt ⟨e', s.t⟩).bind fun b s1 => if b = true then (fk s1).bind fun k s2 => (fv s2).bind fun v s3 => match setU k v d with
        | some r => dcL t tt fk fv vs ps r.1 s3
        | none => .bad
      else dcL t tt fk fv vs ps d s1
def dcO (d0 : PV) (it : IM) (t : Tg) (tt : TM) (fk fv : EM) (vs : List Nat) : OM := fun s => (it s).bind fun ps s1 => (noX (dcL t tt fk fv vs ps d0 s1)).bind fun d s2 => .ok (d, true) ⟨restE vs s1.e s2.e, s2.t⟩
section
variable {X : Cx} {Z : WX} {it : IM} {t : Tg} {tt : TM} {vs : List Nat} {fk fv : EM}
theorem dcL_cons (p : PV) (ps : List PV) (d : PV) (s : DS) : dcL t tt fk fv vs (p :: ps) d s = match asgT t p (wipeE vs s.e) with
    | none => .bad
    | some e' => (tt ⟨e', s.t⟩).bind fun b s1 => if b = true then (fk s1).bind fun k s2 => (fv s2).bind fun v s3 => match setU k v d with
        | some r => dcL t tt fk fv vs ps r.1 s3
        | none => .bad
      else dcL t tt fk fv vs ps d s1 := rfl
def isDict (d : PV) : Prop := (∃ l, d = .dK l) ∨ ∃ l, d = .dT l
theorem setU_put {K : PySem.W.Frag} {W : Wd} {H : Hp} {d j q : PV} {r : PV × PV} {jv y : V} {D : Addr} (hd : isDict d) (hL : D ∈ W.L) (c : Con K W H d D) (e : setU j q d = some r) (rj : RV K W H j jv) (rq : RV K W H q y) :
    isDict r.1 ∧ ∃ o, DPut H D jv y (upd H D o) ∧ Con K W (upd H D o) r.1 D := by
  rcases hd with ⟨l, rfl⟩ | ⟨l, rfl⟩
  · have e : (if l.length < sizeLine then (keyP j).map fun k => (PV.dK (putP l k q), PV.non) else none) = some r := by cases j <;> exact e
    split at e
    · rename_i hl
      obtain ⟨kk, hk, e⟩ := Option.map_eq_some_iff.mp e
      cases e
      obtain ⟨ws, c1, c2⟩ := con_dK c
      exact ⟨.inl ⟨_, rfl⟩, .dK (putK ws kk y), .inl ⟨ws, kk, c1, keyP_v hk rj, by rw [repK_len c2]; exact hl, rfl⟩, _, upd_same, by rw [Wd.m_upd hL]; exact repK_put kk rq c2⟩
    · cases e
  · cases j with
    | tup c js =>
      cases c with
      | true => cases e
      | false =>
        have e : (if l.length < sizeLine then (keysP js).map fun k => (PV.dT (putP l k q), PV.non) else none) = some r := e
        split at e
        · rename_i hl
          obtain ⟨kk, hk, e⟩ := Option.map_eq_some_iff.mp e
          cases e
          obtain ⟨ws, c1, c2⟩ := con_dT c
          unfold RV Rep at rj
          obtain ⟨b, vs, eb, k1, k2⟩ := rj
          rw [if_neg (by decide)] at k1
          have hv := keysP_v hk k2
          subst hv
          exact ⟨.inr ⟨_, rfl⟩, .dT (putK ws kk y), .inr ⟨ws, kk, b, c1, eb, (msk_some.mp k1).2, by rw [repT_len c2]; exact hl, rfl⟩, _, upd_same, by rw [Wd.m_upd hL]; exact repT_put kk rq c2⟩
        · cases e
    | _ => cases e
theorem con_there {K : PySem.W.Frag} {W W' : Wd} {H H' : Hp} {d : PV} {D : Addr} (c : Con K W H d D) (st : Step W H W' H') (hD : D ∈ W.P) : Con K W' H' d D := c.step st (st.pk D hD)
theorem tDX_of {Q : VK} {σ : L2.St} {H : Hp} {K : PySem.W.Frag} {nw : HO} {d0 : PV} (hd0 : isDict d0) (hnw : ∀ W H D, Con K W (upd H D nw) d0 D) (ht : tgIn t vs = true) (h : tO K Z (dcO d0 it t tt fk fv vs) σ H Q) : tDX nw (tI K Z it) (gX K t) (tT K Z0 tt) (tE K Z0 fk) (tE K Z0 fv) vs σ H Q := by
  obtain ⟨W, s, R, h⟩ := h
  refine ⟨W, s, R, Post.bind h fun ps s1 J W1 H1 _ st0 R1 G q D hD => ?_⟩
  have G : Goes K J ps W1 H1 := G
  obtain ⟨W1', stN, R1', hL⟩ := R1.newL hD
  obtain ⟨nO, nS, nP⟩ := Wd.notL.mp hL
  have q := Post.step q stN
  obtain ⟨Rk, vk⟩ := R1'.keep (o := nw) hD nO
  have inL : ∀ {W' : Wd}, W'.P = D :: W1'.P → D ∈ W'.L := fun z => Classical.byContradiction fun y => (Wd.notL.mp y).2.2 (by rw [z]; exact List.mem_cons_self)
  have inP : ∀ {W' : Wd}, W'.P = D :: W1'.P → D ∈ W'.P := fun z => by rw [z]; exact List.mem_cons_self
  refine ⟨fun i m H2 => m = ps.length - i ∧ i ≤ ps.length ∧ ∃ W2 s2 d, LSt W1' H1 D W2 H2 ∧ RSt K W2 H2 ⟨wipeE vs s2.e, s2.t⟩ (L2.wipe σ vs) ∧ Con K W2 H2 d D ∧ isDict d ∧ dcL t tt fk fv vs ps d0 s1 = dcL t tt fk fv vs (ps.drop i) d s2,
    ⟨ps.length, by simp, Nat.zero_le _, W1'.keep D, s1, d0, LSt.start hD nP, Rk.wipe vs, hnw _ _ _, hd0, rfl⟩, ?_⟩
  rintro i m H2 ⟨rfl, hi, W2, s2, d, l, R2, hA, hd, eq⟩
  have vw : Vw W1 H1 W2 H2 := stN.vw.trans l.vw
  have good : ∀ {P : Prop}, (dcL t tt fk fv vs ps d0 s1 = .bad ∨ ∃ x s', dcL t tt fk fv vs ps d0 s1 = .exc x s') → P := fun {P} z => by
    rcases z with z | ⟨x, s', z⟩ <;> (rw [z] at q; exact q.elim)
  by_cases hlt : i < ps.length
  · refine .inr ⟨G.go W2 H2 i vw hlt, fun H2 => i + 1 ≤ ps.length ∧ ∃ W2 s2 d, LSt W1' H1 D W2 H2 ∧ RSt K W2 H2 ⟨wipeE vs s2.e, s2.t⟩ (L2.wipe σ vs) ∧ Con K W2 H2 d D ∧ isDict d ∧ dcL t tt fk fv vs ps d0 s1 = dcL t tt fk fv vs (ps.drop (i + 1)) d s2,
      fun H' ⟨z, k⟩ => ⟨ps.length - (i + 1), by omega, rfl, z, k⟩, fun x H3 y => ?_⟩
    obtain ⟨W3, st3, R3, rv⟩ := G.yld W2 H2 i x H3 ps[i] ⟨wipeE vs s2.e, s2.t⟩ (L2.wipe σ vs) vw (List.getElem?_eq_getElem hlt) R2 y
    have l3 := l.step st3
    have eq2 := eq
    rw [List.drop_eq_getElem_cons hlt, dcL_cons] at eq2
    cases e1 : asgT t ps[i] (wipeE vs s2.e) with
    | none => simp only [e1] at eq2; exact good (.inl eq2)
    | some e2 =>
      simp only [e1] at eq2
      refine ⟨W3, ⟨wipeE vs s2.e, s2.t⟩, ps[i], R3, rv, e2, e1, fun σ4 hw R4 => ⟨(hw vs ht).trans (wipe_wipe σ), W3, ⟨e2, s2.t⟩, R4, ?_⟩⟩
      have hw4 : L2.wipe σ4 vs = L2.wipe σ vs := (hw vs ht).trans (wipe_wipe σ)
      have hA3 := con_there hA st3 (inP l.P)
      cases e3 : tt ⟨e2, s2.t⟩ with
      | bad => rw [e3] at eq2; exact good (.inl eq2)
      | exc x s3 => rw [e3] at eq2; exact good (.inr ⟨x, s3, eq2⟩)
      | ok b s3 =>
        rw [e3] at eq2
        simp only [Re.bind] at eq2
        intro c W4 H4 st4 R5 rc
        obtain rfl : c = b := rc
        have l4 := l3.step st4
        have hA4 := con_there hA3 st4 (inP l3.P)
        cases c with
        | false =>
          rw [if_neg (by decide)] at eq2 ⊢
          exact ⟨hlt, W4, s3, d, l4, by rw [← hw4]; exact R5.wipe vs, hA4, hd, eq2⟩
        | true =>
          rw [if_pos rfl] at eq2 ⊢
          refine ⟨W4, s3, R5, ?_⟩
          cases e4 : fk s3 with
          | bad => rw [e4] at eq2; exact good (.inl eq2)
          | exc x s4 => rw [e4] at eq2; exact good (.inr ⟨x, s4, eq2⟩)
          | ok k s4 =>
            rw [e4] at eq2
            simp only at eq2
            intro kv W5 H5 st5 R6 rk
            have l5 := l4.step st5
            have hA5 := con_there hA4 st5 (inP l4.P)
            refine ⟨W5, s4, R6, ?_⟩
            cases e5 : fv s4 with
            | bad => rw [e5] at eq2; exact good (.inl eq2)
            | exc x s5 => rw [e5] at eq2; exact good (.inr ⟨x, s5, eq2⟩)
            | ok u s5 =>
              rw [e5] at eq2
              simp only at eq2
              intro uv W6 H6 st6 R7 ru
              have l6 := l5.step st6
              have hA6 := con_there hA5 st6 (inP l5.P)
              cases e6 : setU k u d with
              | none => simp only [e6] at eq2; exact good (.inl eq2)
              | some r =>
                simp only [e6] at eq2
                obtain ⟨hd', o, put, hA7⟩ := setU_put hd (inL l6.P) hA6 e6 (st6.rv rk) ru
                exact ⟨_, put, hlt, W6, s5, r.1, l6.poke, by rw [← hw4]; exact (R7.wipe vs).poke (inP l6.P), hA7, hd', eq2⟩
  · have e : i = ps.length := by omega
    subst e
    rw [List.drop_length] at eq
    refine .inl ⟨G.stop W2 H2 vw, ?_⟩
    rw [eq] at q
    have hA' : ∃ o, H2 D = some o := hA.there
    refine q (.ref D) ⟨D :: W2.O, W2.S, W1'.P⟩ H2 l.fin (l.fin_R hA' R1'.e R2) ⟨D, rfl, List.mem_cons_self, ?_, fun j p hj z => ?_⟩
    · have hm := l.fin_m
      rcases hd with ⟨kl, rfl⟩ | ⟨kl, rfl⟩
      · obtain ⟨ws, c1, c2⟩ := con_dK hA
        exact ⟨ws, c1, by rw [hm]; exact c2⟩
      · obtain ⟨ws, c1, c2⟩ := con_dT hA
        exact ⟨ws, c1, by rw [hm]; exact c2⟩
    · obtain ⟨hj, hj2⟩ := restE_own hj
      obtain ⟨a, g1, g2, _⟩ := R2.e.ow j p (by rw [wipeE_get, if_neg hj]; exact hj2)
      rw [wipe_get, if_neg hj] at g1
      rw [g1] at z
      have za : a = D := by injection z with z; injection z with z; injection z
      exact R2.t.pa a g2 (by rw [l.P, za]; exact List.mem_cons_self)
theorem dK_new {K : PySem.W.Frag} (W : Wd) (H : Hp) (D : Addr) : Con K W (upd H D (.dK [])) (.dK []) D := ⟨[], upd_same, by unfold RepK; rfl⟩
theorem dT_new {K : PySem.W.Frag} (W : Wd) (H : Hp) (D : Addr) : Con K W (upd H D (.dT [])) (.dT []) D := ⟨[], upd_same, by unfold RepT; rfl⟩
theorem po_dcK {kx vx tgt iter : Expr} {ifs : List Expr} {scope : Scope} {own : List (Str × Nat)} {pos : Pos} (hu : X.A.units + 1 < cLine) (hc : X.calm = true) (hN : X.N.Nodup) (hi : PIX X Z tgt iter it) (ok : BlkOk X.N X.env.scope scope own) (hg : Blk X scope fun Y => PGX Y tgt t) (ht : Blk X scope fun Y => PTsX Y ifs tt)
    (hk : Blk X scope fun Y => PX Y Z0 kx fk) (he : Blk X scope fun Y => PX Y Z0 vx fv) (hv : own.map (·.2) = vs := by rfl) (hin : tgIn t vs = true := by rfl) (hs : ∀ x, foldedSetIterable iter X.env x = pure x := by intro _; rfl) : PO X Z (.DictComp kx vx [⟨tgt, iter, ifs, 0⟩] scope pos) (dcO (.dK []) it t tt fk fv vs) := by
  subst hv
  exact ⟨PE_imp (pe_dX (.inl rfl) (wi := tI X.K Z it) (g := gX X.K t) (tt := tT X.K Z0 tt) (tk := tE X.K Z0 fk) (tv := tE X.K Z0 fv) hu hc hN hi.pi ok (fun s H L cl fp => (hg s H L cl fp).pg) (fun s H L cl fp => (ht s H L cl fp).pts) (fun s H L cl fp => (hk s H L cl fp).pe) (fun s H L cl fp => (he s H L cl fp).pe) hs) fun σ H Q h => tDX_of (.inl ⟨_, rfl⟩) dK_new hin h⟩
theorem po_dcT {kx vx tgt iter : Expr} {ifs : List Expr} {scope : Scope} {own : List (Str × Nat)} {pos : Pos} (hu : X.A.units + 1 < cLine) (hc : X.calm = true) (hN : X.N.Nodup) (hi : PIX X Z tgt iter it) (ok : BlkOk X.N X.env.scope scope own) (hg : Blk X scope fun Y => PGX Y tgt t) (ht : Blk X scope fun Y => PTsX Y ifs tt)
    (hk : Blk X scope fun Y => PX Y Z0 kx fk) (he : Blk X scope fun Y => PX Y Z0 vx fv) (hv : own.map (·.2) = vs := by rfl) (hin : tgIn t vs = true := by rfl) (hs : ∀ x, foldedSetIterable iter X.env x = pure x := by intro _; rfl) : PO X Z (.DictComp kx vx [⟨tgt, iter, ifs, 0⟩] scope pos) (dcO (.dT []) it t tt fk fv vs) := by
  subst hv
  exact ⟨PE_imp (pe_dX (.inr rfl) (wi := tI X.K Z it) (g := gX X.K t) (tt := tT X.K Z0 tt) (tk := tE X.K Z0 fk) (tv := tE X.K Z0 fv) hu hc hN hi.pi ok (fun s H L cl fp => (hg s H L cl fp).pg) (fun s H L cl fp => (ht s H L cl fp).pts) (fun s H L cl fp => (hk s H L cl fp).pe) (fun s H L cl fp => (he s H L cl fp).pe) hs) fun σ H Q h => tDX_of (.inr ⟨_, rfl⟩) dT_new hin h⟩
theorem ps_setDc {nw : HO} (hnw : nw = .dK [] ∨ nw = .dT []) {d0 : PV} (hd0 : isDict d0) (hn : ∀ (K : PySem.W.Frag) W H D, Con K W (upd H D nw) d0 D) {i : Nat} {y : Str} {py spos : Pos} {kx vx tgt iter : Expr} {ifs : List Expr} {scope : Scope} {own : List (Str × Nat)} {pos : Pos} (hu : X.A.units + 1 < cLine) (hc : X.calm = true) (hN : X.N.Nodup) (hy : X.N[i]? = some y) (hyl : X.env.scope.names.lookup y = some .local)
    (hsw : swapsWith (.DictComp kx vx [⟨tgt, iter, ifs, 0⟩] scope pos) (some (.Name y py)) spos.line X.env = pure true) (hi : PIX X Z tgt iter it) (ok : BlkOk X.N X.env.scope scope own) (hg : Blk X scope fun Y => PGX Y tgt t) (ht : Blk X scope fun Y => PTsX Y ifs tt)
    (hk : Blk X scope fun Y => PX Y Z0 kx fk) (he : Blk X scope fun Y => PX Y Z0 vx fv) (hv : own.map (·.2) = vs := by rfl) (hin : tgIn t vs = true := by rfl) (hs : ∀ x, foldedSetIterable iter X.env x = pure x := by intro _; rfl) : PSX X Z (.Assign [.Name y py] (.DictComp kx vx [⟨tgt, iter, ifs, 0⟩] scope pos) spos) (setS i (dcO d0 it t tt fk fv vs)) := by
  subst hv
  refine ⟨PS_imp (ps_setDX hnw (wi := tI X.K Z it) (g := gX X.K t) (tt := tT X.K Z0 tt) (tk := tE X.K Z0 fk) (tv := tE X.K Z0 fv) hu hc hN hy hyl hsw hi.pi ok (fun s H L cl fp => (hg s H L cl fp).pg) (fun s H L cl fp => (ht s H L cl fp).pts) (fun s H L cl fp => (hk s H L cl fp).pe) (fun s H L cl fp => (he s H L cl fp).pe) hs) fun D σ H ⟨W, s, R, h⟩ => ?_⟩
  exact tDX_of hd0 (hn X.K) hin ⟨W, s, R, PostS.bindE h fun p s1 y W1 H1 _ st R1 ry q => q _ W1 H1 (Step.refl _ _) (R1.put ry)⟩
theorem ps_setDcK {i : Nat} {y : Str} {py spos : Pos} {kx vx tgt iter : Expr} {ifs : List Expr} {scope : Scope} {own : List (Str × Nat)} {pos : Pos} (hu : X.A.units + 1 < cLine) (hc : X.calm = true) (hN : X.N.Nodup) (hy : X.N[i]? = some y) (hyl : X.env.scope.names.lookup y = some .local)
    (hsw : swapsWith (.DictComp kx vx [⟨tgt, iter, ifs, 0⟩] scope pos) (some (.Name y py)) spos.line X.env = pure true) (hi : PIX X Z tgt iter it) (ok : BlkOk X.N X.env.scope scope own) (hg : Blk X scope fun Y => PGX Y tgt t) (ht : Blk X scope fun Y => PTsX Y ifs tt)
    (hk : Blk X scope fun Y => PX Y Z0 kx fk) (he : Blk X scope fun Y => PX Y Z0 vx fv) (hv : own.map (·.2) = vs := by rfl) (hin : tgIn t vs = true := by rfl) (hs : ∀ x, foldedSetIterable iter X.env x = pure x := by intro _; rfl) : PSX X Z (.Assign [.Name y py] (.DictComp kx vx [⟨tgt, iter, ifs, 0⟩] scope pos) spos) (setS i (dcO (.dK []) it t tt fk fv vs)) :=
  ps_setDc (.inl rfl) (.inl ⟨_, rfl⟩) (fun _ => dK_new) hu hc hN hy hyl hsw hi ok hg ht hk he hv hin hs
theorem ps_setDcT {i : Nat} {y : Str} {py spos : Pos} {kx vx tgt iter : Expr} {ifs : List Expr} {scope : Scope} {own : List (Str × Nat)} {pos : Pos} (hu : X.A.units + 1 < cLine) (hc : X.calm = true) (hN : X.N.Nodup) (hy : X.N[i]? = some y) (hyl : X.env.scope.names.lookup y = some .local)
    (hsw : swapsWith (.DictComp kx vx [⟨tgt, iter, ifs, 0⟩] scope pos) (some (.Name y py)) spos.line X.env = pure true) (hi : PIX X Z tgt iter it) (ok : BlkOk X.N X.env.scope scope own) (hg : Blk X scope fun Y => PGX Y tgt t) (ht : Blk X scope fun Y => PTsX Y ifs tt)
    (hk : Blk X scope fun Y => PX Y Z0 kx fk) (he : Blk X scope fun Y => PX Y Z0 vx fv) (hv : own.map (·.2) = vs := by rfl) (hin : tgIn t vs = true := by rfl) (hs : ∀ x, foldedSetIterable iter X.env x = pure x := by intro _; rfl) : PSX X Z (.Assign [.Name y py] (.DictComp kx vx [⟨tgt, iter, ifs, 0⟩] scope pos) spos) (setS i (dcO (.dT []) it t tt fk fv vs)) :=
  ps_setDc (.inr rfl) (.inr ⟨_, rfl⟩) (fun _ => dT_new) hu hc hN hy hyl hsw hi ok hg ht hk he hv hin hs
end
end DR
set_option maxHeartbeats 4000000
/-! DR: x[::-1] of a tuple. -/
namespace DR
open PySem PySem.Spec PyProof.Rows L2 HT
section
variable {prog : Program} {w : World} {A : Around} {E : Value → Shared → Prop} {s : Shared}
theorem applied_rev {sl : Addr} {vl vu vs : Value} {n : Nat} {Q : Int × Int × Nat → Shared → Prop} (hs : s.heap.IsSliceOf sl vl vu vs) (pl : IsPart vl none) (pu : IsPart vu none) (ps : IsPart vs (some (-1))) (h : Q ((n : Int) - 1, -1, n) s) :
    wpAny (model prog w) A (Builtin.Slice.sliceApplied (.ref sl) (pure (n : Int))) Q E s := by
  obtain ⟨os, hos, hcs, hds⟩ := id hs
  unfold Builtin.Slice.sliceApplied Builtin.Slice.sliceFields
  refine wpAny_bind (wpAny_bind (wpAny_field hos hds (x := vl) rfl (wpAny_bind (wpAny_field hos hds (x := vu) rfl (wpAny_bind (wpAny_field hos hds (x := vs) rfl (wpAny_pure ?_)))))))
  refine wpAny_bind (slicePart_ ps ?_)
  show wpAny _ _ (if ((-1 : Int) == 0) = true then _ else _) _ _ s
  rw [if_neg (by decide)]
  refine wpAny_bind (slicePart_ pl (wpAny_bind (slicePart_ pu (wpAny_bind (wpAny_pure ?_)))))
  show wpAny _ _ (match Builtin.Slice.sliceAdjust none none (-1) (n : Int) with | (lo, hi) => pure (lo, (-1 : Int), Builtin.Slice.slicePlaces lo hi (-1))) _ _ s
  have e : Builtin.Slice.sliceAdjust none none (-1) (n : Int) = ((n : Int) - 1, -1) := by
    unfold Builtin.Slice.sliceAdjust
    first | rfl | simp
  rw [e]
  have p : Builtin.Slice.slicePlaces ((n : Int) - 1) (-1) (-1) = n := by
    unfold Builtin.Slice.slicePlaces
    by_cases hn : n = 0
    · subst hn; simp
    · have h1 : (-1 : Int) < (n : Int) - 1 := by omega
      simp [h1] <;> omega
  show wpAny _ _ (pure ((n : Int) - 1, (-1 : Int), Builtin.Slice.slicePlaces ((n : Int) - 1) (-1) (-1))) _ _ s
  rw [p]
  exact wpAny_pure h
theorem filterMap_at {α β : Type} {f : α → Option β} {g : α → β} : ∀ l : List α, (∀ m ∈ l, f m = some (g m)) → l.filterMap f = l.map g
  | [], _ => rfl
  | a :: l, h => by
    rw [List.filterMap_cons_some (h a (List.mem_cons_self ..)), List.map_cons, filterMap_at l fun m hm => h m (List.mem_cons_of_mem _ hm)]
theorem pick_rev (xs : Array Value) : ((List.range xs.size).filterMap fun (m : Nat) => xs[((xs.size : Int) - 1 + (m : Int) * (-1)).toNat]?).toArray = xs.toList.reverse.toArray := by
  have e : ∀ m ∈ List.range xs.size, xs[((xs.size : Int) - 1 + (m : Int) * (-1)).toNat]? = some (xs.toList.reverse.getD m .none) := fun m hm => by
    have hm := List.mem_range.mp hm
    have e1 : ((xs.size : Int) - 1 + (m : Int) * (-1)).toNat = xs.size - 1 - m := by omega
    rw [e1, List.getD_eq_getElem?_getD, List.getElem?_reverse (by simpa using hm)]
    simp
    rw [Array.getElem?_eq_getElem (by omega)]
    simp
  congr 1
  have f : (List.range xs.size).filterMap (fun (m : Nat) => xs[((xs.size : Int) - 1 + (m : Int) * (-1)).toNat]?) = (List.range xs.size).map fun m => xs.toList.reverse.getD m .none := by
    exact filterMap_at _ e
  rw [f]
  refine List.ext_getElem (by simp) fun i h1 h2 => ?_
  simp only [List.getElem_map, List.getElem_range]
  rw [List.getD_eq_getElem?_getD, List.getElem?_eq_getElem h2]
  rfl
theorem getItem_tuple_rev {t sl : Addr} {items : Array Value} {vl vu vs : Value} {Q : Value → Shared → Prop} (ht : IsTup s.heap t items) (hs : s.heap.IsSliceOf sl vl vu vs) (pl : IsPart vl none) (pu : IsPart vu none) (ps : IsPart vs (some (-1)))
    (h : Q (.ref s.heap.objs.size) { s with heap := s.heap.push { cls := .type "tuple", data := .seq items.toList.reverse.toArray } }) (hsz : items.size ≤ sizeLine) : wpAny (model prog w) A (getItem (.ref t) (.ref sl)) Q E s := by
  have ok : sizeOk (.seq items.toList.reverse.toArray) := by
    show items.toList.reverse.toArray.size ≤ sizeLine
    rw [List.size_toArray, List.length_reverse, Array.length_toList]
    exact hsz
  obtain ⟨os, hos, hcs, hds⟩ := id hs
  have hT : s.TypeIs (.ref sl) "slice" := ⟨os, hos, hcs⟩
  unfold getItem
  try with_reducible refine wpAny_holding ?_
  first | refine wpAny_bind (wpAny_pure ?_) | skip
  refine wpAny_bind (wpAny_sequenceKey ht.typeIs (by decide) (wpAny_bind (wpAny_callSpecial?_slot (name := Str.ofString "__getitem__") ht.typeIs PyProof.Rows.slot_tuple_getitem (wpAny_call_entry PyProof.Rows.slot_tuple_getitem ht.typeIs entry_tuple_getitem ?_ (args_tuple_getitem _ _)))))
  show wpAny _ _ (Builtin.Tuple.tupleItemsOf (.ref t) >>= _) _ _ s
  refine wpAny_bind (tupleItemsOf_ ht (wpAny_bind (wpAny_typeOf hT ?_)))
  rw [if_pos (by decide)]
  refine wpAny_bind (applied_rev hs pl pu ps ?_)
  show wpAny _ _ (if (((items.size : Int) - 1) == 0 && (-1 : Int) == 1 && items.size == items.size) = true then _ else _) _ _ s
  rw [if_neg (by simp), pick_rev]
  first
    | exact wpAny_bind (m := Builtin.Tuple.tupleExact _) (wpAny_newObj_type (wpAny_pure ⟨_, rfl, wpAny_pure h⟩) ok)
    | exact wpAny_bind (wpAny_bind (m := Builtin.Tuple.tupleExact _) (wpAny_newObj_type (wpAny_pure ⟨_, rfl, wpAny_pure h⟩) ok))
    | exact wpAny_bind (wpAny_bind (m := Builtin.Tuple.tupleExact _) (wpAny_newObj_type (wpAny_pure (wpAny_pure ⟨_, rfl, wpAny_pure h⟩)) ok))
    | exact wpAny_bind (m := Builtin.Tuple.tupleExact _) (wpAny_newObj_type (wpAny_bind (wpAny_pure (wpAny_pure ⟨_, rfl, wpAny_pure h⟩))) ok)
end
section
variable {X : Cx} {Z : WX} {a : Expr} {f : EM} {pos : Pos}
def tRevT (K : PySem.W.Frag) (te : TE) : TE := fun σ H Q => te σ H fun x H1 => ∃ a xs, x = .ref a ∧ SqT K H1 a xs ∧ ∀ p, H1 p = none → Q (.ref p) (upd H1 p (.tup xs.reverse))
theorem pe_revT {e : Expr} {te : TE} {k : Nat} {p1 p2 p3 pos : Pos} (he : PE X e te) : PE X (.Subscript e (.Slice none none (some (.UnaryOp .USub (.Constant (.int 1) k p1) p2)) p3) pos) (tRevT X.K te) := by
  refine ⟨fun pins s σ H Q I h => Subscript_ (thn (he.run pins s σ H _ I h) fun v s1 ⟨x, H1, I1, r1, a, xs, ex, hx, q⟩ => ?_)⟩
  subst ex
  cases r1
  have st : L2.PO X (some (.UnaryOp .USub (.Constant (.int 1) k p1) p2)) (tPart (tUn (rU fun i => .int (-i)) (tC (.int 1)))) := po_some (pe_un un_neg pe_int)
  refine wpAny_Slice (thn (po_none.run pins s1 σ H1 (fun o H2 => o = none ∧ H2 = H1) I1 ⟨rfl, rfl⟩) fun vl s2 ⟨l, H2, I2, pl, el, e2⟩ => ?_)
  subst el e2
  refine thn (po_none.run pins s2 σ H2 (fun o H3 => o = none ∧ H3 = H2) I2 ⟨rfl, rfl⟩) fun vu s3 ⟨u, H3, I3, pu, eu, e3⟩ => ?_
  subst eu e3
  refine thn (st.run pins s3 σ H3 (fun o H4 => o = some (-1) ∧ H4 = H3) I3 ⟨1, rfl, -1, rfl, rfl, rfl⟩) fun vs s4 ⟨o, H4, I4, ps, eo, e4⟩ => ?_
  subst eo e4
  have I5 : Inv X pins σ H4 { s4 with heap := s4.heap.push { cls := .type "slice", data := .fields #[vl, vu, vs] } } := I4.kept (t' := s4.toks) fun b ob q => Heap.get?_push_of_some _ q
  obtain ⟨its, r, ht, hz⟩ := I5.tuple hx
  have hl := r.length
  show wpAny (model X.prog X.w) X.A (subscriptTail e (.Slice none none (some (.UnaryOp .USub (.Constant (.int 1) k p1) p2)) p3) (.ref a) (.ref s4.heap.objs.size)) (EP X pins σ Q) X.xe { s4 with heap := s4.heap.push { cls := .type "slice", data := .fields #[vl, vu, vs] } }
  refine tail_any (ops := [.ref a, .ref s4.heap.objs.size]) ht.typeIs (PyProof.Rows.slot_tuple_getitem.lookup) ?_ (by with_unfolding_all rfl)
  refine getItem_tuple_rev ht (Heap.IsSliceOf.new _ vl vu vs) pl pu ps ?_ (by rw [List.size_toArray]; omega)
  refine ⟨.ref _, _, I5.laid (t' := s4.toks) (o := .tup xs.reverse) (fun b ob q => Heap.get?_push_of_some _ q) (Nat.le_refl _) ?_, rfl, q _ (I5.hok.fresh (Nat.le_refl _))⟩
  exact ⟨by rw [List.length_reverse]; exact hz, _, r.reverse, IsTup.new _ _⟩
/-- x[::-1] of a list or a tuple -/
def revA : O1 := fun p => match p with
  | .lst ps => some (.lst ps.reverse, true)
  | .tup _ ps => some (.tup false ps.reverse, false)
  | _ => none
theorem po_revA {k : Nat} {q1 q2 q3 : Pos} (ha : PB X Z a f) : PO X Z (.Subscript a (.Slice none none (some (.UnaryOp .USub (.Constant (.int 1) k q1) q2)) q3) pos) (un1O revA f) := by
  refine ⟨PE_imp (PE_or (L2.pe_revL ha.pe) (pe_revT ha.pe)) fun σ H Q ⟨W, s, R, h⟩ => ?_⟩
  have h : Post rO X.K Z σ W H ((f s).bind fun p s1 => match revA p with
    | some r => .ok r s1
    | none => .bad) Q := h
  cases e : f s with
  | bad => rw [e] at h; exact h.elim
  | exc x s1 => rw [e] at h; exact .inl ⟨W, s, R, by rw [e]; exact h⟩
  | ok p s1 =>
    rw [e] at h
    cases p with
    | lst ps =>
      refine .inl ⟨W, s, R, ?_⟩
      rw [e]
      intro x W1 H1 st R1 rx
      obtain ⟨b, vs, rfl, h1, h2⟩ := bv_lst rx
      exact ⟨b, vs, rfl, SqL.of h1, fun l hl => Post.newO (q := .lst ps.reverse) R1 hl (Post.step (r := Re.ok (PV.lst ps.reverse, true) s1) h st) ⟨_, upd_same, (Step.allocO hl (R1.nP hl)).rvs h2.rev⟩⟩
    | tup c ps =>
      refine .inr ⟨W, s, R, ?_⟩
      rw [e]
      intro x W1 H1 st R1 rx
      obtain ⟨b, vs, rfl, h1, h2⟩ := bv_tup rx
      refine ⟨b, vs, rfl, h1, fun l hl => ?_⟩
      have h' : Post rO X.K Z σ W1 H1 (Re.ok (PV.tup false ps.reverse, false) s1 : Re (PV × Bool)) Q := Post.step (r := Re.ok (PV.tup false ps.reverse, false) s1) h st
      exact Post.newP (Z := Z) (q := .tup false ps.reverse) R1 hl (Q := Q) (fun b W' H' st' R' r => h' b W' H' st' R' r) fun W2 st2 hL => new_tup hl hL (st2.rvs h2.rev)
    | _ => exact h.elim
end
end DR
/-! typed mirrors: encoders, loops, comprehensions, and that the forms do what the mirrors tell. -/
namespace TM
open PySem DR
section
variable {α β γ δ σ : Type}
/-! ### encoders -/
def eI (i : Int) : PV := .int i
def eB (b : Bool) : PV := .bl b
def eN (_ : Unit) : PV := .non
def eS (x : Str) : PV := .str x
def eL (E : α → PV) (xs : List α) : PV := .lst (xs.map E)
def eU (E : α → PV) (xs : List α) : PV := .tup false (xs.map E)
def eP2 (E : α → PV) (F : β → PV) (p : α × β) : PV := .tup false [E p.1, F p.2]
def eP3 (E : α → PV) (F : β → PV) (G : γ → PV) (p : α × β × γ) : PV := .tup false [E p.1, F p.2.1, G p.2.2]
def eP4 (E : α → PV) (F : β → PV) (G : γ → PV) (D : δ → PV) (p : α × β × γ × δ) : PV := .tup false [E p.1, F p.2.1, G p.2.2.1, D p.2.2.2]
def eO (E : α → PV) (o : Option α) : PV := match o with
  | none => .non
  | some x => E x
theorem eI_ap (i : Int) : eI i = .int i := (rfl)
theorem eB_ap (i : Bool) : eB i = .bl i := (rfl)
theorem eN_ap (i : Unit) : eN i = .non := (rfl)
theorem eS_ap (i : Str) : eS i = .str i := (rfl)
theorem eL_ap (E : α → PV) (xs : List α) : eL E xs = .lst (xs.map E) := (rfl)
theorem eU_ap (E : α → PV) (xs : List α) : eU E xs = .tup false (xs.map E) := (rfl)
theorem eP2_ap (E : α → PV) (F : β → PV) (p : α × β) : eP2 E F p = .tup false [E p.1, F p.2] := (rfl)
theorem eP3_ap (E : α → PV) (F : β → PV) (G : γ → PV) (p : α × β × γ) : eP3 E F G p = .tup false [E p.1, F p.2.1, G p.2.2] := (rfl)
theorem eP4_ap (E : α → PV) (F : β → PV) (G : γ → PV) (D : δ → PV) (p : α × β × γ × δ) : eP4 E F G D p = .tup false [E p.1, F p.2.1, G p.2.2.1, D p.2.2.2] := (rfl)
theorem eO_none (E : α → PV) : eO E none = .non := (rfl)
theorem eO_some (E : α → PV) (x : α) : eO E (some x) = E x := (rfl)
/-! ### loops -/
inductive Fw (σ β : Type) where
  | nx (s : σ) | bk (s : σ) | rt (b : β)
def foldO (f : σ → α → Option σ) : List α → σ → Option σ
  | [], s => some s
  | x :: xs, s => (f s x).bind fun s1 => foldO f xs s1
def forO (f : σ → α → Option (Fw σ β)) : List α → σ → Option (σ ⊕ β)
  | [], s => some (.inl s)
  | x :: xs, s => (f s x).bind fun o => match o with
    | .nx s1 => forO f xs s1
    | .bk s1 => some (.inl s1)
    | .rt b => some (.inr b)
def whileO (c : σ → Option Bool) (f : σ → Option (Fw σ β)) : Nat → σ → Option (σ ⊕ β)
  | 0, _ => none
  | n + 1, s => (c s).bind fun b => if b = true then (f s).bind fun o => match o with
      | .nx s1 => whileO c f n s1
      | .bk s1 => some (.inl s1)
      | .rt b => some (.inr b)
    else some (.inl s)
def BodyOk (b : SM) (d : DS) (I : σ → DS → Prop) (R : β → PV × Bool) (J : β → DS → Prop) (o : Fw σ β) : Prop := match o with
  | .nx s => ∃ d', (b d = .ok .nx d' ∨ b d = .ok .ct d') ∧ I s d'
  | .bk s => ∃ d', b d = .ok .bk d' ∧ I s d'
  | .rt v => ∃ d', b d = .ok (.rt (R v).1 (R v).2) d' ∧ J v d'
def LoopOk (r : Re Fl) (I : σ → DS → Prop) (R : β → PV × Bool) (J : β → DS → Prop) (o : σ ⊕ β) : Prop := match o with
  | .inl s => ∃ d', r = .ok .nx d' ∧ I s d'
  | .inr v => ∃ d', r = .ok (.rt (R v).1 (R v).2) d' ∧ J v d'
theorem for_fold {tg : Tg} {b : SM} {E : α → PV} {I : σ → DS → Prop} {f : σ → α → Option σ} (hb : ∀ s d x s', I s d → f s x = some s' → ∃ e1, asgT tg (E x) d.e = some e1 ∧ ∃ d', (b ⟨e1, d.t⟩ = .ok .nx d' ∨ b ⟨e1, d.t⟩ = .ok .ct d') ∧ I s' d') :
    ∀ (xs : List α) (s : σ) (d : DS) (s' : σ), I s d → foldO f xs s = some s' → ∃ d', forL tg b (xs.map E) d = .ok .nx d' ∧ I s' d'
  | [], s, d, s', i, h => by
    cases h
    exact ⟨d, rfl, i⟩
  | x :: xs, s, d, s', i, h => by
    unfold foldO at h
    obtain ⟨s1, h1, h2⟩ := Option.bind_eq_some_iff.mp h
    obtain ⟨e1, g1, d1, g2, g3⟩ := hb s d x s1 i h1
    obtain ⟨d2, k1, k2⟩ := for_fold hb xs s1 d1 s' g3 h2
    refine ⟨d2, ?_, k2⟩
    rw [List.map_cons]
    unfold forL
    rw [g1]
    rcases g2 with g2 | g2 <;> (simp only [g2, bind_ok]; exact k1)
theorem for_for {tg : Tg} {b : SM} {E : α → PV} {I : σ → DS → Prop} {R : β → PV × Bool} {J : β → DS → Prop} {f : σ → α → Option (Fw σ β)} (hb : ∀ s d x o, I s d → f s x = some o → ∃ e1, asgT tg (E x) d.e = some e1 ∧ BodyOk b ⟨e1, d.t⟩ I R J o) :
    ∀ (xs : List α) (s : σ) (d : DS) (o : σ ⊕ β), I s d → forO f xs s = some o → LoopOk (forL tg b (xs.map E) d) I R J o
  | [], s, d, o, i, h => by
    cases h
    exact ⟨d, rfl, i⟩
  | x :: xs, s, d, o, i, h => by
    unfold forO at h
    obtain ⟨o1, h1, h2⟩ := Option.bind_eq_some_iff.mp h
    obtain ⟨e1, g1, g2⟩ := hb s d x o1 i h1
    rw [List.map_cons]
    unfold forL
    rw [g1]
    cases o1 with
    | nx s1 =>
      obtain ⟨d1, g2, g3⟩ := g2
      have k := for_for hb xs s1 d1 o g3 h2
      rcases g2 with g2 | g2 <;> (simp only [g2, bind_ok]; exact k)
    | bk s1 =>
      obtain ⟨d1, g2, g3⟩ := g2
      simp only [g2, bind_ok]
      cases h2
      exact ⟨d1, rfl, g3⟩
    | rt v =>
      obtain ⟨d1, g2, g3⟩ := g2
      simp only [g2, bind_ok]
      cases h2
      exact ⟨d1, rfl, g3⟩
theorem while_sim {tt : TM} {b : SM} {I : σ → DS → Prop} {R : β → PV × Bool} {J : β → DS → Prop} {c : σ → Option Bool} {f : σ → Option (Fw σ β)} (hc : ∀ s d v, I s d → c s = some v → tt d = .ok v d) (hb : ∀ s d o, I s d → c s = some true → f s = some o → BodyOk b d I R J o) :
    ∀ (n : Nat) (s : σ) (d : DS) (o : σ ⊕ β), I s d → whileO c f n s = some o → LoopOk (whileN tt b n d) I R J o
  | 0, s, d, o, i, h => by cases h
  | n + 1, s, d, o, i, h => by
    unfold whileO at h
    obtain ⟨v, h1, h2⟩ := Option.bind_eq_some_iff.mp h
    unfold whileN
    rw [hc s d v i h1]
    simp only [bind_ok]
    cases v with
    | false =>
      rw [if_neg (by decide)] at h2 ⊢
      cases h2
      exact ⟨d, rfl, i⟩
    | true =>
      rw [if_pos rfl] at h2 ⊢
      obtain ⟨o1, h3, h4⟩ := Option.bind_eq_some_iff.mp h2
      have g := hb s d o1 i h1 h3
      cases o1 with
      | nx s1 =>
        obtain ⟨d1, g2, g3⟩ := g
        have k := while_sim hc hb n s1 d1 o g3 h4
        rcases g2 with g2 | g2 <;> (simp only [g2, bind_ok]; exact k)
      | bk s1 =>
        obtain ⟨d1, g2, g3⟩ := g
        simp only [g2, bind_ok]
        cases h4
        exact ⟨d1, rfl, g3⟩
      | rt v =>
        obtain ⟨d1, g2, g3⟩ := g
        simp only [g2, bind_ok]
        cases h4
        exact ⟨d1, rfl, g3⟩
/-! ### comprehensions -/
def lenO (l : List α) : Option (List α) := if l.length ≤ sizeLine then some l else none
def mapO (f : α → Option β) : List α → Option (List β)
  | [] => some []
  | x :: xs => (f x).bind fun y => (mapO f xs).bind fun ys => some (y :: ys)
def compO (f : α → Option (Option β)) (xs : List α) : Option (List β) := (mapO f xs).bind fun os => lenO (os.filterMap id)
def compM (f : α → Option β) (xs : List α) : Option (List β) := (mapO f xs).bind fun os => lenO os
/-- with a state -/
def mapS (f : σ → α → Option (β × σ)) : List α → σ → Option (List β × σ)
  | [], s => some ([], s)
  | x :: xs, s => (f s x).bind fun r => (mapS f xs r.2).bind fun q => some (r.1 :: q.1, q.2)
def compS (f : σ → α → Option (Option β × σ)) (xs : List α) (s : σ) : Option (List β × σ) := (mapS f xs s).bind fun r => (lenO (r.1.filterMap id)).bind fun l => some (l, r.2)
def compN (f : σ → α → Option (β × σ)) (xs : List α) (s : σ) : Option (List β × σ) := (mapS f xs s).bind fun r => (lenO r.1).bind fun l => some (l, r.2)
/-- one item of a comprehension -/
def ItemOk (tt : DR.TM) (fe : EM) (vs : List Nat) (e0 : DE) (F : β → PV) (d : DS) (t' : DT) (o : Option β) : Prop := match o with
  | none => ∃ d2, tt d = .ok false d2 ∧ wipeE vs d2.e = e0 ∧ d2.t = t'
  | some y => ∃ d1 d2, tt d = .ok true d1 ∧ fe d1 = .ok (F y) d2 ∧ wipeE vs d2.e = e0 ∧ d2.t = t'
theorem lcL_sim {tg : Tg} {tt : DR.TM} {fe : EM} {vs : List Nat} {e0 : DE} {T : σ → DT} {E : α → PV} {F : β → PV} {f : σ → α → Option (Option β × σ)} (hf : ∀ s x o s', f s x = some (o, s') → ∃ e1, asgT tg (E x) e0 = some e1 ∧ ItemOk tt fe vs e0 F ⟨e1, T s⟩ (T s') o) :
    ∀ (xs : List α) (acc : List PV) (d : DS) (s s' : σ) (os : List (Option β)), mapS f xs s = some (os, s') → wipeE vs d.e = e0 → d.t = T s → acc.length + (os.filterMap id).length ≤ sizeLine → ∃ d', lcL tg tt fe vs (xs.map E) acc d = .ok (acc ++ (os.filterMap id).map F) d' ∧ wipeE vs d'.e = e0 ∧ d'.t = T s'
  | [], acc, d, s, s', os, h, h1, h2, hl => by
    cases h
    exact ⟨d, by simp [lcL], h1, h2⟩
  | x :: xs, acc, d, s, s', os, h, h1, h2, hl => by
    unfold mapS at h
    obtain ⟨⟨o, s1⟩, h3, h4⟩ := Option.bind_eq_some_iff.mp h
    obtain ⟨⟨os1, s2⟩, h5, h6⟩ := Option.bind_eq_some_iff.mp h4
    cases h6
    obtain ⟨e1, g1, g2⟩ := hf s x o s1 h3
    rw [List.map_cons, lcL_cons, h1, g1]
    simp only [h2]
    cases o with
    | none =>
      obtain ⟨d2, k1, k2, k3⟩ := g2
      obtain ⟨d3, m1, m2, m3⟩ := lcL_sim hf xs acc d2 s1 _ os1 h5 k2 k3 (by simpa using hl)
      refine ⟨d3, ?_, m2, m3⟩
      simp only [k1, bind_ok]
      rw [if_neg (by decide), m1]
      simp
    | some y =>
      obtain ⟨d1, d2, k0, k1, k2, k3⟩ := g2
      simp only [List.filterMap_cons, id, List.length_cons] at hl
      obtain ⟨d3, m1, m2, m3⟩ := lcL_sim hf xs (acc ++ [F y]) d2 s1 _ os1 h5 k2 k3 (by simp; omega)
      refine ⟨d3, ?_, m2, m3⟩
      simp only [k0, bind_ok, if_true, k1]
      rw [if_pos (by omega), m1]
      simp
theorem lcO_S {it : IM} {tg : Tg} {tt : DR.TM} {fe : EM} {vs : List Nat} {T : σ → DT} {E : α → PV} {F : β → PV} {f : σ → α → Option (Option β × σ)} {xs : List α} {d0 : DS} {e1 : DE} {s s' : σ} {ys : List β} (hit : it d0 = .ok (xs.map E) ⟨e1, T s⟩) (h : compS f xs s = some (ys, s'))
    (hf : ∀ s x o s', f s x = some (o, s') → ∃ e2, asgT tg (E x) (wipeE vs e1) = some e2 ∧ ItemOk tt fe vs (wipeE vs e1) F ⟨e2, T s⟩ (T s') o) : lcO it tg tt fe vs d0 = .ok (.lst (ys.map F), true) ⟨restE vs e1 e1, T s'⟩ := by
  obtain ⟨⟨os, s1⟩, h1, h2⟩ := Option.bind_eq_some_iff.mp h
  obtain ⟨l, h3, h4⟩ := Option.bind_eq_some_iff.mp h2
  cases h4
  unfold lenO at h3
  split at h3
  · rename_i hl
    cases h3
    obtain ⟨d', m1, m2, m3⟩ := lcL_sim (e0 := wipeE vs e1) hf xs [] ⟨e1, T s⟩ s _ os h1 rfl rfl (by simpa using hl)
    unfold lcO
    rw [hit, bind_ok, m1, noX_ok, bind_ok, m3, restE_eq m2]
    simp
  · cases h3
theorem mapS_unit {f : α → Option β} : ∀ (xs : List α) {ys : List β}, mapO f xs = some ys → mapS (fun (s : Unit) x => (f x).map fun y => (y, s)) xs () = some (ys, ())
  | [], ys, h => by cases h; rfl
  | x :: xs, ys, h => by
    unfold mapO at h
    obtain ⟨y, h1, h2⟩ := Option.bind_eq_some_iff.mp h
    obtain ⟨ys1, h3, h4⟩ := Option.bind_eq_some_iff.mp h2
    cases h4
    unfold mapS
    rw [h1]
    simp only [Option.map_some, Option.bind_some, mapS_unit xs h3]
theorem lcO_O {it : IM} {tg : Tg} {tt : DR.TM} {fe : EM} {vs : List Nat} {E : α → PV} {F : β → PV} {f : α → Option (Option β)} {xs : List α} {d0 : DS} {e1 : DE} {t : DT} {ys : List β} (hit : it d0 = .ok (xs.map E) ⟨e1, t⟩) (h : compO f xs = some ys)
    (hf : ∀ x o, f x = some o → ∃ e2, asgT tg (E x) (wipeE vs e1) = some e2 ∧ ItemOk tt fe vs (wipeE vs e1) F ⟨e2, t⟩ t o) : lcO it tg tt fe vs d0 = .ok (.lst (ys.map F), true) ⟨restE vs e1 e1, t⟩ := by
  obtain ⟨os, h1, h2⟩ := Option.bind_eq_some_iff.mp h
  refine lcO_S (T := fun _ : Unit => t) (f := fun s x => (f x).map fun y => (y, s)) (s := ()) (s' := ()) hit ?_ fun s x o s' g => ?_
  · unfold compS
    rw [mapS_unit xs h1]
    simp only [Option.bind_some, h2]
  · obtain ⟨y, g1, g2⟩ := Option.map_eq_some_iff.mp g
    cases g2
    exact hf x _ g1
theorem mapO_some (f : α → Option β) : ∀ {xs : List α} {ys : List β}, mapO f xs = some ys → mapO (fun x => (f x).map some) xs = some (ys.map some)
  | [], ys, h => by cases h; rfl
  | x :: xs, ys, h => by
    unfold mapO at h
    obtain ⟨y, h1, h2⟩ := Option.bind_eq_some_iff.mp h
    obtain ⟨ys1, h3, h4⟩ := Option.bind_eq_some_iff.mp h2
    cases h4
    unfold mapO
    rw [h1]
    simp only [Option.map_some, Option.bind_some, mapO_some f h3, List.map_cons]
theorem filterMap_some (ys : List β) : (ys.map some).filterMap id = ys := by
  induction ys with
  | nil => rfl
  | cons y ys ih => simp [ih]
/-- no guard -/
theorem lcO_M {it : IM} {tg : Tg} {fe : EM} {vs : List Nat} {E : α → PV} {F : β → PV} {f : α → Option β} {xs : List α} {d0 : DS} {e1 : DE} {t : DT} {ys : List β} (hit : it d0 = .ok (xs.map E) ⟨e1, t⟩) (h : compM f xs = some ys)
    (hf : ∀ x y, f x = some y → ∃ e2, asgT tg (E x) (wipeE vs e1) = some e2 ∧ ∃ d2, fe ⟨e2, t⟩ = .ok (F y) d2 ∧ wipeE vs d2.e = wipeE vs e1 ∧ d2.t = t) : lcO it tg yesT fe vs d0 = .ok (.lst (ys.map F), true) ⟨restE vs e1 e1, t⟩ := by
  obtain ⟨os, h1, h2⟩ := Option.bind_eq_some_iff.mp h
  refine lcO_O (f := fun x => (f x).map some) hit ?_ fun x o g => ?_
  · unfold compO
    rw [mapO_some f h1]
    simp only [Option.bind_some, filterMap_some, h2]
  · obtain ⟨y, g1, g2⟩ := Option.map_eq_some_iff.mp g
    cases g2
    obtain ⟨e2, k1, d2, k2, k3, k4⟩ := hf x y g1
    exact ⟨e2, k1, _, d2, rfl, k2, k3, k4⟩
theorem mapS_some (f : σ → α → Option (β × σ)) : ∀ {xs : List α} {ys : List β} {s s' : σ}, mapS f xs s = some (ys, s') → mapS (fun s x => (f s x).map fun r => (some r.1, r.2)) xs s = some (ys.map some, s')
  | [], ys, s, s', h => by cases h; rfl
  | x :: xs, ys, s, s', h => by
    unfold mapS at h
    obtain ⟨y, h1, h2⟩ := Option.bind_eq_some_iff.mp h
    obtain ⟨⟨ys1, s1⟩, h3, h4⟩ := Option.bind_eq_some_iff.mp h2
    cases h4
    unfold mapS
    rw [h1]
    simp only [Option.map_some, Option.bind_some, mapS_some f h3, List.map_cons]
theorem lcO_N {it : IM} {tg : Tg} {fe : EM} {vs : List Nat} {T : σ → DT} {E : α → PV} {F : β → PV} {f : σ → α → Option (β × σ)} {xs : List α} {d0 : DS} {e1 : DE} {s s' : σ} {ys : List β} (hit : it d0 = .ok (xs.map E) ⟨e1, T s⟩) (h : compN f xs s = some (ys, s'))
    (hf : ∀ s x y s', f s x = some (y, s') → ∃ e2, asgT tg (E x) (wipeE vs e1) = some e2 ∧ ∃ d2, fe ⟨e2, T s⟩ = .ok (F y) d2 ∧ wipeE vs d2.e = wipeE vs e1 ∧ d2.t = T s') : lcO it tg yesT fe vs d0 = .ok (.lst (ys.map F), true) ⟨restE vs e1 e1, T s'⟩ := by
  obtain ⟨⟨os, s1⟩, h1, h2⟩ := Option.bind_eq_some_iff.mp h
  obtain ⟨l, h3, h4⟩ := Option.bind_eq_some_iff.mp h2
  cases h4
  refine lcO_S (f := fun s x => (f s x).map fun r => (some r.1, r.2)) hit ?_ fun s x o s' g => ?_
  · unfold compS
    rw [mapS_some f h1]
    simp only [Option.bind_some, filterMap_some, h3]
  · obtain ⟨⟨y, s2⟩, g1, g2⟩ := Option.map_eq_some_iff.mp g
    cases g2
    obtain ⟨e2, k1, d2, k2, k3, k4⟩ := hf s x y _ g1
    exact ⟨e2, k1, _, d2, rfl, k2, k3, k4⟩
/-- plain ones -/
theorem mapO_pure (g : α → β) : ∀ xs : List α, mapO (fun x => some (g x)) xs = some (xs.map g)
  | [] => rfl
  | x :: xs => by unfold mapO; rw [mapO_pure g xs]; rfl
theorem filter_map_eq (p : α → Bool) (g : α → β) (xs : List α) : (xs.map fun x => if p x = true then some (g x) else none).filterMap id = (xs.filter p).map g := by
  induction xs with
  | nil => rfl
  | cons x xs ih => cases h : p x <;> simp [h, ih]
theorem lcO_P {it : IM} {tg : Tg} {tt : DR.TM} {fe : EM} {vs : List Nat} {E : α → PV} {F : β → PV} {p : α → Bool} {g : α → β} {xs : List α} {d0 : DS} {e1 : DE} {t : DT} {ys : List β} (hit : it d0 = .ok (xs.map E) ⟨e1, t⟩) (h : lenO ((xs.filter p).map g) = some ys)
    (hf : ∀ x, ∃ e2, asgT tg (E x) (wipeE vs e1) = some e2 ∧ ∃ d1, tt ⟨e2, t⟩ = .ok (p x) d1 ∧ (p x = false → wipeE vs d1.e = wipeE vs e1 ∧ d1.t = t) ∧ (p x = true → ∃ d2, fe d1 = .ok (F (g x)) d2 ∧ wipeE vs d2.e = wipeE vs e1 ∧ d2.t = t)) : lcO it tg tt fe vs d0 = .ok (.lst (ys.map F), true) ⟨restE vs e1 e1, t⟩ := by
  refine lcO_O (f := fun x => some (if p x = true then some (g x) else none)) hit ?_ fun x o k => ?_
  · unfold compO
    rw [mapO_pure]
    simp only [Option.bind_some]
    rw [filter_map_eq, h]
  · cases k
    obtain ⟨e2, k1, d1, k2, k3, k4⟩ := hf x
    refine ⟨e2, k1, ?_⟩
    cases hp : p x with
    | false =>
      rw [if_neg (by decide)]
      rw [hp] at k2
      exact ⟨d1, k2, k3 hp⟩
    | true =>
      rw [if_pos rfl]
      rw [hp] at k2
      obtain ⟨d2, k5, k6⟩ := k4 hp
      exact ⟨d1, d2, k2, k5, k6⟩
theorem lcO_Q {it : IM} {tg : Tg} {fe : EM} {vs : List Nat} {E : α → PV} {F : β → PV} {g : α → β} {xs : List α} {d0 : DS} {e1 : DE} {t : DT} {ys : List β} (hit : it d0 = .ok (xs.map E) ⟨e1, t⟩) (h : lenO (xs.map g) = some ys)
    (hf : ∀ x, ∃ e2, asgT tg (E x) (wipeE vs e1) = some e2 ∧ ∃ d2, fe ⟨e2, t⟩ = .ok (F (g x)) d2 ∧ wipeE vs d2.e = wipeE vs e1 ∧ d2.t = t) : lcO it tg yesT fe vs d0 = .ok (.lst (ys.map F), true) ⟨restE vs e1 e1, t⟩ := by
  refine lcO_M (f := fun x => some (g x)) hit ?_ fun x y k => ?_
  · unfold compM
    rw [mapO_pure]
    exact h
  · cases k
    exact hf x
/-- two clauses -/
def comp2 (c : α → Option (Option (List β))) (f : α → β → Option (Option γ)) : List α → Option (List γ)
  | [] => some []
  | x :: xs => (c x).bind fun o => match o with
    | none => comp2 c f xs
    | some ys => (mapO (f x) ys).bind fun os => (comp2 c f xs).bind fun zs => some (os.filterMap id ++ zs)
def comp2O (c : α → Option (Option (List β))) (f : α → β → Option (Option γ)) (xs : List α) : Option (List γ) := (comp2 c f xs).bind fun l => lenO l
theorem comp2_sim {tg tg1 : Tg} {tt tt1 : DR.TM} {it1 : IM} {fe : EM} {vs vs1 : List Nat} {e0 : DE} {t : DT} {E : α → PV} {E1 : β → PV} {F : γ → PV} {c : α → Option (Option (List β))} {f : α → β → Option (Option γ)} (hsub : ∀ i ∈ vs1, i ∈ vs)
    (hf : ∀ x o, c x = some o → ∃ e1, asgT tg (E x) e0 = some e1 ∧ match o with
      | none => ∃ d2, tt ⟨e1, t⟩ = .ok false d2 ∧ wipeE vs d2.e = e0 ∧ d2.t = t
      | some ys => ∃ d1 e2, tt ⟨e1, t⟩ = .ok true d1 ∧ it1 d1 = .ok (ys.map E1) ⟨e2, t⟩ ∧ wipeE vs e2 = e0 ∧ ∀ y o', f x y = some o' → ∃ e3, asgT tg1 (E1 y) (wipeE vs1 e2) = some e3 ∧ ItemOk tt1 fe vs1 (wipeE vs1 e2) F ⟨e3, t⟩ t o') :
    ∀ (xs : List α) (acc : List PV) (d : DS) (zs : List γ), comp2 c f xs = some zs → wipeE vs d.e = e0 → d.t = t → acc.length + zs.length ≤ sizeLine → ∃ d', lc2L tg tt it1 tg1 tt1 fe vs vs1 (xs.map E) acc d = .ok (acc ++ zs.map F) d' ∧ wipeE vs d'.e = e0 ∧ d'.t = t
  | [], acc, d, zs, h, h1, h2, hl => by
    cases h
    exact ⟨d, by simp [lc2L], h1, h2⟩
  | x :: xs, acc, d, zs, h, h1, h2, hl => by
    unfold comp2 at h
    obtain ⟨o, h3, h4⟩ := Option.bind_eq_some_iff.mp h
    obtain ⟨e1, g1, g2⟩ := hf x o h3
    rw [List.map_cons, lc2L_cons, h1, g1]
    simp only [h2]
    cases o with
    | none =>
      obtain ⟨d2, k1, k2, k3⟩ := g2
      obtain ⟨d3, m1, m2, m3⟩ := comp2_sim hsub hf xs acc d2 zs h4 k2 k3 hl
      refine ⟨d3, ?_, m2, m3⟩
      simp only [k1, bind_ok]
      rw [if_neg (by decide), m1]
    | some ys =>
      obtain ⟨d1, e2, k0, k1, k2, k3⟩ := g2
      obtain ⟨os, h5, h6⟩ := Option.bind_eq_some_iff.mp h4
      obtain ⟨zs1, h7, h8⟩ := Option.bind_eq_some_iff.mp h6
      cases h8
      simp only [List.length_append] at hl
      obtain ⟨d2, n1, n2, n3⟩ := lcL_sim (T := fun _ : Unit => t) (tg := tg1) (tt := tt1) (fe := fe) (vs := vs1) (e0 := wipeE vs1 e2) (E := E1) (F := F) (f := fun s y => (f x y).map fun r => (r, s)) (fun s y o' s' hh => by
        obtain ⟨r, r1, r2⟩ := Option.map_eq_some_iff.mp hh
        cases r2
        exact k3 y _ r1) ys acc ⟨e2, t⟩ () () os (mapS_unit ys h5) rfl rfl (by omega)
      obtain ⟨d3, m1, m2, m3⟩ := comp2_sim hsub hf xs (acc ++ (os.filterMap id).map F) d2 zs1 h7 ((wipeE_eq_of hsub n2).trans k2) n3 (by simp; omega)
      refine ⟨d3, ?_, m2, m3⟩
      simp only [k0, bind_ok, if_true, k1, n1, m1]
      simp
theorem lc2O_O {it it1 : IM} {tg tg1 : Tg} {tt tt1 : DR.TM} {fe : EM} {vs vs1 : List Nat} {E : α → PV} {E1 : β → PV} {F : γ → PV} {c : α → Option (Option (List β))} {f : α → β → Option (Option γ)} {xs : List α} {d0 : DS} {e1 : DE} {t : DT} {ys : List γ} (hit : it d0 = .ok (xs.map E) ⟨e1, t⟩) (h : comp2O c f xs = some ys) (hsub : ∀ i ∈ vs1, i ∈ vs)
    (hf : ∀ x o, c x = some o → ∃ e2, asgT tg (E x) (wipeE vs e1) = some e2 ∧ match o with
      | none => ∃ d2, tt ⟨e2, t⟩ = .ok false d2 ∧ wipeE vs d2.e = wipeE vs e1 ∧ d2.t = t
      | some ys => ∃ d1 e3, tt ⟨e2, t⟩ = .ok true d1 ∧ it1 d1 = .ok (ys.map E1) ⟨e3, t⟩ ∧ wipeE vs e3 = wipeE vs e1 ∧ ∀ y o', f x y = some o' → ∃ e4, asgT tg1 (E1 y) (wipeE vs1 e3) = some e4 ∧ ItemOk tt1 fe vs1 (wipeE vs1 e3) F ⟨e4, t⟩ t o') :
    lc2O it tg tt it1 tg1 tt1 fe vs vs1 d0 = .ok (.lst (ys.map F), true) ⟨restE vs e1 e1, t⟩ := by
  obtain ⟨l, h1, h2⟩ := Option.bind_eq_some_iff.mp h
  unfold lenO at h2
  split at h2
  · rename_i hl
    cases h2
    obtain ⟨d', m1, m2, m3⟩ := comp2_sim (e0 := wipeE vs e1) hsub hf xs [] ⟨e1, t⟩ _ h1 rfl rfl (by simpa using hl)
    unfold lc2O
    rw [hit, bind_ok, m1, noX_ok, bind_ok, m3, restE_eq m2]
    simp
  · cases h2
end
end TM
/-! typed mirrors: the operators on typed values. -/
namespace TM
open PySem DR
section
variable {α β γ δ σ : Type}
/-! rows of the core's, for the rewriter -/
theorem s_set0 (a b : α) (l : List α) : (a :: l).set 0 b = b :: l := (rfl)
theorem s_setS (a b : α) (l : List α) (n : Nat) : (a :: l).set (n + 1) b = a :: l.set n b := (rfl)
theorem s_lc (a : α) (l : List α) : (a :: l).length = l.length + 1 := (rfl)
theorem s_ln : ([] : List α).length = 0 := (rfl)
theorem s_na (l : List α) : [] ++ l = l := (rfl)
theorem s_ca (a : α) (l m : List α) : (a :: l) ++ m = a :: (l ++ m) := (rfl)
theorem s_an (l : List α) : l ++ [] = l := List.append_nil l
theorem s_mc (f : α → β) (a : α) (l : List α) : (a :: l).map f = f a :: l.map f := (rfl)
theorem s_mn (f : α → β) : ([] : List α).map f = [] := (rfl)
theorem s_ma (f : α → β) (l m : List α) : (l ++ m).map f = l.map f ++ m.map f := List.map_append
theorem s_lm (f : α → β) (l : List α) : (l.map f).length = l.length := List.length_map f
theorem s_r0 (a : α) : List.replicate 0 a = [] := (rfl)
theorem s_rS (a : α) (n : Nat) : List.replicate (n + 1) a = a :: List.replicate n a := (rfl)
theorem s_dt : decide True = true := by simp
theorem s_df : decide False = false := by simp
theorem s_nt : (!true) = false := (rfl)
theorem s_nf : (!false) = true := (rfl)
theorem s_ta (b : Bool) : (true && b) = b := (rfl)
theorem s_fa (b : Bool) : (false && b) = false := (rfl)
theorem s_at (b : Bool) : (b && true) = b := by simp
theorem s_af (b : Bool) : (b && false) = false := by simp
theorem s_to (b : Bool) : (true || b) = true := (rfl)
theorem s_fo (b : Bool) : (false || b) = b := (rfl)
theorem s_ot (b : Bool) : (b || true) = true := by simp
theorem s_of (b : Bool) : (b || false) = b := by simp
theorem s_fx (b : Bool) : (false != b) = b := by cases b <;> rfl
theorem s_tx (b : Bool) : (true != b) = !b := by cases b <;> rfl
theorem s_it (a b : α) : (if True then a else b) = a := if_true a b
theorem s_if (a b : α) : (if False then a else b) = b := if_false a b
theorem s_tt : (true = true) = True := by simp
theorem s_ft : (false = true) = False := by simp
theorem s_tf : (true = false) = False := by simp
theorem s_ff : (false = false) = True := by simp
theorem s_nT : (¬ True) = False := by simp
theorem s_nF : (¬ False) = True := by simp
theorem s_om (f : α → β) (a : α) : (some a).map f = some (f a) := (rfl)
theorem s_omn (f : α → β) : (none : Option α).map f = none := (rfl)
theorem s_ob (f : α → Option β) (a : α) : (some a).bind f = f a := (rfl)
theorem s_eta (p : α × β) : (p.1, p.2) = p := (rfl)
theorem s_p1 (a : α) (b : β) : (a, b).1 = a := (rfl)
theorem s_p2 (a : α) (b : β) : (a, b).2 = b := (rfl)
theorem s_frameE (n : Nat) (ps : List PV) : frameE n ps = ps.map Sl.val ++ List.replicate (n - ps.length) .no := (rfl)
theorem s_wipe0 (e : DE) : wipeE [] e = e := (rfl)
theorem s_wipeS (v : Nat) (vs : List Nat) (e : DE) : wipeE (v :: vs) e = (wipeE vs e).set v .no := (rfl)
theorem s_rest0 (e e' : DE) : restE [] e e' = e' := (rfl)
theorem s_restS (v : Nat) (vs : List Nat) (e e' : DE) : restE (v :: vs) e e' = (restE vs e e').set v (rest1 (e.getD v .no)) := (rfl)
theorem s_rest1n : rest1 .no = .no := (rfl)
theorem s_rest1v (p : PV) : rest1 (.val p) = .val p := (rfl)
theorem s_rest1o (p : PV) : rest1 (.own p) = .no := (rfl)
theorem s_gd0 (a d : α) (l : List α) : (a :: l).getD 0 d = a := (rfl)
theorem s_gdS (a d : α) (l : List α) (n : Nat) : (a :: l).getD (n + 1) d = l.getD n d := (rfl)
theorem s_c0 : ((0 : Nat) : Int) = 0 := (rfl)
theorem s_c1 : ((1 : Nat) : Int) = 1 := (rfl)
theorem s_c2 : ((2 : Nat) : Int) = 2 := (rfl)
theorem s_c3 : ((3 : Nat) : Int) = 3 := (rfl)
theorem s_c4 : ((4 : Nat) : Int) = 4 := (rfl)
theorem s_c5 : ((5 : Nat) : Int) = 5 := (rfl)
theorem s_c6 : ((6 : Nat) : Int) = 6 := (rfl)
theorem s_c7 : ((7 : Nat) : Int) = 7 := (rfl)
theorem s_c8 : ((8 : Nat) : Int) = 8 := (rfl)
theorem s_c9 : ((9 : Nat) : Int) = 9 := (rfl)
theorem s_c10 : ((10 : Nat) : Int) = 10 := (rfl)
theorem s_c11 : ((11 : Nat) : Int) = 11 := (rfl)
theorem s_c12 : ((12 : Nat) : Int) = 12 := (rfl)
/-! tests that stay open -/
theorem t_and (t1 : DR.TM) (b : Bool) (s : DS) : kAndT t1 b s = if b = true then t1 s else .ok false s := (rfl)
theorem t_or (t1 : DR.TM) (b : Bool) (s : DS) : kOrT t1 b s = if b = true then .ok true s else t1 s := (rfl)
theorem e_and (f : EM) (b : Bool) (s : DS) : kAnd f (.bl b) s = if b = true then f s else .ok (.bl false) s := by cases b <;> rfl
theorem e_or (f : EM) (b : Bool) (s : DS) : kOr f (.bl b) s = if b = true then .ok (.bl true) s else f s := by cases b <;> rfl
theorem i_andT (b c : Bool) (s : DS) : (if b = true then Re.ok c s else .ok false s) = .ok (b && c) s := by cases b <;> rfl
theorem i_orT (b c : Bool) (s : DS) : (if b = true then Re.ok true s else .ok c s) = .ok (b || c) s := by cases b <;> rfl
theorem i_andE (b c : Bool) (s : DS) : (if b = true then Re.ok (PV.bl c) s else .ok (.bl false) s) = .ok (.bl (b && c)) s := by cases b <;> rfl
theorem i_orE (b c : Bool) (s : DS) : (if b = true then Re.ok (PV.bl true) s else .ok (.bl c) s) = .ok (.bl (b || c)) s := by cases b <;> rfl
theorem k_if {α : Type} (u v : DS → Re α) (b : Bool) (s : DS) : kIf u v b s = if b = true then u s else v s := (rfl)
theorem k_ch3 (G : P2) (f : EM) (q : PV) (b : Bool) (s : DS) : kCh3 G f q (some (.bl b)) s = if b = true then (f s).bind (kCh4 G q) else .ok (.bl false) s := by cases b <;> rfl
theorem i_ite (b : Bool) (E : α → PV) (x y : α) (s : DS) : (if b = true then Re.ok (E x) s else .ok (E y) s) = .ok (E (if b = true then x else y)) s := by cases b <;> rfl
theorem i_int (b : Bool) (x y : Int) (s : DS) : (if b = true then Re.ok (PV.int x) s else .ok (PV.int y) s) = .ok (PV.int (if b = true then x else y)) s := by cases b <;> rfl
/-! ### ints -/
def iabs (i : Int) : Int := if i < 0 then -i else i
theorem absG_t (i : Int) : absG (.int i) = some (.int (iabs i)) := (rfl)
def modO (i j : Int) : Option Int := if 0 < j then some (i % j) else none
theorem modO_pos {i j : Int} (h : 0 < j) : modO i j = some (i % j) := if_pos h
theorem modI_t (i j : Int) : modI (.int i) (.int j) = (modO i j).map .int := by
  unfold modI ii modO
  by_cases h : 0 < j <;> simp [h]
def divO (i j : Int) : Option Int := if 0 < j ∧ j < 1073741824 then some (i / j) else none
theorem divO_pos {i j : Int} (h : 0 < j) (g : j < 1073741824) : divO i j = some (i / j) := if_pos ⟨h, g⟩
theorem fdivI_t (i j : Int) : fdivI (.int i) (.int j) = (divO i j).map .int := by
  unfold fdivI ii divO
  by_cases h : 0 < j <;> by_cases g : j < 1073741824 <;> simp [h, g]
def mulB (i : Int) : Prop := -18446744073709551616 < i ∧ i < 18446744073709551616
instance (i : Int) : Decidable (mulB i) := inferInstanceAs (Decidable (_ ∧ _))
def mulT (i j : Int) : Option Int := if mulB i ∨ mulB j then some (i * j) else none
theorem mulT_l {i j : Int} (h : -18446744073709551616 < i) (g : i < 18446744073709551616) : mulT i j = some (i * j) := if_pos (.inl ⟨h, g⟩)
theorem mulT_r {i j : Int} (h : -18446744073709551616 < j) (g : j < 18446744073709551616) : mulT i j = some (i * j) := if_pos (.inr ⟨h, g⟩)
theorem mulT_mod {x y k : Int} (h : 0 < k) (g : k < 18446744073709551616) : mulT (x % k) y = some (x % k * y) := if_pos (.inl ⟨by have := Int.emod_nonneg x (show k ≠ 0 by omega); omega, by have := Int.emod_lt_of_pos x h; omega⟩)
theorem mulO_t (i j : Int) : mulO (.int i) (.int j) = (mulT i j).map fun r => (.int r, false) := by
  unfold mulO p2 mulI ii mulT mulB
  by_cases h : (-18446744073709551616 < i ∧ i < 18446744073709551616) ∨ (-18446744073709551616 < j ∧ j < 18446744073709551616)
  · rw [if_pos h]; simp [h]
  · rw [if_neg h]; simp [h, mulL]
theorem addI_t (i j : Int) : addI (.int i) (.int j) = some (.int (i + j)) := (rfl)
theorem addO_t (i j : Int) : addO (.int i) (.int j) = some (.int (i + j), false) := (rfl)
/-! ### lists -/
def idx (xs : List α) (i : Int) : Option α := L2.atI xs i
theorem atI_map (E : α → β) (xs : List α) (i : Int) : L2.atI (xs.map E) i = (idx xs i).map E := by
  unfold idx L2.atI
  rw [List.length_map]
  cases L2.ixN xs.length i with
  | none => rfl
  | some k => simp
theorem ixG_L (E : α → PV) (xs : List α) (i : Int) : ixG (.lst (xs.map E)) (.int i) = (idx xs i).map E := atI_map E xs i
theorem ixG_U (c : Bool) (E : α → PV) (xs : List α) (i : Int) : ixG (.tup c (xs.map E)) (.int i) = (idx xs i).map E := atI_map E xs i
theorem ixG_S (E : α → PV) (xs : List α) (i : Int) : ixG (.scr (xs.map E)) (.int i) = (idx xs i).map E := atI_map E xs i
theorem lixG_L (E : α → PV) (xs : List α) (i : Int) : lixG (.lst (xs.map E)) (.int i) = (idx xs i).map E := atI_map E xs i
theorem ixT0 (c : Bool) (a : PV) (l : List PV) : ixG (.tup c (a :: l)) (.int 0) = some a := DR.atI_nat (ps := a :: l) (n := 0) rfl
theorem ixT1 (c : Bool) (a b : PV) (l : List PV) : ixG (.tup c (a :: b :: l)) (.int 1) = some b := DR.atI_nat (ps := a :: b :: l) (n := 1) rfl
theorem ixT2 (c : Bool) (a b d : PV) (l : List PV) : ixG (.tup c (a :: b :: d :: l)) (.int 2) = some d := DR.atI_nat (ps := a :: b :: d :: l) (n := 2) rfl
theorem ixT3 (c : Bool) (a b d e : PV) (l : List PV) : ixG (.tup c (a :: b :: d :: e :: l)) (.int 3) = some e := DR.atI_nat (ps := a :: b :: d :: e :: l) (n := 3) rfl
theorem ixTm2 (c : Bool) (a b : PV) : ixG (.tup c [a, b]) (.int (-1)) = some b := (rfl)
theorem ixTm3 (c : Bool) (a b d : PV) : ixG (.tup c [a, b, d]) (.int (-1)) = some d := (rfl)
def setX (xs : List α) (j : Int) (v : α) : Option (List α) := (L2.ixN xs.length j).map fun k => xs.set k v
theorem map_set' (E : α → β) : ∀ (xs : List α) (k : Nat) (v : α), (xs.map E).set k (E v) = (xs.set k v).map E
  | [], _, _ => rfl
  | x :: xs, 0, v => rfl
  | x :: xs, k + 1, v => congrArg (E x :: ·) (map_set' E xs k v)
theorem setU_L (E : α → PV) (xs : List α) (j : Int) (v : α) : setU (.int j) (E v) (.lst (xs.map E)) = (setX xs j v).map fun z => (.lst (z.map E), .non) := by
  show ((L2.ixN (xs.map E).length j).map fun k => (PV.lst ((xs.map E).set k (E v)), PV.non)) = _
  rw [List.length_map]
  unfold setX
  cases L2.ixN xs.length j with
  | none => rfl
  | some k => simp only [Option.map_some, map_set']
def snoc (xs : List α) (x : α) : Option (List α) := if xs.length < sizeLine then some (xs ++ [x]) else none
theorem appU_L (E : α → PV) (xs : List α) (x : α) : appU (E x) (.lst (xs.map E)) = (snoc xs x).map fun z => (.lst (z.map E), .non) := by
  unfold appU snoc
  show (if (xs.map E).length < sizeLine then _ else _) = _
  rw [List.length_map]
  by_cases h : xs.length < sizeLine
  · rw [if_pos h, if_pos h, Option.map_some, List.map_append]; rfl
  · rw [if_neg h, if_neg h]; rfl
def appO (xs ys : List α) : Option (List α) := if xs.length + ys.length ≤ sizeLine then some (xs ++ ys) else none
theorem addO_L (E : α → PV) (xs ys : List α) : addO (.lst (xs.map E)) (.lst (ys.map E)) = (appO xs ys).map fun z => (.lst (z.map E), true) := by
  unfold addO p2 addI ii addL appO lineOk
  show Option.or (Option.map _ none) (Option.or (if decide ((xs.map E).length + (ys.map E).length ≤ sizeLine) = true then _ else _) _) = _
  rw [List.length_map, List.length_map]
  by_cases h : xs.length + ys.length ≤ sizeLine
  · rw [if_pos h, if_pos (decide_eq_true h), Option.map_some, List.map_append]; rfl
  · rw [if_neg h, if_neg (fun g => h (of_decide_eq_true g))]; rfl
theorem addO_U (E : α → PV) (xs ys : List α) : addO (.tup false (xs.map E)) (.tup false (ys.map E)) = (appO xs ys).map fun z => (.tup false (z.map E), false) := by
  unfold addO p2 addI ii addL addT appO lineOk
  show Option.or (Option.map _ none) (Option.or none (Option.or (Option.map _ (if decide ((xs.map E).length + (ys.map E).length ≤ sizeLine) = true then _ else _)) _)) = _
  rw [List.length_map, List.length_map]
  by_cases h : xs.length + ys.length ≤ sizeLine
  · rw [if_pos h, if_pos (decide_eq_true h)]
    show some (PV.tup false _, false) = some (PV.tup false (List.map E (xs ++ ys)), false)
    rw [List.map_append]
  · rw [if_neg h, if_neg (fun g => h (of_decide_eq_true g))]; rfl
def repO (xs : List α) (k : Int) : Option (List α) := if (-9223372036854775808 ≤ k ∧ k < 9223372036854775808) ∧ xs.length * k.toNat ≤ sizeLine then some (List.replicate k.toNat xs).flatten else none
theorem map_rep (E : α → β) (xs : List α) (n : Nat) : (List.replicate n (xs.map E)).flatten = (List.replicate n xs).flatten.map E := by
  induction n with
  | zero => rfl
  | succ n ih => rw [List.replicate_succ, List.flatten_cons, ih, List.replicate_succ, List.flatten_cons, List.map_append]
theorem mulO_L (E : α → PV) (xs : List α) (k : Int) : mulO (.lst (xs.map E)) (.int k) = (repO xs k).map fun z => (.lst (z.map E), true) := by
  unfold mulO p2 mulI ii mulL repO lineOk
  show Option.or (Option.map _ none) (if (decide (-9223372036854775808 ≤ k ∧ k < 9223372036854775808) && decide ((xs.map E).length * k.toNat ≤ sizeLine)) = true then _ else _) = _
  rw [List.length_map, map_rep]
  by_cases h : (-9223372036854775808 ≤ k ∧ k < 9223372036854775808) ∧ xs.length * k.toNat ≤ sizeLine
  · rw [if_pos h, if_pos (by rw [Bool.and_eq_true, decide_eq_true_eq, decide_eq_true_eq]; exact h)]
    rfl
  · rw [if_neg h, if_neg (by rw [Bool.and_eq_true, decide_eq_true_eq, decide_eq_true_eq]; exact h)]
    rfl
def cutT (xs : List α) (lo hi : Option Int) : List α := (xs.drop (HT.sIx xs.length 0 lo)).take (HT.sIx xs.length xs.length hi - HT.sIx xs.length 0 lo)
theorem cutP_map (E : α → PV) (xs : List α) (lo hi : Option Int) : cutP (xs.map E) lo hi = (cutT xs lo hi).map E := by
  unfold cutP cutT
  rw [List.length_map, List.map_take, List.map_drop]
theorem cutG_L (E : α → PV) (xs : List α) (lo hi : Option Int) : cutG (.lst (xs.map E)) lo hi = some (.lst ((cutT xs lo hi).map E), true) := by
  show some (PV.lst _, true) = _
  rw [cutP_map]
theorem cutG_S (E : α → PV) (xs : List α) (lo hi : Option Int) : cutG (.scr (xs.map E)) lo hi = some (.lst ((cutT xs lo hi).map E), true) := by
  show some (PV.lst _, true) = _
  rw [cutP_map]
theorem cutG_U (c : Bool) (E : α → PV) (xs : List α) (lo hi : Option Int) : cutG (.tup c (xs.map E)) lo hi = some (.tup c ((cutT xs lo hi).map E), false) := by
  show some (PV.tup c _, false) = _
  rw [cutP_map]
theorem revG_L (E : α → PV) (xs : List α) : revG (.lst (xs.map E)) = some (.lst (xs.reverse.map E), true) := by
  show some (PV.lst _, true) = _
  rw [List.map_reverse]
/-! bools, sums, largest -/
theorem bools_t : ∀ bs : List Bool, bools (bs.map eB) = some bs
  | [] => rfl
  | b :: bs => by simp [eB, bools, bools_t bs]
theorem allG_t (bs : List Bool) : allG (.lst (bs.map eB)) = some (.bl (bs.all id)) := by simp [allG, bools_t]
theorem anyG_t (bs : List Bool) : anyG (.lst (bs.map eB)) = some (.bl (bs.any id)) := by simp [anyG, bools_t]
theorem intsP_t : ∀ bs : List Int, intsP (bs.map eI) = some bs
  | [] => rfl
  | b :: bs => by simp [eI, intsP, intsP_t bs]
theorem sumG_t (bs : List Int) : sumG (.lst (bs.map eI)) = some (.int bs.sum) := by simp [sumG, intsP_t]
theorem maxA_L (bs : List Int) : maxA (.lst (bs.map eI)) = (maxL bs).map .int := by
  simp only [maxA, maxG, maxTG, intsP_t, Option.bind_some]
  cases maxL bs <;> rfl
theorem minA_L (bs : List Int) : minA (.lst (bs.map eI)) = (minL bs).map .int := by
  simp only [minA, minG, minTG, intsP_t, Option.bind_some]
  cases minL bs <;> rfl
theorem maxA_U (c : Bool) (bs : List Int) : maxA (.tup c (bs.map eI)) = (maxL bs).map .int := by
  simp only [maxA, maxG, maxTG, intsP_t, Option.bind_some]
  cases maxL bs <;> rfl
theorem minA_U (c : Bool) (bs : List Int) : minA (.tup c (bs.map eI)) = (minL bs).map .int := by
  simp only [minA, minG, minTG, intsP_t, Option.bind_some]
  cases minL bs <;> rfl
/-! ranges, enumerate, zip -/
def rng (a b : Int) : List Int := (List.range (b - a).toNat).map fun (i : Nat) => a + (i : Int)
def rngO (a b : Int) : Option (List Int) := if -(4611686018427387904) ≤ a ∧ a < 4611686018427387904 ∧ -(4611686018427387904) ≤ b ∧ b < 4611686018427387904 then some (rng a b) else none
theorem rngO_ok {a b : Int} (h1 : -(4611686018427387904) ≤ a) (h2 : a < 4611686018427387904) (h3 : -(4611686018427387904) ≤ b) (h4 : b < 4611686018427387904) : rngO a b = some (rng a b) := if_pos ⟨h1, h2, h3, h4⟩
def reO (o : Option (List PV)) (s : DS) : Re (List PV) := match o with
  | some l => .ok l s
  | none => .bad
theorem reO_some (l : List PV) (s : DS) : reO (some l) s = .ok l s := (rfl)
theorem rangeP_t (a b : Int) : rangeP a (b - a).toNat = (rng a b).map eI := by
  unfold rangeP rng
  rw [List.map_map]
  rfl
theorem kR1_t (j : Int) (s : DS) : kR1 (.int j) s = reO ((rngO 0 j).map fun l => l.map eI) s := by
  show (if big62 j then Re.ok (rangeP 0 j.toNat) s else .bad) = _
  unfold rngO big62
  have e : rangeP 0 j.toNat = (rng 0 j).map eI := by rw [← rangeP_t, Int.sub_zero]
  rw [e]
  by_cases h : -(4611686018427387904) ≤ j ∧ j < 4611686018427387904
  · rw [if_pos (by simpa using h), if_pos ⟨by decide, by decide, h⟩]; rfl
  · rw [if_neg (by simpa using h), if_neg (fun g => h g.2.2)]; rfl
theorem kR2_t (i j : Int) (s : DS) : kR2b (.int i) (.int j) s = reO ((rngO i j).map fun l => l.map eI) s := by
  show (if (big62 i && big62 j) = true then Re.ok (rangeP i (j - i).toNat) s else .bad) = _
  rw [rangeP_t]
  unfold rngO big62
  by_cases h : -(4611686018427387904) ≤ i ∧ i < 4611686018427387904 ∧ -(4611686018427387904) ≤ j ∧ j < 4611686018427387904
  · rw [if_pos (by simp; omega), if_pos h]; rfl
  · rw [if_neg (by simp; omega), if_neg h]; rfl
def enumT : Nat → List α → List (Int × α)
  | _, [] => []
  | i, x :: xs => ((i : Int), x) :: enumT (i + 1) xs
theorem enumP_t (E : α → PV) : ∀ (i : Nat) (xs : List α), enumP i (xs.map E) = (enumT i xs).map (eP2 eI E)
  | _, [] => rfl
  | i, x :: xs => by
    simp only [List.map_cons, enumP, enumT, enumP_t E (i + 1) xs]
    rfl
theorem zipP_t (E : α → PV) (F : β → PV) : ∀ (xs : List α) (ys : List β), zipP (xs.map E) (ys.map F) = (xs.zip ys).map (eP2 E F)
  | [], _ => by simp [zipP]
  | x :: xs, [] => by simp [zipP]
  | x :: xs, y :: ys => by
    simp only [List.map_cons, zipP, List.zip_cons_cons, zipP_t E F xs ys]
    rfl
/-! ### equality, membership -/
class EqOk (E : α → PV) (n : outParam Nat) [DecidableEq α] where
  D : α → PyData
  h1 : ∀ x, toD (E x) = some (D x)
  h2 : ∀ x, (D x).canLay0 = true
  h3 : ∀ x, (D x).depth ≤ n
  h4 : ∀ x y, PyData.eqv (D x) (D y) = decide (x = y)
instance : EqOk eI 0 := ⟨.int, fun _ => rfl, fun _ => by simp [PyData.canLay0], fun _ => by simp [PyData.depth], fun x y => by
  simp only [PyData.eqv]
  by_cases h : x = y <;> simp [h]⟩
instance : EqOk eB 0 := ⟨.bool, fun _ => rfl, fun _ => by simp [PyData.canLay0], fun _ => by simp [PyData.depth], fun x y => by
  simp only [PyData.eqv]
  cases x <;> cases y <;> rfl⟩
theorem toDs_t {E : α → PV} {D : α → PyData} (h : ∀ x, toD (E x) = some (D x)) : ∀ xs : List α, toDs (xs.map E) = some (xs.map D)
  | [] => rfl
  | x :: xs => by simp [toDs, h x, toDs_t h xs]
theorem lay_t {D : α → PyData} (h : ∀ x, (D x).canLay0 = true) : ∀ xs : List α, PyData.canLayAll0 (xs.map D) = true
  | [] => by simp [PyData.canLayAll0]
  | x :: xs => by simp [PyData.canLayAll0, h x, lay_t h xs]
theorem dep_t {D : α → PyData} {n : Nat} (h : ∀ x, (D x).depth ≤ n) : ∀ xs : List α, PyData.depthAll (xs.map D) ≤ n
  | [] => by simp [PyData.depthAll]
  | x :: xs => by
    have h1 := h x
    have h2 := dep_t h xs
    simp only [List.map_cons, PyData.depthAll]
    omega
theorem eqv_t [DecidableEq α] {D : α → PyData} (h : ∀ x y, PyData.eqv (D x) (D y) = decide (x = y)) : ∀ xs ys : List α, PyData.eqvAll (xs.map D) (ys.map D) = decide (xs = ys)
  | [], [] => by simp [PyData.eqvAll]
  | [], y :: ys => by simp [PyData.eqvAll]
  | x :: xs, [] => by simp [PyData.eqvAll]
  | x :: xs, y :: ys => by
    simp only [List.map_cons, PyData.eqvAll, h x y, eqv_t h xs ys, List.cons.injEq]
    by_cases h : x = y <;> by_cases g : xs = ys <;> simp [h, g]
instance [DecidableEq α] (E : α → PV) (n : Nat) [e : EqOk E n] : EqOk (eL E) (n + 1) := ⟨fun xs => .list (xs.map e.D), fun xs => by simp [eL, toD, toDs_t e.h1], fun xs => by simp [PyData.canLay0, lay_t e.h2], fun xs => by
  have := dep_t e.h3 xs
  simp only [PyData.depth]
  omega, fun xs ys => by simp only [PyData.eqv, eqv_t e.h4]⟩
instance [DecidableEq α] (E : α → PV) (n : Nat) [e : EqOk E n] : EqOk (eU E) (n + 1) := ⟨fun xs => .tuple (xs.map e.D), fun xs => by simp [eU, toD, toDs_t e.h1], fun xs => by simp [PyData.canLay0, lay_t e.h2], fun xs => by
  have := dep_t e.h3 xs
  simp only [PyData.depth]
  omega, fun xs ys => by simp only [PyData.eqv, eqv_t e.h4]⟩
instance [DecidableEq α] [DecidableEq β] (E : α → PV) (F : β → PV) (m n : Nat) [e : EqOk E m] [f : EqOk F n] : EqOk (eP2 E F) (m + n + 1) := ⟨fun p => .tuple [e.D p.1, f.D p.2], fun p => by simp [eP2, toD, toDs, e.h1, f.h1], fun p => by simp [PyData.canLay0, PyData.canLayAll0, e.h2, f.h2], fun p => by
  have h1 := e.h3 p.1
  have h2 := f.h3 p.2
  simp only [PyData.depth, PyData.depthAll]
  omega, fun p q => by
  obtain ⟨a, b⟩ := p
  obtain ⟨c, d⟩ := q
  simp only [PyData.eqv, PyData.eqvAll, e.h4, f.h4, Prod.mk.injEq]
  by_cases h : a = c <;> by_cases g : b = d <;> simp [h, g]⟩
instance [DecidableEq α] [DecidableEq β] [DecidableEq γ] (E : α → PV) (F : β → PV) (G : γ → PV) (m n k : Nat) [e : EqOk E m] [f : EqOk F n] [g : EqOk G k] : EqOk (eP3 E F G) (m + n + k + 1) := ⟨fun p => .tuple [e.D p.1, f.D p.2.1, g.D p.2.2], fun p => by simp [eP3, toD, toDs, e.h1, f.h1, g.h1], fun p => by simp [PyData.canLay0, PyData.canLayAll0, e.h2, f.h2, g.h2], fun p => by
  have h1 := e.h3 p.1
  have h2 := f.h3 p.2.1
  have h3 := g.h3 p.2.2
  simp only [PyData.depth, PyData.depthAll]
  omega, fun p q => by
  obtain ⟨a, b, x⟩ := p
  obtain ⟨c, d, y⟩ := q
  simp only [PyData.eqv, PyData.eqvAll, e.h4, f.h4, g.h4, Prod.mk.injEq]
  by_cases h : a = c <;> by_cases g : b = d <;> by_cases k : x = y <;> simp [h, g, k]⟩
/-- never None -/
class NotNone (E : α → PV) : Prop where
  h : ∀ x, ∃ p : PV, E x = p ∧ (∀ d, toD p = some d → PyData.eqv d .none = false ∧ PyData.eqv .none d = false)
  i : ∀ x, isG false (E x) .non = some (.bl false)
  j : ∀ x, isG true (E x) .non = some (.bl true)
instance : NotNone eI := ⟨fun x => ⟨_, rfl, fun d h => by cases h; simp [PyData.eqv]⟩, fun _ => rfl, fun _ => rfl⟩
instance : NotNone eB := ⟨fun x => ⟨_, rfl, fun d h => by cases h; simp [PyData.eqv]⟩, fun _ => rfl, fun _ => rfl⟩
theorem nn_lst {ps : List PV} {d : PyData} (h : toD (.lst ps) = some d) : PyData.eqv d .none = false ∧ PyData.eqv .none d = false := by
  obtain ⟨ds, _, rfl⟩ := Option.map_eq_some_iff.mp h
  simp [PyData.eqv]
theorem nn_tup {c : Bool} {ps : List PV} {d : PyData} (h : toD (.tup c ps) = some d) : PyData.eqv d .none = false ∧ PyData.eqv .none d = false := by
  obtain ⟨ds, _, rfl⟩ := Option.map_eq_some_iff.mp h
  simp [PyData.eqv]
instance (E : α → PV) : NotNone (eL E) := ⟨fun x => ⟨_, rfl, fun d h => nn_lst h⟩, fun _ => rfl, fun _ => rfl⟩
instance (E : α → PV) : NotNone (eU E) := ⟨fun x => ⟨_, rfl, fun d h => nn_tup h⟩, fun _ => rfl, fun _ => rfl⟩
instance (E : α → PV) (F : β → PV) : NotNone (eP2 E F) := ⟨fun x => ⟨_, rfl, fun d h => nn_tup h⟩, fun _ => rfl, fun _ => rfl⟩
instance (E : α → PV) (F : β → PV) (G : γ → PV) : NotNone (eP3 E F G) := ⟨fun x => ⟨_, rfl, fun d h => nn_tup h⟩, fun _ => rfl, fun _ => rfl⟩
instance [DecidableEq α] (E : α → PV) (n : Nat) [e : EqOk E n] [k : NotNone E] : EqOk (eO E) n := ⟨fun o => match o with
    | none => .none
    | some x => e.D x, fun o => by cases o with
      | none => rfl
      | some x => exact e.h1 x, fun o => by cases o with
      | none => simp [PyData.canLay0]
      | some x => exact e.h2 x, fun o => by cases o with
      | none => simp [PyData.depth]
      | some x => exact e.h3 x, fun o p => by
      have nn : ∀ x, PyData.eqv (e.D x) .none = false ∧ PyData.eqv .none (e.D x) = false := fun x => by
        obtain ⟨q, h1, h2⟩ := k.h x
        exact h2 _ (h1 ▸ e.h1 x)
      cases o with
      | none => cases p with
        | none => simp [PyData.eqv]
        | some y => simp [(nn y).2]
      | some x => cases p with
        | none => simp [(nn x).1]
        | some y => simp [e.h4]⟩
theorem okD_t [DecidableEq α] (E : α → PV) {n : Nat} [e : EqOk E n] (hn : n ≤ 62) (x : α) : okD (E x) = true := by
  have := e.h3 x
  simp [okD, e.h1, SeqAt.shaped, e.h2]
  omega
theorem eq_t0 [DecidableEq α] (b : Bool) (E : α → PV) {n : Nat} [e : EqOk E n] (x y : α) (hn : n ≤ 62) : eqG b (E x) (E y) = some (.bl (b != decide (x = y))) := by
  unfold eqG
  rw [okD_t E hn, okD_t E hn]
  have : eqD (E x) (E y) = decide (x = y) := by
    unfold eqD
    rw [e.h1, e.h1]
    exact e.h4 x y
  rw [this]
  rfl
theorem eq_t [DecidableEq α] (b : Bool) (E : α → PV) {n : Nat} [e : EqOk E n] (x y : α) (hn : n ≤ 62) {i : Decidable (x = y)} : eqG b (E x) (E y) = some (.bl (b != @decide (x = y) i)) := by
  rw [eq_t0 b E x y hn]
  congr
theorem eq_I (b : Bool) (x y : Int) : eqG b (.int x) (.int y) = some (.bl (b != decide (x = y))) := eq_t b eI x y (by decide)
theorem eq_B (b : Bool) (x y : Bool) : eqG b (.bl x) (.bl y) = some (.bl (b != decide (x = y))) := eq_t b eB x y (by decide)
theorem eq_L [DecidableEq α] (b : Bool) (E : α → PV) {n : Nat} [e : EqOk E n] (xs ys : List α) (hn : n ≤ 60) : eqG b (.lst (xs.map E)) (.lst (ys.map E)) = some (.bl (b != decide (xs = ys))) := eq_t b (eL E) xs ys (by omega)
theorem eq_U [DecidableEq α] (b : Bool) (E : α → PV) {n : Nat} [e : EqOk E n] (xs ys : List α) (hn : n ≤ 60) : eqG b (.tup false (xs.map E)) (.tup false (ys.map E)) = some (.bl (b != decide (xs = ys))) := eq_t b (eU E) xs ys (by omega)
theorem mem_any [DecidableEq α] {D : α → PyData} (h : ∀ x y, PyData.eqv (D x) (D y) = decide (x = y)) (x : α) (xs : List α) : ((xs.map D).any fun z => PyData.eqv z (D x)) = decide (x ∈ xs) := by
  induction xs with
  | nil => simp
  | cons y xs ih =>
    simp only [List.map_cons, List.any_cons, ih, h, List.mem_cons]
    by_cases g : y = x
    · simp [g]
    · simp [g, Ne.symm g]
theorem memD_t [DecidableEq α] (E : α → PV) {n : Nat} [e : EqOk E n] (x : α) (xs : List α) (hn : n ≤ 62) : memD (E x) (xs.map E) = some (decide (x ∈ xs)) := by
  have h1 := e.h3 x
  have h2 := dep_t e.h3 xs
  have h3 := lay_t e.h2 xs
  unfold memD
  rw [e.h1, toDs_t e.h1]
  have g1 : SeqAt.shaped (e.D x) = true := by simp only [SeqAt.shaped, e.h2, Bool.true_and, decide_eq_true_eq]; omega
  have g2 : SeqAt.shaped (.list (xs.map e.D)) = true := by
    have : (PyData.list (xs.map e.D)).depth ≤ 64 := by simp only [PyData.depth]; omega
    simp [SeqAt.shaped, PyData.canLay0, h3, this]
  have g3 : SeqAt.shaped (.tuple (xs.map e.D)) = true := by
    have : (PyData.tuple (xs.map e.D)).depth ≤ 64 := by simp only [PyData.depth]; omega
    simp [SeqAt.shaped, PyData.canLay0, h3, this]
  show (if (SeqAt.shaped (e.D x) && SeqAt.shaped (.list (xs.map e.D)) && SeqAt.shaped (.tuple (xs.map e.D))) = true then _ else _) = _
  rw [g1, g2, g3, mem_any e.h4]
  rfl
theorem in_L0 [DecidableEq α] (b : Bool) (E : α → PV) {n : Nat} [e : EqOk E n] (x : α) (xs : List α) (hn : n ≤ 62) : inG b (E x) (.lst (xs.map E)) = some (.bl (b != decide (x ∈ xs))) := by
  show (memD (E x) (xs.map E)).map _ = _
  rw [memD_t E x xs hn]
  rfl
theorem in_U0 [DecidableEq α] (b : Bool) (E : α → PV) {n : Nat} [e : EqOk E n] (x : α) (xs : List α) (hn : n ≤ 62) : inG b (E x) (.tup false (xs.map E)) = some (.bl (b != decide (x ∈ xs))) := by
  show (memD (E x) (xs.map E)).map _ = _
  rw [memD_t E x xs hn]
  rfl
theorem in_L [DecidableEq α] (b : Bool) (E : α → PV) {n : Nat} [e : EqOk E n] (x : α) (xs : List α) (hn : n ≤ 62) {i : Decidable (x ∈ xs)} : inG b (E x) (.lst (xs.map E)) = some (.bl (b != @decide (x ∈ xs) i)) := by
  rw [in_L0 b E x xs hn]
  congr
theorem in_U [DecidableEq α] (b : Bool) (E : α → PV) {n : Nat} [e : EqOk E n] (x : α) (xs : List α) (hn : n ≤ 62) {i : Decidable (x ∈ xs)} : inG b (E x) (.tup false (xs.map E)) = some (.bl (b != @decide (x ∈ xs) i)) := by
  rw [in_U0 b E x xs hn]
  congr
theorem in_LI (b : Bool) (x : Int) (xs : List Int) : inG b (.int x) (.lst (xs.map eI)) = some (.bl (b != decide (x ∈ xs))) := in_L b eI x xs (by decide)
theorem in_UI (b : Bool) (x : Int) (xs : List Int) : inG b (.int x) (.tup false (xs.map eI)) = some (.bl (b != decide (x ∈ xs))) := in_U b eI x xs (by decide)
/-! ### tests told -/
theorem ite_inv {c : Prop} [Decidable c] {a b v : α} (h : (if c then a else b) = v) : (c ∧ a = v) ∨ (¬ c ∧ b = v) := by
  by_cases k : c
  · exact .inl ⟨k, by rwa [if_pos k] at h⟩
  · exact .inr ⟨k, by rwa [if_neg k] at h⟩
theorem iteB_inv {c : Bool} {a b v : α} (h : (if c = true then a else b) = v) : (c = true ∧ a = v) ∨ (c = false ∧ b = v) := by
  cases c
  · exact .inr ⟨rfl, h⟩
  · exact .inl ⟨rfl, h⟩
def optM (o : Option α) (a : β) (f : α → β) : β := match o with
  | none => a
  | some x => f x
theorem optM_inv {o : Option α} {a : β} {f : α → β} {v : β} (h : optM o a f = v) : (o = none ∧ a = v) ∨ ∃ x, o = some x ∧ f x = v := by
  cases o with
  | none => exact .inl ⟨rfl, h⟩
  | some x => exact .inr ⟨x, rfl, h⟩
def sumM (o : α ⊕ β) (f : α → γ) (g : β → γ) : γ := match o with
  | .inl a => f a
  | .inr b => g b
theorem sumM_inv {o : α ⊕ β} {f : α → γ} {g : β → γ} {v : γ} (h : sumM o f g = v) : (∃ a, o = .inl a ∧ f a = v) ∨ ∃ b, o = .inr b ∧ g b = v := by
  cases o with
  | inl a => exact .inl ⟨a, rfl, h⟩
  | inr b => exact .inr ⟨b, rfl, h⟩
/-! ### None -/
theorem isO_f (E : α → PV) [k : NotNone E] (o : Option α) : isG false (eO E o) .non = some (.bl o.isNone) := by
  cases o with
  | none => rfl
  | some x => exact k.i x
theorem isO_t (E : α → PV) [k : NotNone E] (o : Option α) : isG true (eO E o) .non = some (.bl o.isSome) := by
  cases o with
  | none => rfl
  | some x => exact k.j x
theorem is_non (b : Bool) : isG b .non .non = some (.bl (!b)) := (rfl)
theorem is_int (b : Bool) (i : Int) : isG b (.int i) .non = some (.bl b) := (rfl)
theorem is_tup (b c : Bool) (l : List PV) : isG b (.tup c l) .non = some (.bl b) := (rfl)
theorem is_lst (b : Bool) (l : List PV) : isG b (.lst l) .non = some (.bl b) := (rfl)
theorem is_str (b : Bool) (x : Str) : isG b (.str x) .non = some (.bl b) := (rfl)
theorem is_bl0 (b c : Bool) : isG b (.bl c) .non = some (.bl b) := (rfl)
theorem is_bl (b c d : Bool) : isG b (.bl c) (.bl d) = some (.bl (b != decide (c = d))) := (rfl)
/-! ### dicts -/
def dlook [DecidableEq α] (d : List (α × β)) (k : α) : Option β := match d with
  | [] => none
  | p :: r => if p.1 = k then some p.2 else dlook r k
def dch [DecidableEq α] (d : List (α × β)) (k : α) (v : β) : List (α × β) := match d with
  | [] => []
  | p :: r => (if p.1 = k then (p.1, v) else p) :: dch r k v
def dput [DecidableEq α] (d : List (α × β)) (k : α) (v : β) : List (α × β) := if (dlook d k).isSome = true then dch d k v else d ++ [(k, v)]
def dputO [DecidableEq α] (d : List (α × β)) (k : α) (v : β) : Option (List (α × β)) := if d.length < sizeLine then some (dput d k v) else none
theorem look_t {κ : Type} [DecidableEq κ] [DecidableEq α] {ke : α → κ} (hk : ∀ x y, ke x = ke y → x = y) (F : β → PV) (d : List (α × β)) (k : α) : atP (d.map fun p => (ke p.1, F p.2)) (ke k) = (dlook d k).map F := by
  induction d with
  | nil => rfl
  | cons p r ih =>
    simp only [List.map_cons, atP, dlook, ih]
    by_cases h : p.1 = k
    · rw [if_pos (by rw [h]), if_pos h]; rfl
    · rw [if_neg (fun z => h (hk _ _ z)), if_neg h]
theorem ch_t {κ : Type} [DecidableEq κ] [DecidableEq α] {ke : α → κ} (hk : ∀ x y, ke x = ke y → x = y) (F : β → PV) (d : List (α × β)) (k : α) (v : β) : chP (d.map fun p => (ke p.1, F p.2)) (ke k) (F v) = (dch d k v).map fun p => (ke p.1, F p.2) := by
  induction d with
  | nil => rfl
  | cons p r ih =>
    simp only [List.map_cons, chP, dch, ih]
    by_cases h : p.1 = k
    · rw [if_pos (by rw [h]), if_pos h]
    · rw [if_neg (fun z => h (hk _ _ z)), if_neg h]
theorem put_t {κ : Type} [DecidableEq κ] [DecidableEq α] {ke : α → κ} (hk : ∀ x y, ke x = ke y → x = y) (F : β → PV) (d : List (α × β)) (k : α) (v : β) : putP (d.map fun p => (ke p.1, F p.2)) (ke k) (F v) = (dput d k v).map fun p => (ke p.1, F p.2) := by
  unfold putP dput
  rw [look_t hk]
  cases h : dlook d k with
  | none => simp
  | some w => simp [ch_t hk]
def kI (i : Int) : L2.Key := Sum.inl i
def kS (x : Str) : L2.Key := Sum.inr x
def k2 (p : Int × Int) : List L2.Key := [Sum.inl p.1, Sum.inl p.2]
def k3 (p : Int × Int × Int) : List L2.Key := [Sum.inl p.1, Sum.inl p.2.1, Sum.inl p.2.2]
def kU (l : List Int) : List L2.Key := l.map Sum.inl
theorem kI_inj (x y : Int) (h : kI x = kI y) : x = y := by cases h; rfl
theorem kS_inj (x y : Str) (h : kS x = kS y) : x = y := by cases h; rfl
theorem k2_inj (x y : Int × Int) (h : k2 x = k2 y) : x = y := by
  simp only [k2, List.cons.injEq, Sum.inl.injEq, and_true] at h
  exact Prod.ext h.1 h.2
theorem k3_inj (x y : Int × Int × Int) (h : k3 x = k3 y) : x = y := by
  simp only [k3, List.cons.injEq, Sum.inl.injEq, and_true] at h
  exact Prod.ext h.1 (Prod.ext h.2.1 h.2.2)
theorem kU_inj : ∀ (x y : List Int), kU x = kU y → x = y
  | [], [], _ => rfl
  | [], _ :: _, h => by simp [kU] at h
  | _ :: _, [], h => by simp [kU] at h
  | a :: x, b :: y, h => by
    simp only [kU, List.map_cons, List.cons.injEq, Sum.inl.injEq] at h
    rw [h.1, kU_inj x y h.2]
theorem keysP_U : ∀ l : List Int, keysP (l.map eI) = some (kU l)
  | [] => rfl
  | a :: l => by simp [keysP, keyP, eI, keysP_U l, kU]
def eDI (F : β → PV) (d : List (Int × β)) : PV := .dK (d.map fun p => (kI p.1, F p.2))
def eDS (F : β → PV) (d : List (Str × β)) : PV := .dK (d.map fun p => (kS p.1, F p.2))
def eD2 (F : β → PV) (d : List ((Int × Int) × β)) : PV := .dT (d.map fun p => (k2 p.1, F p.2))
def eD3 (F : β → PV) (d : List ((Int × Int × Int) × β)) : PV := .dT (d.map fun p => (k3 p.1, F p.2))
def eDU (F : β → PV) (d : List (List Int × β)) : PV := .dT (d.map fun p => (kU p.1, F p.2))
theorem lookDI (F : β → PV) (d : List (Int × β)) (k : Int) : lookD (eDI F d) (.int k) = some ((dlook d k).map F) := by
  show some (atP _ (kI k)) = _
  rw [look_t kI_inj]
theorem lookDS (F : β → PV) (d : List (Str × β)) (k : Str) : lookD (eDS F d) (.str k) = some ((dlook d k).map F) := by
  show some (atP _ (kS k)) = _
  rw [look_t kS_inj]
theorem lookD2 (F : β → PV) (d : List ((Int × Int) × β)) (c : Bool) (a b : Int) : lookD (eD2 F d) (.tup c [.int a, .int b]) = some ((dlook d (a, b)).map F) := by
  show some (atP _ (k2 (a, b))) = _
  rw [look_t k2_inj]
theorem lookD3 (F : β → PV) (d : List ((Int × Int × Int) × β)) (c : Bool) (a b x : Int) : lookD (eD3 F d) (.tup c [.int a, .int b, .int x]) = some ((dlook d (a, b, x)).map F) := by
  show some (atP _ (k3 (a, b, x))) = _
  rw [look_t k3_inj]
theorem lookDU (F : β → PV) (d : List (List Int × β)) (c : Bool) (k : List Int) : lookD (eDU F d) (.tup c (k.map eI)) = some ((dlook d k).map F) := by
  show (keysP (k.map eI)).map (fun ks => atP _ ks) = _
  rw [keysP_U]
  show some (atP _ (kU k)) = _
  rw [look_t kU_inj]
theorem bind_id {o : Option PV} : (some o).bind id = o := rfl
theorem ixDI (F : β → PV) (d : List (Int × β)) (k : Int) : ixG (eDI F d) (.int k) = (dlook d k).map F := by
  show Option.bind (lookD (eDI F d) (.int k)) id = _
  rw [lookDI, bind_id]
theorem ixDS (F : β → PV) (d : List (Str × β)) (k : Str) : ixG (eDS F d) (.str k) = (dlook d k).map F := by
  show Option.bind (lookD (eDS F d) (.str k)) id = _
  rw [lookDS, bind_id]
theorem ixD2 (F : β → PV) (d : List ((Int × Int) × β)) (c : Bool) (a b : Int) : ixG (eD2 F d) (.tup c [.int a, .int b]) = (dlook d (a, b)).map F := by
  show Option.bind (lookD (eD2 F d) (.tup c [.int a, .int b])) id = _
  rw [lookD2, bind_id]
theorem ixD3 (F : β → PV) (d : List ((Int × Int × Int) × β)) (c : Bool) (a b x : Int) : ixG (eD3 F d) (.tup c [.int a, .int b, .int x]) = (dlook d (a, b, x)).map F := by
  show Option.bind (lookD (eD3 F d) (.tup c [.int a, .int b, .int x])) id = _
  rw [lookD3, bind_id]
theorem ixDU (F : β → PV) (d : List (List Int × β)) (c : Bool) (k : List Int) : ixG (eDU F d) (.tup c (k.map eI)) = (dlook d k).map F := by
  show Option.bind (lookD (eDU F d) (.tup c (k.map eI))) id = _
  rw [lookDU, bind_id]
theorem isSome_map' (o : Option β) (F : β → PV) : (o.map F).isSome = o.isSome := by cases o <;> rfl
theorem inDI (b : Bool) (F : β → PV) (d : List (Int × β)) (k : Int) : inG b (.int k) (eDI F d) = some (.bl (b != (dlook d k).isSome)) := by
  show Option.map (fun o => PV.bl (b != o.isSome)) (lookD (eDI F d) (.int k)) = _
  rw [lookDI, Option.map_some, isSome_map']
theorem inDS (b : Bool) (F : β → PV) (d : List (Str × β)) (k : Str) : inG b (.str k) (eDS F d) = some (.bl (b != (dlook d k).isSome)) := by
  show Option.map (fun o => PV.bl (b != o.isSome)) (lookD (eDS F d) (.str k)) = _
  rw [lookDS, Option.map_some, isSome_map']
theorem inD2 (n : Bool) (F : β → PV) (d : List ((Int × Int) × β)) (c : Bool) (a b : Int) : inG n (.tup c [.int a, .int b]) (eD2 F d) = some (.bl (n != (dlook d (a, b)).isSome)) := by
  show Option.map (fun o => PV.bl (n != o.isSome)) (lookD (eD2 F d) (.tup c [.int a, .int b])) = _
  rw [lookD2, Option.map_some, isSome_map']
theorem inD3 (n : Bool) (F : β → PV) (d : List ((Int × Int × Int) × β)) (c : Bool) (a b x : Int) : inG n (.tup c [.int a, .int b, .int x]) (eD3 F d) = some (.bl (n != (dlook d (a, b, x)).isSome)) := by
  show Option.map (fun o => PV.bl (n != o.isSome)) (lookD (eD3 F d) (.tup c [.int a, .int b, .int x])) = _
  rw [lookD3, Option.map_some, isSome_map']
theorem inDU (n : Bool) (F : β → PV) (d : List (List Int × β)) (c : Bool) (k : List Int) : inG n (.tup c (k.map eI)) (eDU F d) = some (.bl (n != (dlook d k).isSome)) := by
  show Option.map (fun o => PV.bl (n != o.isSome)) (lookD (eDU F d) (.tup c (k.map eI))) = _
  rw [lookDU, Option.map_some, isSome_map']
theorem setDI (F : β → PV) (d : List (Int × β)) (k : Int) (v : β) : setU (.int k) (F v) (eDI F d) = (dputO d k v).map fun z => (eDI F z, .non) := by
  show (if _ then some (PV.dK (putP _ (kI k) (F v)), PV.non) else none) = _
  rw [put_t kI_inj, List.length_map]
  unfold dputO
  split <;> rfl
theorem setDS (F : β → PV) (d : List (Str × β)) (k : Str) (v : β) : setU (.str k) (F v) (eDS F d) = (dputO d k v).map fun z => (eDS F z, .non) := by
  show (if _ then some (PV.dK (putP _ (kS k) (F v)), PV.non) else none) = _
  rw [put_t kS_inj, List.length_map]
  unfold dputO
  split <;> rfl
theorem setD2 (F : β → PV) (d : List ((Int × Int) × β)) (a b : Int) (v : β) : setU (.tup false [.int a, .int b]) (F v) (eD2 F d) = (dputO d (a, b) v).map fun z => (eD2 F z, .non) := by
  show (if _ then some (PV.dT (putP _ (k2 (a, b)) (F v)), PV.non) else none) = _
  rw [put_t k2_inj, List.length_map]
  unfold dputO
  split <;> rfl
theorem setD3 (F : β → PV) (d : List ((Int × Int × Int) × β)) (a b c : Int) (v : β) : setU (.tup false [.int a, .int b, .int c]) (F v) (eD3 F d) = (dputO d (a, b, c) v).map fun z => (eD3 F z, .non) := by
  show (if _ then some (PV.dT (putP _ (k3 (a, b, c)) (F v)), PV.non) else none) = _
  rw [put_t k3_inj, List.length_map]
  unfold dputO
  split <;> rfl
theorem setDU (F : β → PV) (d : List (List Int × β)) (k : List Int) (v : β) : setU (.tup false (k.map eI)) (F v) (eDU F d) = (dputO d k v).map fun z => (eDU F z, .non) := by
  show (if (d.map _).length < sizeLine then (keysP (k.map eI)).map (fun ks => (PV.dT (putP _ ks (F v)), PV.non)) else none) = _
  rw [keysP_U, List.length_map]
  simp only [Option.map_some, put_t kU_inj]
  unfold dputO
  split <;> rfl
theorem kNc_DI (F : β → PV) (d : List (Int × β)) (s : DS) : kNc (eDI F d) s = .ok (eDI F d) s := (rfl)
theorem kNc_DS (F : β → PV) (d : List (Str × β)) (s : DS) : kNc (eDS F d) s = .ok (eDS F d) s := (rfl)
theorem kNc_D2 (F : β → PV) (d : List ((Int × Int) × β)) (s : DS) : kNc (eD2 F d) s = .ok (eD2 F d) s := (rfl)
theorem kNc_D3 (F : β → PV) (d : List ((Int × Int × Int) × β)) (s : DS) : kNc (eD3 F d) s = .ok (eD3 F d) s := (rfl)
theorem kNc_DU (F : β → PV) (d : List (List Int × β)) (s : DS) : kNc (eDU F d) s = .ok (eDU F d) s := (rfl)
theorem len_dK (l : List (L2.Key × PV)) : lenA (.dK l) = some (.int l.length) := rfl
theorem len_dT (l : List (List L2.Key × PV)) : lenA (.dT l) = some (.int l.length) := rfl
theorem lenDI (F : β → PV) (d : List (Int × β)) : lenA (eDI F d) = some (.int d.length) := by unfold eDI; rw [len_dK, List.length_map]
theorem lenDS (F : β → PV) (d : List (Str × β)) : lenA (eDS F d) = some (.int d.length) := by unfold eDS; rw [len_dK, List.length_map]
theorem lenD2 (F : β → PV) (d : List ((Int × Int) × β)) : lenA (eD2 F d) = some (.int d.length) := by unfold eD2; rw [len_dT, List.length_map]
theorem lenD3 (F : β → PV) (d : List ((Int × Int × Int) × β)) : lenA (eD3 F d) = some (.int d.length) := by unfold eD3; rw [len_dT, List.length_map]
theorem lenDU (F : β → PV) (d : List (List Int × β)) : lenA (eDU F d) = some (.int d.length) := by unfold eDU; rw [len_dT, List.length_map]
theorem newDI (F : β → PV) : PV.dK [] = eDI F [] := rfl
theorem newDS (F : β → PV) : PV.dK [] = eDS F [] := rfl
theorem newD2 (F : β → PV) : PV.dT [] = eD2 F [] := rfl
theorem newD3 (F : β → PV) : PV.dT [] = eD3 F [] := rfl
theorem newDU (F : β → PV) : PV.dT [] = eDU F [] := rfl
end
end TM
/-! typed mirrors: extend, pop, sorted, repr, enumerate, dict comprehensions. -/
namespace DR
theorem revA_L {α : Type} (E : α → PV) (xs : List α) : revA (.lst (xs.map E)) = some (.lst (xs.reverse.map E), true) := by
  show some (PV.lst _, true) = _
  rw [List.map_reverse]
theorem revA_U {α : Type} (c : Bool) (E : α → PV) (xs : List α) : revA (.tup c (xs.map E)) = some (.tup false (xs.reverse.map E), false) := by
  show some (PV.tup false _, false) = _
  rw [List.map_reverse]
section
variable {s s2 : DS} {i : Nat} {f g : EM} {p q : PV} {ps qs : List PV} {b : Bool}
def kEx2 (i : Nat) (q : PV) (s : DS) : Re PV := modB i (extU q) s
def kEx (i : Nat) (f : EM) (s : DS) (p : PV) (_ : DS) : Re PV := if tyN p = some "list" then (f s).bind (kEx2 i) else .bad
theorem extE_ap : extE i f s = (nameB i s).bind (kEx i f s) := (rfl)
theorem kEx_ap : kEx i f s (.lst ps) s2 = (f s).bind (kEx2 i) := by simp [kEx, tyN]
theorem kEx2_ap : kEx2 i q s = kMod i (extU q) s.e[i]? s := modB_ap
def kPp (i : Nat) (s : DS) (p : PV) (_ : DS) : Re PV := if tyN p = some "list" then modB i popU s else .bad
theorem popE_ap : popE i s = (nameB i s).bind (kPp i s) := (rfl)
theorem kPp_ap : kPp i s (.lst ps) s2 = kMod i popU s.e[i]? s := by
  have : kPp i s (.lst ps) s2 = modB i popU s := by simp [kPp, tyN]
  rw [this, modB_ap]
def kEnA (p : PV) (s : DS) : Re (List PV) := match p with
  | .lst ps => .ok (enumP 0 ps) s
  | .tup _ ps => .ok (enumP 0 ps) s
  | _ => .bad
theorem enumAI_ap : enumAI f s = (f s).bind kEnA := (rfl)
theorem kEnA_l : kEnA (.lst ps) s = .ok (enumP 0 ps) s := (rfl)
theorem kEnA_t : kEnA (.tup b ps) s = .ok (enumP 0 ps) s := (rfl)
def kZi2 (p q : PV) (s : DS) : Re (List PV) := match p, q with
  | .lst ps, .lst qs => .ok (zipP ps qs) s
  | .tup _ ps, .tup _ qs => .ok (zipP ps qs) s
  | _, _ => .bad
def kZi (g : EM) (p : PV) (s : DS) : Re (List PV) := (g s).bind (kZi2 p)
theorem zipI_ap : zipI f g s = (f s).bind (kZi g) := (rfl)
theorem kZi_ap : kZi g p s = (g s).bind (kZi2 p) := (rfl)
theorem kZi2_l : kZi2 (.lst ps) (.lst qs) s = .ok (zipP ps qs) s := (rfl)
theorem kZi2_t {c : Bool} : kZi2 (.tup b ps) (.tup c qs) s = .ok (zipP ps qs) s := (rfl)
theorem reprG_b : reprG (.bl b) = some (.str (if b = true then "True" else "False")) := (rfl)
end
end DR
namespace TM
open PySem DR
section
variable {α β γ δ σ κ : Type}
/-! extend, pop -/
theorem extU_L (E : α → PV) (xs ys : List α) : extU (.lst (ys.map E)) (.lst (xs.map E)) = (appO xs ys).map fun z => (.lst (z.map E), .non) := by
  show (if decide ((xs.map E).length + (ys.map E).length ≤ sizeLine) = true then some (PV.lst (xs.map E ++ ys.map E), PV.non) else none) = _
  rw [List.length_map, List.length_map]
  unfold appO
  by_cases h : xs.length + ys.length ≤ sizeLine
  · rw [if_pos h, if_pos (decide_eq_true h), ← List.map_append]; rfl
  · rw [if_neg h, if_neg (fun g => h (of_decide_eq_true g))]; rfl
def popT (xs : List α) : Option (List α × α) := (xs[xs.length - 1]?).map fun x => (xs.dropLast, x)
theorem popU_L (E : α → PV) (xs : List α) : popU (.lst (xs.map E)) = (popT xs).map fun z => (.lst (z.1.map E), E z.2) := by
  show ((xs.map E)[(xs.map E).length - 1]?).map (fun q => (PV.lst (xs.map E).dropLast, q)) = _
  unfold popT
  rw [List.length_map, List.getElem?_map, ← List.map_dropLast]
  cases xs[xs.length - 1]? <;> rfl
/-! repr of truth values -/
theorem repr_eq (b : Bool) (x y : Bool) [i : Decidable (x = y)] : eqG b (.str (if x = true then "True" else "False")) (.str (if y = true then "True" else "False")) = some (.bl (b != @decide (x = y) i)) := by
  have k : ∀ b x y : Bool, eqG b (.str (if x = true then "True" else "False")) (.str (if y = true then "True" else "False")) = some (.bl (b != decide (x = y))) := by
    intro b x y
    clear i
    have h1 : okD (.str (Str.ofString "True")) = true := by
      simp only [okD, toD, SeqAt.shaped, PyData.canLay0, PyData.depth]
      decide +kernel
    have h2 : okD (.str (Str.ofString "False")) = true := by
      simp only [okD, toD, SeqAt.shaped, PyData.canLay0, PyData.depth]
      decide +kernel
    have e : ∀ a b : Str, eqD (.str a) (.str b) = (a == b) := fun a b => by simp only [eqD, toD, PyData.eqv]
    have t1 : (Str.ofString "True" == Str.ofString "True") = true := by decide +kernel
    have t2 : (Str.ofString "True" == Str.ofString "False") = false := by decide +kernel
    have t3 : (Str.ofString "False" == Str.ofString "True") = false := by decide +kernel
    have t4 : (Str.ofString "False" == Str.ofString "False") = true := by decide +kernel
    unfold eqG
    cases x <;> cases y <;> cases b <;> simp only [h1, h2, e, if_true, Bool.false_eq_true, if_false, Bool.and_self, t1, t2, t3, t4] <;> rfl
  rw [k]
  congr
/-! ### sorted -/
class OrdOk (E : α → PV) (n : outParam Nat) where
  D : α → PyData
  h1 : ∀ x, toD (E x) = some (D x)
  h2 : ∀ x, (D x).depth ≤ n
  h3 : ∀ x y, PySem.W.alike (D x) (D y) = true
instance : OrdOk eI 0 := ⟨.int, fun _ => rfl, fun _ => by simp [PyData.depth], fun _ _ => by simp [PySem.W.alike]⟩
instance : OrdOk eB 0 := ⟨.bool, fun _ => rfl, fun _ => by simp [PyData.depth], fun _ _ => by simp [PySem.W.alike]⟩
instance : OrdOk eS 0 := ⟨.str, fun _ => rfl, fun _ => by simp [PyData.depth], fun _ _ => by simp [PySem.W.alike]⟩
theorem alike_t {D : α → PyData} (h : ∀ x y, PySem.W.alike (D x) (D y) = true) : ∀ xs ys : List α, PySem.W.alikeAll (xs.map D) (ys.map D) = true
  | [], _ => by simp [PySem.W.alikeAll]
  | _ :: _, [] => by simp [PySem.W.alikeAll]
  | x :: xs, y :: ys => by simp [PySem.W.alikeAll, h x y, alike_t h xs ys]
instance (E : α → PV) (n : Nat) [e : OrdOk E n] : OrdOk (eL E) (n + 1) := ⟨fun xs => .list (xs.map e.D), fun xs => by simp [eL, toD, toDs_t e.h1], fun xs => by
  have := dep_t e.h2 xs
  simp only [PyData.depth]
  omega, fun xs ys => by simp [PySem.W.alike, alike_t e.h3]⟩
instance (E : α → PV) (n : Nat) [e : OrdOk E n] : OrdOk (eU E) (n + 1) := ⟨fun xs => .tuple (xs.map e.D), fun xs => by simp [eU, toD, toDs_t e.h1], fun xs => by
  have := dep_t e.h2 xs
  simp only [PyData.depth]
  omega, fun xs ys => by simp [PySem.W.alike, alike_t e.h3]⟩
instance (E : α → PV) (F : β → PV) (m n : Nat) [e : OrdOk E m] [f : OrdOk F n] : OrdOk (eP2 E F) (m + n + 1) := ⟨fun p => .tuple [e.D p.1, f.D p.2], fun p => by simp [eP2, toD, toDs, e.h1, f.h1], fun p => by
  have h1 := e.h2 p.1
  have h2 := f.h2 p.2
  simp only [PyData.depth, PyData.depthAll]
  omega, fun p q => by simp [PySem.W.alike, PySem.W.alikeAll, e.h3, f.h3]⟩
instance (E : α → PV) (F : β → PV) (G : γ → PV) (m n k : Nat) [e : OrdOk E m] [f : OrdOk F n] [g : OrdOk G k] : OrdOk (eP3 E F G) (m + n + k + 1) := ⟨fun p => .tuple [e.D p.1, f.D p.2.1, g.D p.2.2], fun p => by simp [eP3, toD, toDs, e.h1, f.h1, g.h1], fun p => by
  have h1 := e.h2 p.1
  have h2 := f.h2 p.2.1
  have h3 := g.h2 p.2.2
  simp only [PyData.depth, PyData.depthAll]
  omega, fun p q => by simp [PySem.W.alike, PySem.W.alikeAll, e.h3, f.h3, g.h3]⟩
instance (E : α → PV) (F : β → PV) (G : γ → PV) (J : δ → PV) (m n k l : Nat) [e : OrdOk E m] [f : OrdOk F n] [g : OrdOk G k] [j : OrdOk J l] : OrdOk (eP4 E F G J) (m + n + k + l + 1) := ⟨fun p => .tuple [e.D p.1, f.D p.2.1, g.D p.2.2.1, j.D p.2.2.2], fun p => by simp [eP4, toD, toDs, e.h1, f.h1, g.h1, j.h1], fun p => by
  have h1 := e.h2 p.1
  have h2 := f.h2 p.2.1
  have h3 := g.h2 p.2.2.1
  have h4 := j.h2 p.2.2.2
  simp only [PyData.depth, PyData.depthAll]
  omega, fun p q => by simp [PySem.W.alike, PySem.W.alikeAll, e.h3, f.h3, g.h3, j.h3]⟩
/-- what may be sorted: all tuples that are not empty, or no tuple, no None -/
def srtOk (D : α → PyData) (xs : List α) : Bool := xs.all (fun x => tupD (D x)) || xs.all (fun x => othD (D x))
def leT (E : α → PV) {n : Nat} [e : OrdOk E n] (x y : α) : Bool := PySem.W.dataLe false e.D x y
def srtO (E : α → PV) {n : Nat} [e : OrdOk E n] (xs : List α) : Option (List α) := if srtOk e.D xs = true then some (xs.mergeSort (leT E)) else none
theorem sortG_t (E : α → PV) {n : Nat} [e : OrdOk E n] (xs : List α) (hn : n ≤ 62) : sortG (.lst (xs.map E)) = (srtO E xs).map fun z => (.lst (z.map E), true) := by
  have dat : ∀ x, datP (E x) = e.D x := fun x => by unfold datP; rw [e.h1]; rfl
  have ok : okSort (xs.map E) = srtOk e.D xs := by
    unfold okSort srtOk
    have a1 : ((xs.map E).all fun p => (toD p).isSome && decide ((datP p).depth ≤ 62)) = true := List.all_eq_true.mpr fun p hp => by
      obtain ⟨x, _, rfl⟩ := List.mem_map.mp hp
      have := e.h2 x
      rw [e.h1, dat, Option.isSome_some, Bool.true_and]
      exact decide_eq_true (by omega)
    have a2 : ((xs.map E).all fun p => (xs.map E).all fun q => PySem.W.alike (datP p) (datP q)) = true := List.all_eq_true.mpr fun p hp => List.all_eq_true.mpr fun q hq => by
      obtain ⟨x, _, rfl⟩ := List.mem_map.mp hp
      obtain ⟨y, _, rfl⟩ := List.mem_map.mp hq
      rw [dat, dat, e.h3]
    rw [a1, a2, List.all_map, List.all_map]
    simp only [Function.comp_def, dat, Bool.true_and]
  show (if okSort (xs.map E) = true then some (PV.lst ((xs.map E).mergeSort leP), true) else none) = _
  rw [ok]
  unfold srtO
  split
  · rw [Option.map_some]
    congr 3
    exact (List.map_mergeSort (r := leT E) (s := leP) (f := E) fun a _ b _ => by
      show (!PySem.W.dataLt (e.D b) (e.D a)) = !PySem.W.dataLt (datP (E b)) (datP (E a))
      rw [dat, dat]).symm
  · rfl
/-! ### dict comprehensions -/
def dfold [DecidableEq κ] (f : α → Option (Option (κ × β))) : List α → List (κ × β) → Option (List (κ × β))
  | [], d => some d
  | x :: xs, d => (f x).bind fun o => match o with
    | none => dfold f xs d
    | some q => (dputO d q.1 q.2).bind fun d1 => dfold f xs d1
def PairOk (tt : DR.TM) (fk fv : EM) (vs : List Nat) (e0 : DE) (t : DT) (G : κ → PV) (F : β → PV) (d : DS) (o : Option (κ × β)) : Prop := match o with
  | none => ∃ d2, tt d = .ok false d2 ∧ wipeE vs d2.e = e0 ∧ d2.t = t
  | some q => ∃ d1 d2 d3, tt d = .ok true d1 ∧ fk d1 = .ok (G q.1) d2 ∧ fv d2 = .ok (F q.2) d3 ∧ wipeE vs d3.e = e0 ∧ d3.t = t
theorem dcL_sim [DecidableEq κ] {tg : Tg} {tt : DR.TM} {fk fv : EM} {vs : List Nat} {e0 : DE} {t : DT} {E : α → PV} {G : κ → PV} {F : β → PV} {D : List (κ × β) → PV} {f : α → Option (Option (κ × β))} (put : ∀ d k v d', dputO d k v = some d' → setU (G k) (F v) (D d) = some (D d', .non))
    (hf : ∀ x o, f x = some o → ∃ e1, asgT tg (E x) e0 = some e1 ∧ PairOk tt fk fv vs e0 t G F ⟨e1, t⟩ o) :
    ∀ (xs : List α) (d : List (κ × β)) (s : DS) (d' : List (κ × β)), dfold f xs d = some d' → wipeE vs s.e = e0 → s.t = t → ∃ s', dcL tg tt fk fv vs (xs.map E) (D d) s = .ok (D d') s' ∧ wipeE vs s'.e = e0 ∧ s'.t = t
  | [], d, s, d', h, h1, h2 => by
    cases h
    exact ⟨s, rfl, h1, h2⟩
  | x :: xs, d, s, d', h, h1, h2 => by
    unfold dfold at h
    obtain ⟨o, h3, h4⟩ := Option.bind_eq_some_iff.mp h
    obtain ⟨e1, g1, g2⟩ := hf x o h3
    rw [List.map_cons, dcL_cons, h1, g1]
    simp only [h2]
    cases o with
    | none =>
      obtain ⟨d2, k1, k2, k3⟩ := g2
      obtain ⟨s3, m1, m2⟩ := dcL_sim put hf xs d d2 d' h4 k2 k3
      refine ⟨s3, ?_, m2⟩
      simp only [k1, bind_ok]
      rw [if_neg (by decide), m1]
    | some q =>
      obtain ⟨d1, h5, h6⟩ := Option.bind_eq_some_iff.mp h4
      obtain ⟨s1, s2, s3, k1, k2, k3, k4, k5⟩ := g2
      obtain ⟨s4, m1, m2⟩ := dcL_sim put hf xs d1 s3 d' h6 k4 k5
      refine ⟨s4, ?_, m2⟩
      simp only [k1, bind_ok, if_true, k2, k3, put _ _ _ _ h5, m1]
theorem dcO_sim [DecidableEq κ] {it : IM} {tg : Tg} {tt : DR.TM} {fk fv : EM} {vs : List Nat} {t : DT} {E : α → PV} {G : κ → PV} {F : β → PV} {D : List (κ × β) → PV} {f : α → Option (Option (κ × β))} {xs : List α} {d0 : DS} {e1 : DE} {d : List (κ × β)} {p0 : PV} (hp : p0 = D []) (put : ∀ d k v d', dputO d k v = some d' → setU (G k) (F v) (D d) = some (D d', .non))
    (hit : it d0 = .ok (xs.map E) ⟨e1, t⟩) (h : dfold f xs [] = some d) (hf : ∀ x o, f x = some o → ∃ e2, asgT tg (E x) (wipeE vs e1) = some e2 ∧ PairOk tt fk fv vs (wipeE vs e1) t G F ⟨e2, t⟩ o) : dcO p0 it tg tt fk fv vs d0 = .ok (D d, true) ⟨restE vs e1 e1, t⟩ := by
  obtain ⟨s', m1, m2, m3⟩ := dcL_sim (e0 := wipeE vs e1) put hf xs [] ⟨e1, t⟩ d h rfl rfl
  subst hp
  unfold dcO
  rw [hit, bind_ok, m1, noX_ok, bind_ok, m3, restE_eq m2]
theorem putDI (F : β → PV) (d : List (Int × β)) (k : Int) (v : β) (d' : List (Int × β)) (h : dputO d k v = some d') : setU (eI k) (F v) (eDI F d) = some (eDI F d', .non) := (setDI F d k v).trans (by rw [h]; rfl)
theorem putDS (F : β → PV) (d : List (Str × β)) (k : Str) (v : β) (d' : List (Str × β)) (h : dputO d k v = some d') : setU (eS k) (F v) (eDS F d) = some (eDS F d', .non) := (setDS F d k v).trans (by rw [h]; rfl)
theorem putD2 (F : β → PV) (d : List ((Int × Int) × β)) (k : Int × Int) (v : β) (d' : List ((Int × Int) × β)) (h : dputO d k v = some d') : setU (eP2 eI eI k) (F v) (eD2 F d) = some (eD2 F d', .non) := (setD2 F d k.1 k.2 v).trans (by rw [show dputO d (k.1, k.2) v = some d' from h]; rfl)
theorem putD3 (F : β → PV) (d : List ((Int × Int × Int) × β)) (k : Int × Int × Int) (v : β) (d' : List ((Int × Int × Int) × β)) (h : dputO d k v = some d') : setU (eP3 eI eI eI k) (F v) (eD3 F d) = some (eD3 F d', .non) := (setD3 F d k.1 k.2.1 k.2.2 v).trans (by rw [show dputO d (k.1, k.2.1, k.2.2) v = some d' from h]; rfl)
theorem putDU (F : β → PV) (d : List (List Int × β)) (k : List Int) (v : β) (d' : List (List Int × β)) (h : dputO d k v = some d') : setU (eU eI k) (F v) (eDU F d) = some (eDU F d', .non) := (setDU F d k v).trans (by rw [h]; rfl)
end
end TM
/-! typed laws: what the mirrors' operations come to, where they come to something. -/
namespace TL
open PySem DR TM
section
variable {α β γ σ : Type}
/-- as a step that the kernel takes at its word -/
theorem sb (x : α) (f : α → Option β) : (some x).bind f = f x := (Option.bind_some x f).trans (Eq.trans rfl rfl)
/-! ### sizes -/
theorem small {n : Nat} (h : n ≤ 10000000) : n ≤ sizeLine := by
  have : 10000000 ≤ sizeLine := by decide
  omega
theorem small2 {n : Nat} (h : n < 10000000) : n < sizeLine := by
  have : 10000000 ≤ sizeLine := by decide
  omega
theorem lenO_ok {l : List α} (h : l.length ≤ 10000000) : lenO l = some l := if_pos (small h)
theorem snoc_ok {l : List α} (h : l.length < 10000000) (x : α) : snoc l x = some (l ++ [x]) := if_pos (small2 h)
theorem appO_ok {l k : List α} (h : l.length + k.length ≤ 10000000) : appO l k = some (l ++ k) := if_pos (small h)
theorem dputO_ok [DecidableEq α] {d : List (α × β)} (h : d.length < 10000000) (k : α) (v : β) : dputO d k v = some (dput d k v) := if_pos (small2 h)
theorem dput_new [DecidableEq α] {d : List (α × β)} {k : α} (h : dlook d k = none) (v : β) : dput d k v = d ++ [(k, v)] := by
  unfold dput
  rw [h]
  rfl
theorem dlook_none [DecidableEq α] {k : α} : ∀ {d : List (α × β)}, dlook d k = none ↔ k ∉ d.map (·.1)
  | [] => by simp [dlook]
  | p :: d => by
    unfold dlook
    by_cases e : p.1 = k
    · simp [e]
    · rw [if_neg e, dlook_none]
      simp [Ne.symm e]
theorem dlook_some [DecidableEq α] {k : α} {v : β} : ∀ {d : List (α × β)}, dlook d k = some v → ∃ i : Nat, d[i]? = some (k, v)
  | [], h => by simp [dlook] at h
  | p :: d, h => by
    unfold dlook at h
    by_cases e : p.1 = k
    · rw [if_pos e] at h
      exact ⟨0, by rw [← Option.some.inj h, ← e]; rfl⟩
    · rw [if_neg e] at h
      obtain ⟨i, hi⟩ := dlook_some h
      exact ⟨i + 1, by simpa using hi⟩
theorem dlook_at [DecidableEq α] : ∀ {d : List (α × β)} {i : Nat} {e : α × β}, (d.map (·.1)).Nodup → d[i]? = some e → dlook d e.1 = some e.2
  | [], _, _, _, h => by simp at h
  | a :: d, 0, e, _, h => by
    simp at h
    subst h
    simp [dlook]
  | a :: d, i + 1, e, hd, h => by
    simp only [List.map_cons, List.nodup_cons] at hd
    have hm : e ∈ d := List.mem_of_getElem? (by simpa using h)
    have hne : ¬ a.1 = e.1 := fun z => hd.1 (by rw [z]; exact List.mem_map.mpr ⟨e, hm, rfl⟩)
    unfold dlook
    rw [if_neg hne]
    exact dlook_at hd.2 (by simpa using h)
/-! ### places -/
theorem getD_eq {l : List α} {i : Nat} {d : α} (h : i < l.length) : l[i]? = some (l.getD i d) := by
  rw [List.getElem?_eq_getElem h, List.getD_eq_getElem?_getD, List.getElem?_eq_getElem h]
  rfl
theorem getD_mem {l : List α} {i : Nat} {d : α} (h : i < l.length) : l.getD i d ∈ l := by
  rw [List.getD_eq_getElem?_getD, List.getElem?_eq_getElem h]
  exact List.getElem_mem h
theorem idx_get {l : List α} {i : Int} (h0 : 0 ≤ i) (h : i < l.length) : idx l i = l[i.toNat]? := by
  unfold idx L2.atI L2.ixN
  rw [if_pos h0, if_pos h]
  rfl
theorem idx_ok {l : List α} {i : Int} (d : α) (h0 : 0 ≤ i) (h : i < l.length) : idx l i = some (l.getD i.toNat d) := by
  rw [idx_get h0 h, getD_eq (by omega)]
theorem idx_nat {l : List α} {i : Nat} (d : α) (h : i < l.length) : idx l (i : Int) = some (l.getD i d) := idx_ok d (by omega) (by omega)
theorem idx_last {l : List α} (d : α) (h : 0 < l.length) : idx l (-1) = some (l.getD (l.length - 1) d) := by
  unfold idx L2.atI L2.ixN
  rw [if_neg (by decide), if_pos (by omega)]
  show l[(-1 + (l.length : Int)).toNat]? = _
  rw [show (-1 + (l.length : Int)).toNat = l.length - 1 by omega]
  exact getD_eq (by omega)
theorem idx_snoc {l : List α} {x : α} : idx (l ++ [x]) (-1) = some x := by
  rw [idx_last x (by simp)]
  simp
theorem idx_head {l : List α} {x : α} : idx (x :: l) 0 = some x := by
  rw [idx_ok x (by decide) (by rw [List.length_cons]; omega)]
  rfl
/-! ### ranges -/
theorem rng0 (n : Nat) : rng 0 (n : Int) = (List.range n).map fun (i : Nat) => (i : Int) := by
  unfold rng
  have e : ((n : Int) - 0).toNat = n := by omega
  rw [e]
  exact List.map_congr_left fun i _ => Int.zero_add _
theorem rngO_0 {n : Nat} (h : n < 4611686018427387904) : rngO 0 (n : Int) = some ((List.range n).map fun (i : Nat) => (i : Int)) := by
  rw [rngO_ok (by decide) (by decide) (by omega) (by omega), rng0]
theorem rngO_I {i : Int} (h0 : 0 ≤ i) (h : i < 4611686018427387904) : rngO 0 i = some ((List.range i.toNat).map fun (i : Nat) => (i : Int)) := by
  have := rngO_0 (n := i.toNat) (by omega)
  rwa [Int.toNat_of_nonneg h0] at this
theorem enumT_eq (d : α) : ∀ (l : List α) (n : Nat), enumT n l = (List.range l.length).map fun (i : Nat) => (((n + i : Nat) : Int), l.getD i d)
  | [], n => rfl
  | x :: l, n => by
    unfold enumT
    rw [enumT_eq d l (n + 1), List.length_cons, List.range_succ_eq_map, List.map_cons, List.map_map]
    refine List.cons_eq_cons.mpr ⟨by simp, List.map_congr_left fun i _ => ?_⟩
    simp only [Function.comp_apply, List.getD_cons_succ]
    rw [show n + 1 + i = n + (i + 1) by omega]
theorem cut_take {l : List α} {i : Int} (h0 : 0 ≤ i) : cutT l none (some i) = l.take i.toNat := by
  unfold cutT HT.sIx
  simp only
  rw [if_neg (by omega), List.drop_zero]
  by_cases h : i.toNat ≤ l.length
  · rw [Nat.min_eq_left h]; rfl
  · rw [Nat.min_eq_right (by omega), Nat.sub_zero, List.take_of_length_le (Nat.le_refl _), List.take_of_length_le (by omega)]
theorem cut_drop {l : List α} {i : Int} (h0 : 0 ≤ i) : cutT l (some i) none = l.drop i.toNat := by
  unfold cutT HT.sIx
  simp only
  rw [if_neg (by omega)]
  by_cases h : i.toNat ≤ l.length
  · rw [Nat.min_eq_left h, List.take_of_length_le (by simp)]
  · rw [Nat.min_eq_right (by omega), List.drop_of_length_le (Nat.le_refl _), List.drop_of_length_le (by omega)]
    simp
/-! ### comprehensions -/
theorem mapO_ok {f : α → Option β} {g : α → β} : ∀ {l : List α}, (∀ x ∈ l, f x = some (g x)) → mapO f l = some (l.map g)
  | [], _ => rfl
  | x :: l, h => by
    unfold mapO
    rw [h x (List.mem_cons_self ..), mapO_ok fun y hy => h y (List.mem_cons_of_mem _ hy)]
    rfl
theorem compM_ok {f : α → Option β} (g : α → β) {l : List α} (hl : l.length ≤ 10000000) (h : ∀ x ∈ l, f x = some (g x)) : compM f l = some (l.map g) := by
  unfold compM
  rw [mapO_ok h]
  exact lenO_ok (by rw [List.length_map]; exact hl)
theorem filterMap_map_id (g : α → Option β) (l : List α) : (l.map g).filterMap id = l.filterMap g := by
  rw [List.filterMap_map]
  rfl
theorem compO_ok {f : α → Option (Option β)} (g : α → Option β) {l : List α} (hl : l.length ≤ 10000000) (h : ∀ x ∈ l, f x = some (g x)) : compO f l = some (l.filterMap g) := by
  unfold compO
  rw [mapO_ok h]
  show lenO _ = _
  rw [filterMap_map_id]
  exact lenO_ok (Nat.le_trans (List.length_filterMap_le _ _) hl)
theorem comp2_ok {c : α → Option (Option (List β))} {f : α → β → Option (Option γ)} {L : α → List β} {g : α → β → Option γ} : ∀ {l : List α}, (∀ x ∈ l, c x = some (some (L x))) → (∀ x ∈ l, ∀ y ∈ L x, f x y = some (g x y)) → comp2 c f l = some (l.flatMap fun x => (L x).filterMap (g x))
  | [], _, _ => rfl
  | x :: l, h1, h2 => by
    unfold comp2
    rw [h1 x (List.mem_cons_self ..)]
    simp only [Option.bind_some]
    rw [mapO_ok (h2 x (List.mem_cons_self ..)), comp2_ok (fun y hy => h1 y (List.mem_cons_of_mem _ hy)) (fun y hy => h2 y (List.mem_cons_of_mem _ hy))]
    simp only [Option.bind_some, filterMap_map_id, List.flatMap_cons]
theorem comp2O_ok {c : α → Option (Option (List β))} {f : α → β → Option (Option γ)} (L : α → List β) (g : α → β → Option γ) {l : List α} (hl : (l.flatMap fun x => (L x).filterMap (g x)).length ≤ 10000000) (h1 : ∀ x ∈ l, c x = some (some (L x))) (h2 : ∀ x ∈ l, ∀ y ∈ L x, f x y = some (g x y)) : comp2O c f l = some (l.flatMap fun x => (L x).filterMap (g x)) := by
  unfold comp2O
  rw [comp2_ok h1 h2]
  exact lenO_ok hl
theorem flat_len {n m : Nat} {F : α → List β} : ∀ {l : List α}, l.length ≤ n → (∀ x ∈ l, (F x).length ≤ m) → (l.flatMap F).length ≤ n * m
  | [], _, _ => Nat.zero_le _
  | x :: l, h1, h2 => by
    rw [List.flatMap_cons, List.length_append]
    have a := h2 x (List.mem_cons_self ..)
    obtain ⟨k, rfl⟩ : ∃ k, n = k + 1 := ⟨n - 1, by simp at h1; omega⟩
    have b := flat_len (n := k) (m := m) (F := F) (l := l) (by simp at h1; omega) fun y hy => h2 y (List.mem_cons_of_mem _ hy)
    rw [Nat.add_mul]
    omega
/-! ### loops -/
/-- an invariant over what was walked -/
theorem fold_inv {f : σ → α → Option σ} (I : List α → σ → Prop) : ∀ (l pre : List α) (s : σ), I pre s → (∀ a s x, (∃ b, pre ++ l = a ++ x :: b) → I a s → ∃ s', f s x = some s' ∧ I (a ++ [x]) s') → ∃ s', foldO f l s = some s' ∧ I (pre ++ l) s'
  | [], pre, s, h, _ => ⟨s, rfl, by rwa [List.append_nil]⟩
  | x :: l, pre, s, h, st => by
    obtain ⟨s1, e1, h1⟩ := st pre s x ⟨l, rfl⟩ h
    obtain ⟨s2, e2, h2⟩ := fold_inv I l (pre ++ [x]) s1 h1 fun a s y hy => st a s y (by simpa using hy)
    refine ⟨s2, ?_, by simpa using h2⟩
    unfold foldO
    rw [e1]
    exact e2
/-- over a range -/
theorem fold_rng {f : σ → Int → Option σ} (I : Nat → σ → Prop) (n : Nat) (s : σ) (h : I 0 s) (st : ∀ i s, i < n → I i s → ∃ s', f s (i : Int) = some s' ∧ I (i + 1) s') : ∃ s', foldO f ((List.range n).map fun (i : Nat) => (i : Int)) s = some s' ∧ I n s' := by
  obtain ⟨s', e, h'⟩ := fold_inv (f := f) (fun a s => a = (List.range a.length).map (fun (i : Nat) => (i : Int)) ∧ I a.length s) ((List.range n).map fun (i : Nat) => (i : Int)) [] s ⟨rfl, h⟩ fun a s x hx hi => by
    obtain ⟨b, hb⟩ := hx
    rw [List.nil_append] at hb
    obtain ⟨h1, h2⟩ := hi
    have hl := congrArg List.length hb
    simp only [List.length_map, List.length_range, List.length_append, List.length_cons] at hl
    have hx : x = (a.length : Int) := by
      have := congrArg (fun l : List Int => l[a.length]?) hb
      simp only [List.getElem?_map, List.getElem?_append_right (Nat.le_refl _), Nat.sub_self, List.getElem?_cons_zero] at this
      rw [List.getElem?_range (by omega)] at this
      exact (Option.some.inj this).symm
    subst hx
    obtain ⟨s', e, k⟩ := st a.length s (by omega) h2
    refine ⟨s', e, ?_, by rw [List.length_append]; exact k⟩
    rw [List.length_append, List.length_singleton, List.range_succ, List.map_append, ← h1]
    rfl
  refine ⟨s', e, ?_⟩
  simpa using h'.2
/-- by places -/
theorem fold_get {f : σ → α → Option σ} (d : α) (I : Nat → σ → Prop) (l : List α) (s : σ) (h : I 0 s) (st : ∀ i s, i < l.length → I i s → ∃ s', f s (l.getD i d) = some s' ∧ I (i + 1) s') : ∃ s', foldO f l s = some s' ∧ I l.length s' := by
  obtain ⟨s', e, h'⟩ := fold_inv (f := f) (fun a s => I a.length s) l [] s h fun a s x ⟨b, hb⟩ hi => by
    rw [List.nil_append] at hb
    subst hb
    obtain ⟨s', e, k⟩ := st a.length s (by simp) hi
    refine ⟨s', ?_, by rw [List.length_append]; exact k⟩
    simpa using e
  exact ⟨s', e, by simpa using h'⟩
/-- by places, a loop that may end ahead -/
theorem for_get {f : σ → α → Option (Fw σ β)} (d : α) (I : Nat → σ → Prop) : ∀ (l pre : List α) (s : σ), I pre.length s → (∀ i s, i < (pre ++ l).length → I i s → ∃ s', f s ((pre ++ l).getD i d) = some (.nx s') ∧ I (i + 1) s') → ∃ s', forO f l s = some (.inl s') ∧ I (pre ++ l).length s'
  | [], pre, s, h, _ => ⟨s, rfl, by simpa using h⟩
  | x :: l, pre, s, h, st => by
    obtain ⟨s1, e1, h1⟩ := st pre.length s (by simp) h
    obtain ⟨s2, e2, h2⟩ := for_get d I l (pre ++ [x]) s1 (by simpa using h1) fun i s hi => by
      have e : pre ++ [x] ++ l = pre ++ x :: l := by simp
      rw [e] at hi ⊢
      exact st i s hi
    refine ⟨s2, ?_, by simpa using h2⟩
    unfold forO
    have e : (pre ++ x :: l).getD pre.length d = x := by simp
    rw [e] at e1
    rw [e1]
    exact e2
theorem enum_len : ∀ (l : List α) (n : Nat), (enumT n l).length = l.length
  | [], n => rfl
  | x :: l, n => by
    unfold enumT
    rw [List.length_cons, List.length_cons, enum_len l (n + 1)]
theorem enum_getD (d : α) {l : List α} {i : Nat} (h : i < l.length) (q : Int × α) : (enumT 0 l).getD i q = ((i : Int), l.getD i d) := by
  rw [enumT_eq d, List.getD_eq_getElem?_getD, List.getElem?_map, List.getElem?_range h]
  simp
theorem filter_map_eq (p : α → Bool) (q : α → β) : ∀ l : List α, (l.filter p).map q = l.filterMap fun x => if p x = true then some (q x) else none
  | [] => rfl
  | x :: l => by
    rw [List.filter_cons]
    by_cases h : p x = true
    · rw [if_pos h, List.map_cons, filter_map_eq p q l, List.filterMap_cons_some (by rw [if_pos h])]
    · rw [if_neg h, filter_map_eq p q l, List.filterMap_cons_none (by rw [if_neg h])]
theorem flat_filter {δ : Type} (F : α → List β) (g : β → Option δ) : ∀ l : List α, (l.flatMap F).filterMap g = l.flatMap fun x => (F x).filterMap g
  | [] => rfl
  | x :: l => by rw [List.flatMap_cons, List.flatMap_cons, List.filterMap_append, flat_filter F g l]
theorem getD_snoc {l : List α} {x d : α} {i : Nat} (h : i < l.length) : (l ++ [x]).getD i d = l.getD i d := by
  simp only [List.getD_eq_getElem?_getD]
  rw [List.getElem?_append_left h]
theorem getD_end {l : List α} {x d : α} {i : Nat} (h : i = l.length) : (l ++ [x]).getD i d = x := by
  subst h
  simp
/-- a loop that goes through -/
theorem for_all {f : σ → α → Option (Fw σ β)} {s : σ} : ∀ {l : List α}, (∀ x ∈ l, f s x = some (.nx s)) → forO f l s = some (.inl s)
  | [], _ => rfl
  | x :: l, h => by
    unfold forO
    rw [h x (List.mem_cons_self ..)]
    exact for_all fun y hy => h y (List.mem_cons_of_mem _ hy)
theorem for_inv {f : σ → α → Option (Fw σ β)} (I : σ → Prop) : ∀ {l : List α} {s : σ}, I s → (∀ s x, x ∈ l → I s → ∃ s', f s x = some (.nx s') ∧ I s') → ∃ s', forO f l s = some (.inl s') ∧ I s'
  | [], s, h, _ => ⟨s, rfl, h⟩
  | x :: l, s, h, st => by
    obtain ⟨s1, e1, h1⟩ := st s x (List.mem_cons_self ..) h
    obtain ⟨s2, e2, h2⟩ := for_inv I (l := l) h1 fun s y hy => st s y (List.mem_cons_of_mem _ hy)
    refine ⟨s2, ?_, h2⟩
    unfold forO
    rw [e1]
    exact e2
/-- a loop that ends -/
theorem while_ok {c : σ → Option Bool} {f : σ → Option (Fw σ β)} (I : Nat → σ → Prop) (Q : σ ⊕ β → Prop) : ∀ (m n : Nat) (s : σ), m < n → I m s → (∀ m s, I m s → ∃ b, c s = some b ∧ ((b = false ∧ Q (.inl s)) ∨ (b = true ∧ ∃ o, f s = some o ∧ match o with
    | .nx s' => ∃ m', m' < m ∧ I m' s'
    | .bk s' => Q (.inl s')
    | .rt v => Q (.inr v)))) → ∃ o, whileO c f n s = some o ∧ Q o
  | m, 0, s, h, _, _ => by omega
  | m, n + 1, s, hn, hi, st => by
    obtain ⟨b, e, k⟩ := st m s hi
    unfold whileO
    rw [e]
    rcases k with ⟨rfl, q⟩ | ⟨rfl, o, e2, k⟩
    · exact ⟨_, rfl, q⟩
    · simp only [Option.bind_some, if_pos, e2]
      cases o with
      | nx s' =>
        obtain ⟨m', hm, hi'⟩ := k
        exact while_ok I Q m' n s' (by omega) hi' st
      | bk s' => exact ⟨_, rfl, k⟩
      | rt v => exact ⟨_, rfl, k⟩
/-- items that hold the hand -/
theorem compN_ok {f : σ → α → Option (β × σ)} {b : β} {l : List α} (h : ∀ s x, ∃ s', f s x = some (b, s')) (hl : l.length ≤ 10000000) (s : σ) : ∃ s', compN f l s = some (l.map fun _ => b, s') := by
  have k : ∀ (l : List α) (s : σ), ∃ s', mapS f l s = some (l.map fun _ => b, s') := fun l => by
    induction l with
    | nil => exact fun s => ⟨s, rfl⟩
    | cons x l ih =>
      intro s
      obtain ⟨s1, e1⟩ := h s x
      obtain ⟨s2, e2⟩ := ih s1
      refine ⟨s2, ?_⟩
      unfold mapS
      rw [e1]
      simp only [Option.bind_some, e2]
      rfl
  obtain ⟨s', e⟩ := k l s
  refine ⟨s', ?_⟩
  unfold compN
  rw [e]
  simp only [Option.bind_some]
  rw [lenO_ok (by rw [List.length_map]; exact hl)]
  rfl
/-! ### neighbours in a list -/
def Ch (R : α → α → Prop) : List α → Prop
  | [] => True
  | a :: l => (∀ b, l.head? = some b → R a b) ∧ Ch R l
theorem Ch.zip {R : α → α → Prop} : ∀ {l : List α}, Ch R l → ∀ q ∈ List.zip l (l.drop 1), R q.1 q.2
  | [], _, q, hq => by simp at hq
  | [a], _, q, hq => by simp at hq
  | a :: b :: l, h, q, hq => by
    simp only [List.drop_succ_cons, List.drop_zero, List.zip_cons_cons, List.mem_cons] at hq
    rcases hq with rfl | hq
    · exact h.1 b rfl
    · exact Ch.zip (l := b :: l) h.2 q (by simpa using hq)
end
end TL
namespace K95
open PySem PySem.Spec PyProof.Rows L2 DR
def top (i : Nat) : Stmt := PySem.Challenge.pw_doorroads_k95_whole_two_heights_that_mee.main.body.getD i (.Pass ⟨0, 0, 0, 0⟩)
abbrev s__law_hand : Stmt := top 31
abbrev N__law_hand : List Str := ["script", "cells", "cell"]
def cp0__law_hand : OM := lcO (seqI (plainE (cutN 0 noQ (someQ (constE (.int 63)))))) (.nm 2) yesT (un1E absG (un1E intG (nameB 2))) [2]
def b__law_hand : SM := (seqS (thenD (setS 1 cp0__law_hand) 1)
  (retS (lstE (consA (nameE 1) (consA (constE (.int 0)) (consA (constE (.int 0)) (consA (plainE (binO addO (constE (.int 95)) (plainE (binO mulO (constE (.int 331)) (un1E lenA (nameB 1)))))) (consA (constE (.int 0)) nilA))))))))
def F__law_hand : SemF := bodyF 3 b__law_hand
theorem sc__law_hand : FnScope N__law_hand ["script"] (defScope s__law_hand) := ⟨rfl, rfl, rfl, by decide +kernel, rfl, by decide +kernel, by decide +kernel⟩
abbrev s_is_integer : Stmt := top 1
abbrev N_is_integer : List Str := ["thing"]
def xe0_is_integer : EM := (andE (un1E (isiG "int") (nameB 0)) (notE (un1E (isiG "bool") (nameB 0))))
def b_is_integer : SM := (retS (sharedE xe0_is_integer))
def F_is_integer : SemF := bodyF 1 b_is_integer
theorem sc_is_integer : FnScope N_is_integer ["thing"] (defScope s_is_integer) := ⟨rfl, rfl, rfl, by decide +kernel, rfl, by decide +kernel, by decide +kernel⟩
abbrev s_is_within : Stmt := top 2
abbrev N_is_within : List Str := ["thing", "least", "most"]
def xe0_is_within : EM := (chainE leI leI (nameE 1) (nameE 0) (nameE 2))
def xe1_is_within : EM := (andE (plainE (callO F_is_integer (consA (nameE 0) nilA))) xe0_is_within)
def b_is_within : SM := (retS (sharedE xe1_is_within))
def F_is_within : SemF := bodyF 3 b_is_within
theorem sc_is_within : FnScope N_is_within ["thing", "least", "most"] (defScope s_is_within) := ⟨rfl, rfl, rfl, by decide +kernel, rfl, by decide +kernel, by decide +kernel⟩
abbrev s_check_sides : Stmt := top 11
abbrev N_check_sides : List Str := ["high", "wide"]
def te0_check_sides : TM := (orT (notT (testE (plainE (callO F_is_within (consA (nameE 0) (consA (constE (.int 2)) (consA (constE (.int 8)) nilA))))))) (notT (testE (plainE (callO F_is_within (consA (nameE 1) (consA (constE (.int 2)) (consA (constE (.int 8)) nilA))))))))
def b_check_sides : SM := (ifS te0_check_sides badS nextS)
def F_check_sides : SemF := bodyF 2 b_check_sides
theorem sc_check_sides : FnScope N_check_sides ["high", "wide"] (defScope s_check_sides) := ⟨rfl, rfl, rfl, by decide +kernel, rfl, by decide +kernel, by decide +kernel⟩
abbrev s_is_tuple : Stmt := top 3
abbrev N_is_tuple : List Str := ["thing", "least", "most"]
def xe0_is_tuple : EM := (chainE leI leI (nameE 1) (un1E lenA (nameB 0)) (nameE 2))
def xe1_is_tuple : EM := (andE (un1E (isiG "tuple") (nameB 0)) xe0_is_tuple)
def b_is_tuple : SM := (retS (sharedE xe1_is_tuple))
def F_is_tuple : SemF := bodyF 3 b_is_tuple
theorem sc_is_tuple : FnScope N_is_tuple ["thing", "least", "most"] (defScope s_is_tuple) := ⟨rfl, rfl, rfl, by decide +kernel, rfl, by decide +kernel, by decide +kernel⟩
abbrev s_is_heights : Stmt := top 10
abbrev N_is_heights : List Str := ["high", "wide", "thing", "a", "b", "x", "y", "row", "one"]
def cp0_is_heights : OM := lcO (seqI (nameE 2)) (.nm 7) yesT (plainE (callO F_is_tuple (consA (nameE 7) (consA (nameE 1) (consA (nameE 1) nilA))))) [7]
def te0_is_heights : TM := (orT (notT (testE (plainE (callO F_is_tuple (consA (nameE 2) (consA (nameE 0) (consA (nameE 0) nilA))))))) (notT (testE (un1E allG (plainE cp0_is_heights)))))
def cp1_is_heights : OM := lc2O (seqI (nameE 2)) (.nm 7) yesT (seqI (nameE 7)) (.nm 8) yesT (plainE (callO F_is_within (consA (nameE 8) (consA (negE (constE (.int 100))) (consA (constE (.int 100)) nilA))))) [7, 8] [8]
def xe0_is_heights : EM := (chainE leI ltI (constE (.int 0)) (plainE (binO addO (nameE 4) (nameE 6))) (nameE 1))
def te1_is_heights : TM := (andT (testE (binE ltI (plainE (binO addO (nameE 3) (nameE 5))) (nameE 0))) (andT (testE xe0_is_heights) (testE (binE gtI (un1E absG (binE subI (ixE (ixN 2 (nameE 3)) (nameE 4)) (ixE (ixN 2 (plainE (binO addO (nameE 3) (nameE 5)))) (plainE (binO addO (nameE 4) (nameE 6)))))) (constE (.int 1))))))
def bd0_is_heights : SM := (ifS te1_is_heights (retS (sharedE (constE (.bl false)))) nextS)
def it0_is_heights : IM := (seqI (tupE (consA (tupE (consA (constE (.int 0)) (consA (constE (.int 1)) nilA))) (consA (tupE (consA (constE (.int 1)) (consA (negE (constE (.int 1))) nilA))) (consA (tupE (consA (constE (.int 1)) (consA (constE (.int 0)) nilA))) (consA (tupE (consA (constE (.int 1)) (consA (constE (.int 1)) nilA))) nilA))))))
def lp0_is_heights : SM := forS it0_is_heights (.tp [(.nm 5), (.nm 6)]) bd0_is_heights
def bd1_is_heights : SM := lp0_is_heights
def it1_is_heights : IM := (range1I (nameE 1))
def lp1_is_heights : SM := forS it1_is_heights (.nm 4) bd1_is_heights
def bd2_is_heights : SM := lp1_is_heights
def it2_is_heights : IM := (range1I (nameE 0))
def lp2_is_heights : SM := forS it2_is_heights (.nm 3) bd2_is_heights
def b_is_heights : SM := (seqS (exprS (plainE (callO F_check_sides (consA (nameE 0) (consA (nameE 1) nilA)))))
  (seqS (ifS te0_is_heights (retS (sharedE (constE (.bl false)))) nextS)
  (seqS (ifS (notT (testE (un1E allG (plainE cp1_is_heights)))) (retS (sharedE (constE (.bl false)))) nextS)
  (seqS lp2_is_heights
  (retS (sharedE (constE (.bl true))))))))
def F_is_heights : SemF := bodyF 9 b_is_heights
theorem sc_is_heights : FnScope N_is_heights ["high", "wide", "thing"] (defScope s_is_heights) := ⟨rfl, rfl, rfl, by decide +kernel, rfl, by decide +kernel, by decide +kernel⟩
abbrev s_check_heights : Stmt := top 12
abbrev N_check_heights : List Str := ["high", "wide", "thing"]
def b_check_heights : SM := (ifS (notT (testE (plainE (callO F_is_heights (consA (nameE 0) (consA (nameE 1) (consA (nameE 2) nilA))))))) badS nextS)
def F_check_heights : SemF := bodyF 3 b_check_heights
theorem sc_check_heights : FnScope N_check_heights ["high", "wide", "thing"] (defScope s_check_heights) := ⟨rfl, rfl, rfl, by decide +kernel, rfl, by decide +kernel, by decide +kernel⟩
abbrev s_is_up_down : Stmt := top 13
abbrev N_is_up_down : List Str := ["heights"]
def xe0_is_up_down : EM := (chainE leI leI (un1E maxA (ixN 0 (constE (.int 0)))) (constE (.int 0)) (un1E minA (ixN 0 (negE (constE (.int 1))))))
def b_is_up_down : SM := (retS (sharedE xe0_is_up_down))
def F_is_up_down : SemF := bodyF 1 b_is_up_down
theorem sc_is_up_down : FnScope N_is_up_down ["heights"] (defScope s_is_up_down) := ⟨rfl, rfl, rfl, by decide +kernel, rfl, by decide +kernel, by decide +kernel⟩
abbrev s_around : Stmt := top 17
abbrev N_around : List Str := ["high", "wide", "cell", "found", "x", "y", "one"]
def cp0_around : OM := lc2O (seqI (tupE (consA (negE (constE (.int 1))) (consA (constE (.int 0)) (consA (constE (.int 1)) nilA))))) (.nm 4) yesT (seqI (tupE (consA (negE (constE (.int 1))) (consA (constE (.int 0)) (consA (constE (.int 1)) nilA))))) (.nm 5) (testE (binE (eqG true) (tupE (consA (nameE 4) (consA (nameE 5) nilA))) (tupE (consA (constE (.int 0)) (consA (constE (.int 0)) nilA))))) (tupE (consA (plainE (binO addO (ixN 2 (constE (.int 0))) (nameE 4))) (consA (plainE (binO addO (ixN 2 (constE (.int 1))) (nameE 5))) nilA))) [4, 5] [5]
def xe0_around : EM := (chainE leI ltI (constE (.int 0)) (ixN 6 (constE (.int 0))) (nameE 0))
def xe1_around : EM := (chainE leI ltI (constE (.int 0)) (ixN 6 (constE (.int 1))) (nameE 1))
def te0_around : TM := (andT (testE xe0_around) (testE xe1_around))
def cp1_around : OM := lcO (seqI (nameE 3)) (.nm 6) te0_around (nameE 6) [6]
def b_around : SM := (seqS (thenD (setS 3 cp0_around) 3)
  (retS cp1_around))
def F_around : SemF := bodyF 7 b_around
theorem sc_around : FnScope N_around ["high", "wide", "cell"] (defScope s_around) := ⟨rfl, rfl, rfl, by decide +kernel, rfl, by decide +kernel, by decide +kernel⟩
abbrev s_line_of : Stmt := top 16
abbrev N_line_of : List Str := ["heights", "high", "wide", "ahead", "waiting", "at", "a", "here", "found", "cell"]
def jf0_line_of : SM := (ifS (testE (binE (eqG false) (ixE (ixN 0 (nameE 6)) (constE (.int 0))) (constE (.int 0)))) (seqS (setIxS 3 (constE .non) (tupE (consA (nameE 6) (consA (constE (.int 0)) nilA))))
  (exprS (appE 4 (tupE (consA (nameE 6) (consA (constE (.int 0)) nilA)))))) nextS)
def bd0_line_of : SM := jf0_line_of
def it0_line_of : IM := (range1I (nameE 1))
def lp0_line_of : SM := forS it0_line_of (.nm 6) bd0_line_of
def bd1_line_of : SM := (seqS (exprS (appE 8 (nameE 7)))
  (setS 7 (sharedE (ixN 3 (nameE 7)))))
def ts0_line_of : TM := (testE (binE (isG true) (nameE 7) (constE .non)))
def wl0_line_of : SM := whileN ts0_line_of bd1_line_of fuel
def te0_line_of : TM := (andT (testE (binE (inG true) (nameE 9) (nameB 3))) (testE (binE (eqG false) (ixE (ixN 0 (ixN 9 (constE (.int 0)))) (ixN 9 (constE (.int 1)))) (constE (.int 0)))))
def jf1_line_of : SM := (ifS te0_line_of (seqS (setIxS 3 (nameE 7) (nameE 9))
  (exprS (appE 4 (nameE 9)))) nextS)
def bd2_line_of : SM := jf1_line_of
def it1_line_of : IM := (seqI (plainE (callO F_around (consA (nameE 1) (consA (nameE 2) (consA (nameE 7) nilA))))))
def lp1_line_of : SM := forS it1_line_of (.nm 9) bd2_line_of
def bd3_line_of : SM := (seqS (setS 7 (sharedE (ixN 4 (nameE 5))))
  (seqS (augS 5 addI (constE (.int 1)))
  (seqS (ifS (testE (binE (eqG false) (ixN 7 (constE (.int 1))) (binE subI (nameE 2) (constE (.int 1))))) (seqS (setS 8 (lstE nilA))
  (seqS wl0_line_of
  (retS (sharedE (plainE (un1O revA (nameB 8))))))) nextS)
  lp1_line_of)))
def ts1_line_of : TM := (testE (binE ltI (nameE 5) (un1E lenA (nameB 4))))
def wl1_line_of : SM := whileN ts1_line_of bd3_line_of fuel
def b_line_of : SM := (seqS (parS [1, 2] (consL (sharedE (un1E lenA (nameB 0))) (consL (sharedE (un1E lenA (ixN 0 (constE (.int 0))))) nilL)))
  (seqS (parS [3, 4, 5] (consL newT (consL (lstE nilA) (consL (sharedE (constE (.int 0))) nilL))))
  (seqS lp0_line_of
  (seqS wl1_line_of
  (retS (sharedE (constE .non)))))))
def F_line_of : SemF := bodyF 10 b_line_of
theorem sc_line_of : FnScope N_line_of ["heights"] (defScope s_line_of) := ⟨rfl, rfl, rfl, by decide +kernel, rfl, by decide +kernel, by decide +kernel⟩
abbrev s_line_told : Stmt := top 18
abbrev N_line_told : List Str := ["high", "wide", "heights"]
def b_line_told : SM := (seqS (exprS (plainE (callO F_check_heights (consA (nameE 0) (consA (nameE 1) (consA (nameE 2) nilA))))))
  (seqS (ifS (notT (testE (plainE (callO F_is_up_down (consA (nameE 2) nilA))))) badS nextS)
  (retS (sharedE (un1E tupG (plainE (callO F_line_of (consA (nameE 2) nilA))))))))
def F_line_told : SemF := bodyF 3 b_line_told
theorem sc_line_told : FnScope N_line_told ["high", "wide", "heights"] (defScope s_line_told) := ⟨rfl, rfl, rfl, by decide +kernel, rfl, by decide +kernel, by decide +kernel⟩
abbrev s__law_draw : Stmt := top 32
abbrev N__law_draw : List Str := ["hand", "many", "cell", "digit", "number"]
def te0__law_draw : TM := (andT (testE (binE (eqG false) (ixN 0 (constE (.int 2))) (constE (.int 0)))) (testE (binE ltI (ixN 0 (constE (.int 1))) (un1E lenA (ixN 0 (constE (.int 0)))))))
def jf0__law_draw : SM := (ifS (testE (binE geI (nameE 2) (binE powI (constE (.int 10)) (constE (.int 18))))) (setIxS 0 (nameE 2) (constE (.int 2))) nextS)
def jf1__law_draw : SM := (ifS te0__law_draw (seqS (setS 2 (sharedE (ixE (ixN 0 (constE (.int 0))) (ixN 0 (constE (.int 1))))))
  (seqS (setIxS 0 (plainE (binO addO (ixN 0 (constE (.int 1))) (constE (.int 1)))) (constE (.int 1)))
  (seqS (setIxS 0 (binE modI (un1E intG (plainE (binO addO (plainE (binO addO (plainE (binO mulO (ixN 0 (constE (.int 3))) (constE (.int 69621)))) (plainE (binO mulO (nameE 2) (constE (.int 40692)))))) (constE (.int 95))))) (constE (.int 2147483629))) (constE (.int 3)))
  jf0__law_draw))) nextS)
def b__law_draw : SM := (seqS jf1__law_draw
  (seqS (ifS (testE (binE gtI (ixN 0 (constE (.int 2))) (constE (.int 0)))) (seqS (setS 3 (sharedE (binE modI (un1E intG (ixN 0 (constE (.int 2)))) (nameE 1))))
  (seqS (setIxS 0 (binE fdivI (ixN 0 (constE (.int 2))) (nameE 1)) (constE (.int 2)))
  (retS (sharedE (nameE 3))))) nextS)
  (seqS (setIxS 0 (plainE (binO addO (ixN 0 (constE (.int 4))) (constE (.int 1)))) (constE (.int 4)))
  (seqS (setS 4 (sharedE (binE modI (un1E intG (plainE (binO mulO (un1E intG (plainE (binO addO (ixN 0 (constE (.int 3))) (plainE (binO mulO (constE (.int 7919)) (ixN 0 (constE (.int 4)))))))) (constE (.int 48271))))) (constE (.int 2147483647)))))
  (seqS (setS 4 (sharedE (binE modI (un1E intG (plainE (binO mulO (nameE 4) (plainE (binO addO (binE fdivI (nameE 4) (constE (.int 1009))) (constE (.int 69621))))))) (constE (.int 2147483647)))))
  (seqS (setS 4 (sharedE (binE modI (un1E intG (plainE (binO mulO (nameE 4) (plainE (binO addO (binE fdivI (nameE 4) (constE (.int 2003))) (constE (.int 40014))))))) (constE (.int 2147483563)))))
  (retS (sharedE (binE modI (un1E intG (binE fdivI (nameE 4) (constE (.int 16)))) (nameE 1))))))))))
def F__law_draw : SemF := bodyF 5 b__law_draw
theorem sc__law_draw : FnScope N__law_draw ["hand", "many"] (defScope s__law_draw) := ⟨rfl, rfl, rfl, by decide +kernel, rfl, by decide +kernel, by decide +kernel⟩
abbrev s_check_number : Stmt := top 27
abbrev N_check_number : List Str := ["number"]
def b_check_number : SM := (ifS (notT (testE (plainE (callO F_is_within (consA (nameE 0) (consA (constE (.int 0)) (consA (constE (.int 1000000000000000000000000000000000000000000000000000000000000)) nilA))))))) badS nextS)
def F_check_number : SemF := bodyF 1 b_check_number
theorem sc_check_number : FnScope N_check_number ["number"] (defScope s_check_number) := ⟨rfl, rfl, rfl, by decide +kernel, rfl, by decide +kernel, by decide +kernel⟩
abbrev s_digits : Stmt := top 28
abbrev N_digits : List Str := ["number", "many", "base", "found", "turn"]
def bd0_digits : SM := (seqS (exprS (appE 3 (binE modI (nameE 0) (nameE 2))))
  (setS 0 (sharedE (binE fdivI (nameE 0) (nameE 2)))))
def it0_digits : IM := (range1I (nameE 1))
def lp0_digits : SM := forS it0_digits (.nm 4) bd0_digits
def b_digits : SM := (seqS (setS 3 (lstE nilA))
  (seqS lp0_digits
  (retS (sharedE (nameE 3)))))
def F_digits : SemF := bodyF 5 b_digits
theorem sc_digits : FnScope N_digits ["number", "many", "base"] (defScope s_digits) := ⟨rfl, rfl, rfl, by decide +kernel, rfl, by decide +kernel, by decide +kernel⟩
abbrev s_drawn_heights : Stmt := top 29
abbrev sco_drawn_heights_0 : Scope := pScope (pArg (pVal (pS (defBody s_drawn_heights) 6)) 0)
abbrev N_drawn_heights : List Str := ["high", "wide", "number", "some", "down", "across", "one", "other"]
def te0_drawn_heights : TM := (orT (notT (testE (plainE (callO F_is_within (consA (nameE 0) (consA (constE (.int 2)) (consA (constE (.int 8)) nilA))))))) (notT (testE (plainE (callO F_is_within (consA (nameE 1) (consA (constE (.int 2)) (consA (constE (.int 8)) nilA))))))))
def cp0_drawn_heights : OM := lcO (seqI (plainE (callO F_digits (consA (nameE 2) (consA (binE subI (plainE (binO addO (nameE 0) (nameE 1))) (constE (.int 2))) (consA (constE (.int 3)) nilA)))))) (.nm 6) yesT (binE subI (nameE 6) (constE (.int 1))) [6]
def bd0_drawn_heights : SM := (exprS (appE 4 (plainE (binO addO (ixN 4 (negE (constE (.int 1)))) (nameE 6)))))
def it0_drawn_heights : IM := (seqI (plainE (cutN 3 noQ (someQ (binE subI (nameE 0) (constE (.int 1)))))))
def lp0_drawn_heights : SM := forS it0_drawn_heights (.nm 6) bd0_drawn_heights
def bd1_drawn_heights : SM := (exprS (appE 5 (plainE (binO addO (ixN 5 (negE (constE (.int 1)))) (nameE 6)))))
def it1_drawn_heights : IM := (seqI (plainE (cutN 3 (someQ (binE subI (nameE 0) (constE (.int 1)))) noQ)))
def lp1_drawn_heights : SM := forS it1_drawn_heights (.nm 6) bd1_drawn_heights
def cp1_drawn_heights : OM := lcO (seqI (nameE 5)) (.nm 7) yesT (binE max2G (nameE 6) (nameE 7)) [7]
def cp2_drawn_heights : OM := lcO (seqI (nameE 4)) (.nm 6) yesT (un1E tupG (plainE cp1_drawn_heights)) [6]
def b_drawn_heights : SM := (seqS (exprS (plainE (callO F_check_number (consA (nameE 2) nilA))))
  (seqS (ifS te0_drawn_heights badS nextS)
  (seqS (thenD (setS 3 cp0_drawn_heights) 3)
  (seqS (parS [4, 5] (consL (lstE (consA (constE (.int 0)) nilA)) (consL (lstE (consA (constE (.int 0)) nilA)) nilL)))
  (seqS lp0_drawn_heights
  (seqS (thenD lp1_drawn_heights 5)
  (retS (sharedE (un1E tupG (plainE cp2_drawn_heights))))))))))
def F_drawn_heights : SemF := bodyF 8 b_drawn_heights
theorem sc_drawn_heights : FnScope N_drawn_heights ["high", "wide", "number"] (defScope s_drawn_heights) := ⟨rfl, rfl, rfl, by decide +kernel, rfl, by decide +kernel, by decide +kernel⟩
abbrev s_noughts : Stmt := top 15
abbrev N_noughts : List Str := ["high", "wide", "heights", "a", "b"]
def cp0_noughts : OM := lc2O (range1I (nameE 0)) (.nm 3) yesT (range1I (nameE 1)) (.nm 4) (testE (binE (eqG false) (ixE (ixN 2 (nameE 3)) (nameE 4)) (constE (.int 0)))) (tupE (consA (nameE 3) (consA (nameE 4) nilA))) [3, 4] [4]
def b_noughts : SM := (seqS (exprS (plainE (callO F_check_heights (consA (nameE 0) (consA (nameE 1) (consA (nameE 2) nilA))))))
  (retS cp0_noughts))
def F_noughts : SemF := bodyF 5 b_noughts
theorem sc_noughts : FnScope N_noughts ["high", "wide", "heights"] (defScope s_noughts) := ⟨rfl, rfl, rfl, by decide +kernel, rfl, by decide +kernel, by decide +kernel⟩
abbrev s_is_left_right : Stmt := top 14
abbrev N_is_left_right : List Str := ["heights", "row"]
def cp0_is_left_right : OM := lcO (seqI (nameE 0)) (.nm 1) yesT (ixN 1 (constE (.int 0))) [1]
def cp1_is_left_right : OM := lcO (seqI (nameE 0)) (.nm 1) yesT (ixN 1 (negE (constE (.int 1)))) [1]
def xe0_is_left_right : EM := (chainE leI leI (un1E maxA (plainE cp0_is_left_right)) (constE (.int 0)) (un1E minA (plainE cp1_is_left_right)))
def b_is_left_right : SM := (retS (sharedE xe0_is_left_right))
def F_is_left_right : SemF := bodyF 2 b_is_left_right
theorem sc_is_left_right : FnScope N_is_left_right ["heights"] (defScope s_is_left_right) := ⟨rfl, rfl, rfl, by decide +kernel, rfl, by decide +kernel, by decide +kernel⟩
abbrev s_turned : Stmt := top 22
abbrev sco_turned_0 : Scope := pScope (pArg (pVal (pS (defBody s_turned) 1)) 0)
abbrev N_turned : List Str := ["high", "wide", "heights", "at", "row"]
def cp0_turned : OM := lcO (seqI (nameE 2)) (.nm 4) yesT (ixN 4 (nameE 3)) [4]
def cp1_turned : OM := lcO (range1I (nameE 1)) (.nm 3) yesT (un1E tupG (plainE cp0_turned)) [3]
def b_turned : SM := (seqS (exprS (plainE (callO F_check_heights (consA (nameE 0) (consA (nameE 1) (consA (nameE 2) nilA))))))
  (retS (sharedE (un1E tupG (plainE cp1_turned)))))
def F_turned : SemF := bodyF 5 b_turned
theorem sc_turned : FnScope N_turned ["high", "wide", "heights"] (defScope s_turned) := ⟨rfl, rfl, rfl, by decide +kernel, rfl, by decide +kernel, by decide +kernel⟩
abbrev s__law_plain_right : Stmt := top 37
abbrev N__law_plain_right : List Str := ["hand", "high", "wide", "heights_so", "own", "a", "row", "due", "b", "one"]
def cp0__law_plain_right : OM := lcO (enumAI (nameE 6)) (.tp [(.nm 8), (.nm 9)]) (testE (binE (eqG false) (nameE 9) (constE (.int 0)))) (tupE (consA (nameE 5) (consA (nameE 8) nilA))) [8, 9]
def bd0__law_plain_right : SM := (exprS (extE 4 (plainE cp0__law_plain_right)))
def it0__law_plain_right : IM := (enumAI (nameE 3))
def lp0__law_plain_right : SM := forS it0__law_plain_right (.tp [(.nm 5), (.nm 6)]) bd0__law_plain_right
def xe0__law_plain_right : EM := (andE (binE leI (un1E maxA (ixN 3 (constE (.int 0)))) (constE (.int 0))) (binE geI (un1E minA (ixN 3 (negE (constE (.int 1))))) (constE (.int 0))))
def b__law_plain_right : SM := (seqS (parS [1, 2] (consL (binO addO (constE (.int 2)) (plainE (callO F__law_draw (consA (nameE 0) (consA (constE (.int 5)) nilA))))) (consL (binO addO (constE (.int 2)) (plainE (callO F__law_draw (consA (nameE 0) (consA (constE (.int 5)) nilA))))) nilL)))
  (seqS (setS 3 (sharedE (plainE (callO F_drawn_heights (consA (nameE 1) (consA (nameE 2) (consA (plainE (callO F__law_draw (consA (nameE 0) (consA (binE powI (constE (.int 10)) (constE (.int 9))) nilA)))) nilA)))))))
  (seqS (ifS (testE (binE (isG true) (plainE (callO F_is_heights (consA (nameE 1) (consA (nameE 2) (consA (nameE 3) nilA))))) (constE (.bl true)))) (retS (sharedE (constE (.bl false)))) nextS)
  (seqS (setS 4 (lstE nilA))
  (seqS lp0__law_plain_right
  (seqS (ifS (testE (binE (eqG true) (plainE (callO F_noughts (consA (nameE 1) (consA (nameE 2) (consA (nameE 3) nilA))))) (nameE 4))) (retS (sharedE (constE (.bl false)))) nextS)
  (seqS (setS 7 (sharedE xe0__law_plain_right))
  (seqS (ifS (testE (binE (eqG true) (un1E reprG (plainE (callO F_is_up_down (consA (nameE 3) nilA)))) (un1E reprG (nameB 7)))) (retS (sharedE (constE (.bl false)))) nextS)
  (retS (sharedE (binE (eqG false) (un1E reprG (plainE (callO F_is_left_right (consA (plainE (callO F_turned (consA (nameE 1) (consA (nameE 2) (consA (nameE 3) nilA))))) nilA)))) (un1E reprG (nameB 7)))))))))))))
def F__law_plain_right : SemF := bodyF 10 b__law_plain_right
theorem sc__law_plain_right : FnScope N__law_plain_right ["hand"] (defScope s__law_plain_right) := ⟨rfl, rfl, rfl, by decide +kernel, rfl, by decide +kernel, by decide +kernel⟩
abbrev s__law_walk : Stmt := top 34
abbrev N__law_walk : List Str := ["hand", "many", "found", "turn"]
def bd0__law_walk : SM := (exprS (appE 2 (binE subI (plainE (binO addO (ixN 2 (negE (constE (.int 1)))) (plainE (callO F__law_draw (consA (nameE 0) (consA (constE (.int 3)) nilA)))))) (constE (.int 1)))))
def it0__law_walk : IM := (range1I (binE subI (nameE 1) (constE (.int 1))))
def lp0__law_walk : SM := forS it0__law_walk (.nm 3) bd0__law_walk
def b__law_walk : SM := (seqS (setS 2 (lstE (consA (binE subI (plainE (callO F__law_draw (consA (nameE 0) (consA (constE (.int 5)) nilA)))) (constE (.int 2))) nilA)))
  (seqS lp0__law_walk
  (retS (sharedE (nameE 2)))))
def F__law_walk : SemF := bodyF 4 b__law_walk
theorem sc__law_walk : FnScope N__law_walk ["hand", "many"] (defScope s__law_walk) := ⟨rfl, rfl, rfl, by decide +kernel, rfl, by decide +kernel, by decide +kernel⟩
abbrev s__law_steep : Stmt := top 35
abbrev N__law_steep : List Str := ["hand", "high", "wide", "one", "across", "begin", "lift", "found", "a", "b"]
def cp0__law_steep : OM := lcO (range1I (nameE 2)) (.nm 9) yesT (binE min2G (binE max2G (plainE (binO addO (ixN 3 (nameE 8)) (nameE 6))) (ixN 4 (nameE 9))) (binE subI (nameE 8) (nameE 5))) [9]
def bd0__law_steep : SM := (exprS (appE 7 (un1E tupG (plainE cp0__law_steep))))
def it0__law_steep : IM := (range1I (nameE 1))
def lp0__law_steep : SM := forS it0__law_steep (.nm 8) bd0__law_steep
def b__law_steep : SM := (seqS (parS [3, 4, 5] (consL (callO F__law_walk (consA (nameE 0) (consA (nameE 1) nilA))) (consL (callO F__law_walk (consA (nameE 0) (consA (nameE 2) nilA))) (consL (callO F__law_draw (consA (nameE 0) (consA (nameE 1) nilA))) nilL))))
  (seqS (setS 6 (sharedE (binE max2G (constE (.int 0)) (binE subI (constE (.int 0)) (ixN 3 (negE (constE (.int 1))))))))
  (seqS (setS 7 (lstE nilA))
  (seqS lp0__law_steep
  (retS (sharedE (un1E tupG (nameB 7))))))))
def F__law_steep : SemF := bodyF 10 b__law_steep
theorem sc__law_steep : FnScope N__law_steep ["hand", "high", "wide"] (defScope s__law_steep) := ⟨rfl, rfl, rfl, by decide +kernel, rfl, by decide +kernel, by decide +kernel⟩
abbrev s_is_line : Stmt := top 19
abbrev N_is_line : List Str := ["high", "wide", "heights", "thing", "cell", "a", "b", "here", "later"]
def cp0_is_line : OM := lcO (seqI (nameE 3)) (.nm 4) yesT (plainE (callO F_is_tuple (consA (nameE 4) (consA (constE (.int 2)) (consA (constE (.int 2)) nilA))))) [4]
def te0_is_line : TM := (orT (notT (testE (plainE (callO F_is_tuple (consA (nameE 3) (consA (constE (.int 1)) (consA (constE (.int 64)) nilA))))))) (notT (testE (un1E allG (plainE cp0_is_line)))))
def xe0_is_line : EM := (andE (plainE (callO F_is_within (consA (nameE 5) (consA (constE (.int 0)) (consA (binE subI (nameE 0) (constE (.int 1))) nilA))))) (plainE (callO F_is_within (consA (nameE 6) (consA (constE (.int 0)) (consA (binE subI (nameE 1) (constE (.int 1))) nilA))))))
def cp1_is_line : OM := lcO (seqI (nameE 3)) (.tp [(.nm 5), (.nm 6)]) yesT xe0_is_line [5, 6]
def dc0_is_line : OM := dcO (.dT []) (seqI (nameE 3)) (.nm 4) yesT (nameE 4) (constE (.bl true)) [4]
def cp2_is_line : OM := lcO (seqI (nameE 3)) (.tp [(.nm 5), (.nm 6)]) yesT (binE (eqG true) (ixE (ixN 2 (nameE 5)) (nameE 6)) (constE (.int 0))) [5, 6]
def te1_is_line : TM := (orT (testE (binE ltI (un1E lenA (plainE dc0_is_line)) (un1E lenA (nameB 3)))) (testE (un1E anyG (plainE cp2_is_line))))
def te2_is_line : TM := (orT (testE (binE (eqG true) (ixE (ixN 3 (constE (.int 0))) (constE (.int 1))) (constE (.int 0)))) (testE (binE (eqG true) (ixE (ixN 3 (negE (constE (.int 1)))) (constE (.int 1))) (binE subI (nameE 1) (constE (.int 1))))))
def cp3_is_line : OM := lcO (zipI (nameE 3) (plainE (cutN 3 (someQ (constE (.int 1))) noQ))) (.tp [(.nm 7), (.nm 8)]) yesT (binE (inG false) (nameE 8) (plainE (callO F_around (consA (nameE 0) (consA (nameE 1) (consA (nameE 7) nilA)))))) [7, 8]
def b_is_line : SM := (seqS (exprS (plainE (callO F_check_heights (consA (nameE 0) (consA (nameE 1) (consA (nameE 2) nilA))))))
  (seqS (ifS te0_is_line (retS (sharedE (constE (.bl false)))) nextS)
  (seqS (ifS (notT (testE (un1E allG (plainE cp1_is_line)))) (retS (sharedE (constE (.bl false)))) nextS)
  (seqS (ifS te1_is_line (retS (sharedE (constE (.bl false)))) nextS)
  (seqS (ifS te2_is_line (retS (sharedE (constE (.bl false)))) nextS)
  (retS (sharedE (un1E allG (plainE cp3_is_line)))))))))
def F_is_line : SemF := bodyF 9 b_is_line
theorem sc_is_line : FnScope N_is_line ["high", "wide", "heights", "thing"] (defScope s_is_line) := ⟨rfl, rfl, rfl, by decide +kernel, rfl, by decide +kernel, by decide +kernel⟩
abbrev s__law_about : Stmt := top 36
abbrev N__law_about : List Str := ["one", "other"]
def b__law_about : SM := (retS (sharedE (binE (eqG false) (binE max2G (un1E absG (binE subI (ixN 0 (constE (.int 0))) (ixN 1 (constE (.int 0))))) (un1E absG (binE subI (ixN 0 (constE (.int 1))) (ixN 1 (constE (.int 1)))))) (constE (.int 1)))))
def F__law_about : SemF := bodyF 2 b__law_about
theorem sc__law_about : FnScope N__law_about ["one", "other"] (defScope s__law_about) := ⟨rfl, rfl, rfl, by decide +kernel, rfl, by decide +kernel, by decide +kernel⟩
abbrev s_both_noughts : Stmt := top 21
abbrev N_both_noughts : List Str := ["high", "wide", "one", "other", "a", "b"]
def te0_both_noughts : TM := (andT (testE (binE (eqG false) (ixE (ixN 2 (nameE 4)) (nameE 5)) (constE (.int 0)))) (testE (binE (eqG false) (ixE (ixN 3 (nameE 4)) (nameE 5)) (constE (.int 0)))))
def cp0_both_noughts : OM := lc2O (range1I (nameE 0)) (.nm 4) yesT (range1I (nameE 1)) (.nm 5) te0_both_noughts (tupE (consA (nameE 4) (consA (nameE 5) nilA))) [4, 5] [5]
def b_both_noughts : SM := (seqS (exprS (plainE (callO F_check_heights (consA (nameE 0) (consA (nameE 1) (consA (nameE 2) nilA))))))
  (seqS (exprS (plainE (callO F_check_heights (consA (nameE 0) (consA (nameE 1) (consA (nameE 3) nilA))))))
  (retS cp0_both_noughts)))
def F_both_noughts : SemF := bodyF 6 b_both_noughts
theorem sc_both_noughts : FnScope N_both_noughts ["high", "wide", "one", "other"] (defScope s_both_noughts) := ⟨rfl, rfl, rfl, by decide +kernel, rfl, by decide +kernel, by decide +kernel⟩
abbrev s_common : Stmt := top 20
abbrev N_common : List Str := ["high", "wide", "one", "other"]
def te0_common : TM := (orT (notT (testE (plainE (callO F_is_up_down (consA (nameE 2) nilA))))) (notT (testE (plainE (callO F_is_left_right (consA (nameE 3) nilA))))))
def b_common : SM := (seqS (exprS (plainE (callO F_check_heights (consA (nameE 0) (consA (nameE 1) (consA (nameE 2) nilA))))))
  (seqS (exprS (plainE (callO F_check_heights (consA (nameE 0) (consA (nameE 1) (consA (nameE 3) nilA))))))
  (seqS (ifS te0_common badS nextS)
  (retS (sharedE (ixE (plainE (callO F_both_noughts (consA (nameE 0) (consA (nameE 1) (consA (nameE 2) (consA (nameE 3) nilA)))))) (constE (.int 0))))))))
def F_common : SemF := bodyF 4 b_common
theorem sc_common : FnScope N_common ["high", "wide", "one", "other"] (defScope s_common) := ⟨rfl, rfl, rfl, by decide +kernel, rfl, by decide +kernel, by decide +kernel⟩
abbrev s_backed : Stmt := top 23
abbrev sco_backed_0 : Scope := pScope (pArg (pVal (pS (defBody s_backed) 1)) 0)
abbrev N_backed : List Str := ["high", "wide", "heights", "row", "one"]
def cp0_backed : OM := lcO (seqI (nameE 3)) (.nm 4) yesT (negE (nameE 4)) [4]
def cp1_backed : OM := lcO (seqI (plainE (un1O revA (nameB 2)))) (.nm 3) yesT (un1E tupG (plainE cp0_backed)) [3]
def b_backed : SM := (seqS (exprS (plainE (callO F_check_heights (consA (nameE 0) (consA (nameE 1) (consA (nameE 2) nilA))))))
  (retS (sharedE (un1E tupG (plainE cp1_backed)))))
def F_backed : SemF := bodyF 5 b_backed
theorem sc_backed : FnScope N_backed ["high", "wide", "heights"] (defScope s_backed) := ⟨rfl, rfl, rfl, by decide +kernel, rfl, by decide +kernel, by decide +kernel⟩
abbrev s__law_held_right : Stmt := top 38
abbrev N__law_held_right : List Str := ["hand", "high", "wide", "one", "other", "line", "both", "a", "b", "here", "later"]
def te0__law_held_right : TM := (orT (testE (binE (isG true) (plainE (callO F_is_up_down (consA (nameE 3) nilA))) (constE (.bl true)))) (testE (binE (isG true) (plainE (callO F_is_left_right (consA (nameE 4) nilA))) (constE (.bl true)))))
def te1__law_held_right : TM := (orT (testE (binE (isG true) (plainE (callO F_is_line (consA (nameE 1) (consA (nameE 2) (consA (nameE 3) (consA (nameE 5) nilA)))))) (constE (.bl true)))) (orT (testE (binE (eqG true) (ixE (ixN 5 (constE (.int 0))) (constE (.int 1))) (constE (.int 0)))) (testE (binE (eqG true) (ixE (ixN 5 (negE (constE (.int 1)))) (constE (.int 1))) (binE subI (nameE 2) (constE (.int 1)))))))
def cp0__law_held_right : OM := lcO (seqI (nameE 5)) (.tp [(.nm 7), (.nm 8)]) yesT (binE (eqG true) (ixE (ixN 3 (nameE 7)) (nameE 8)) (constE (.int 0))) [7, 8]
def cp1__law_held_right : OM := lcO (zipI (nameE 5) (plainE (cutN 5 (someQ (constE (.int 1))) noQ))) (.tp [(.nm 9), (.nm 10)]) yesT (plainE (callO F__law_about (consA (nameE 9) (consA (nameE 10) nilA)))) [9, 10]
def cp2__law_held_right : OM := lcO (seqI (plainE (callO F_noughts (consA (nameE 1) (consA (nameE 2) (consA (nameE 3) nilA)))))) (.tp [(.nm 7), (.nm 8)]) (testE (binE (eqG false) (ixE (ixN 4 (nameE 7)) (nameE 8)) (constE (.int 0)))) (tupE (consA (nameE 7) (consA (nameE 8) nilA))) [7, 8]
def te2__law_held_right : TM := (orT (testE (binE (eqG true) (plainE (callO F_both_noughts (consA (nameE 1) (consA (nameE 2) (consA (nameE 3) (consA (nameE 4) nilA)))))) (nameE 6))) (testE (binE (eqG true) (plainE (callO F_common (consA (nameE 1) (consA (nameE 2) (consA (nameE 3) (consA (nameE 4) nilA)))))) (ixN 6 (constE (.int 0))))))
def b__law_held_right : SM := (seqS (parS [1, 2] (consL (binO addO (constE (.int 2)) (plainE (callO F__law_draw (consA (nameE 0) (consA (constE (.int 5)) nilA))))) (consL (binO addO (constE (.int 2)) (plainE (callO F__law_draw (consA (nameE 0) (consA (constE (.int 5)) nilA))))) nilL)))
  (seqS (setS 3 (sharedE (plainE (callO F__law_steep (consA (nameE 0) (consA (nameE 1) (consA (nameE 2) nilA)))))))
  (seqS (setS 4 (sharedE (plainE (callO F_turned (consA (nameE 2) (consA (nameE 1) (consA (plainE (callO F__law_steep (consA (nameE 0) (consA (nameE 2) (consA (nameE 1) nilA))))) nilA)))))))
  (seqS (ifS te0__law_held_right (retS (sharedE (constE (.bl false)))) nextS)
  (seqS (setS 5 (sharedE (plainE (callO F_line_told (consA (nameE 1) (consA (nameE 2) (consA (nameE 3) nilA)))))))
  (seqS (ifS te1__law_held_right (retS (sharedE (constE (.bl false)))) nextS)
  (seqS (ifS (testE (un1E anyG (plainE cp0__law_held_right))) (retS (sharedE (constE (.bl false)))) nextS)
  (seqS (ifS (notT (testE (un1E allG (plainE cp1__law_held_right)))) (retS (sharedE (constE (.bl false)))) nextS)
  (seqS (thenD (setS 6 cp2__law_held_right) 6)
  (seqS (ifS te2__law_held_right (retS (sharedE (constE (.bl false)))) nextS)
  (retS (sharedE (binE (isG false) (plainE (callO F_is_up_down (consA (plainE (callO F_backed (consA (nameE 1) (consA (nameE 2) (consA (nameE 3) nilA))))) nilA))) (constE (.bl true)))))))))))))))
def F__law_held_right : SemF := bodyF 11 b__law_held_right
theorem sc__law_held_right : FnScope N__law_held_right ["hand"] (defScope s__law_held_right) := ⟨rfl, rfl, rfl, by decide +kernel, rfl, by decide +kernel, by decide +kernel⟩
abbrev s_by_sums : Stmt := top 24
abbrev sco_by_sums_0 : Scope := pScope (pArg (pVal (pS (defBody s_by_sums) 1)) 0)
abbrev N_by_sums : List Str := ["down", "across", "row", "one", "a", "b", "other"]
def cp0_by_sums : OM := lcO (seqI (nameE 2)) (.nm 3) yesT (plainE (callO F_is_within (consA (nameE 3) (consA (negE (constE (.int 100))) (consA (constE (.int 100)) nilA))))) [3]
def te0_by_sums : TM := (orT (notT (testE (plainE (callO F_is_tuple (consA (nameE 2) (consA (constE (.int 2)) (consA (constE (.int 8)) nilA))))))) (notT (testE (un1E allG (plainE cp0_by_sums)))))
def cp1_by_sums : OM := lcO (zipI (nameE 2) (plainE (cutN 2 (someQ (constE (.int 1))) noQ))) (.tp [(.nm 4), (.nm 5)]) yesT (binE leI (un1E absG (binE subI (nameE 4) (nameE 5))) (constE (.int 1))) [4, 5]
def bd0_by_sums : SM := (seqS (ifS te0_by_sums badS nextS)
  (ifS (notT (testE (un1E allG (plainE cp1_by_sums)))) badS nextS))
def it0_by_sums : IM := (seqI (tupE (consA (nameE 0) (consA (nameE 1) nilA))))
def lp0_by_sums : SM := forS it0_by_sums (.nm 2) bd0_by_sums
def cp2_by_sums : OM := lcO (seqI (nameE 1)) (.nm 6) yesT (binE max2G (nameE 3) (nameE 6)) [6]
def cp3_by_sums : OM := lcO (seqI (nameE 0)) (.nm 3) yesT (un1E tupG (plainE cp2_by_sums)) [3]
def b_by_sums : SM := (seqS lp0_by_sums
  (retS (sharedE (un1E tupG (plainE cp3_by_sums)))))
def F_by_sums : SemF := bodyF 7 b_by_sums
theorem sc_by_sums : FnScope N_by_sums ["down", "across"] (defScope s_by_sums) := ⟨rfl, rfl, rfl, by decide +kernel, rfl, by decide +kernel, by decide +kernel⟩
abbrev s__law_sums_right : Stmt := top 39
abbrev N__law_sums_right : List Str := ["hand", "down", "across", "turn", "told_so", "a", "one", "b", "mate"]
def bd0__law_sums_right : SM := (exprS (appE 1 (binE subI (plainE (binO addO (ixN 1 (negE (constE (.int 1)))) (plainE (callO F__law_draw (consA (nameE 0) (consA (constE (.int 3)) nilA)))))) (constE (.int 1)))))
def it0__law_sums_right : IM := (range1I (plainE (binO addO (constE (.int 1)) (plainE (callO F__law_draw (consA (nameE 0) (consA (constE (.int 5)) nilA)))))))
def lp0__law_sums_right : SM := forS it0__law_sums_right (.nm 3) bd0__law_sums_right
def bd1__law_sums_right : SM := (exprS (appE 2 (binE subI (plainE (binO addO (ixN 2 (negE (constE (.int 1)))) (plainE (callO F__law_draw (consA (nameE 0) (consA (constE (.int 3)) nilA)))))) (constE (.int 1)))))
def it1__law_sums_right : IM := (range1I (plainE (binO addO (constE (.int 1)) (plainE (callO F__law_draw (consA (nameE 0) (consA (constE (.int 5)) nilA)))))))
def lp1__law_sums_right : SM := forS it1__law_sums_right (.nm 3) bd1__law_sums_right
def bd2__law_sums_right : SM := (ifS (testE (binE (eqG true) (ixE (ixN 4 (nameE 5)) (nameE 7)) (binE max2G (nameE 6) (nameE 8)))) (retS (sharedE (constE (.bl false)))) nextS)
def it2__law_sums_right : IM := (enumAI (nameE 2))
def lp2__law_sums_right : SM := forS it2__law_sums_right (.tp [(.nm 7), (.nm 8)]) bd2__law_sums_right
def bd3__law_sums_right : SM := lp2__law_sums_right
def it3__law_sums_right : IM := (enumAI (nameE 1))
def lp3__law_sums_right : SM := forS it3__law_sums_right (.tp [(.nm 5), (.nm 6)]) bd3__law_sums_right
def b__law_sums_right : SM := (seqS (parS [1, 2] (consL (lstE (consA (binE subI (constE (.int 0)) (plainE (callO F__law_draw (consA (nameE 0) (consA (constE (.int 3)) nilA))))) nilA)) (consL (lstE (consA (binE subI (constE (.int 0)) (plainE (callO F__law_draw (consA (nameE 0) (consA (constE (.int 3)) nilA))))) nilA)) nilL)))
  (seqS lp0__law_sums_right
  (seqS lp1__law_sums_right
  (seqS (thenD (setS 4 (sharedE (plainE (callO F_by_sums (consA (un1E tupG (nameB 1)) (consA (un1E tupG (nameB 2)) nilA)))))) 2)
  (seqS lp3__law_sums_right
  (retS (sharedE (binE (isG false) (plainE (callO F_is_heights (consA (un1E lenA (nameB 1)) (consA (un1E lenA (nameB 2)) (consA (nameE 4) nilA))))) (constE (.bl true))))))))))
def F__law_sums_right : SemF := bodyF 9 b__law_sums_right
theorem sc__law_sums_right : FnScope N__law_sums_right ["hand"] (defScope s__law_sums_right) := ⟨rfl, rfl, rfl, by decide +kernel, rfl, by decide +kernel, by decide +kernel⟩
abbrev s_law : Stmt := top 40
abbrev N_law : List Str := ["script", "hand", "turn"]
def xe0_law : EM := (andE (plainE (callO F__law_plain_right (consA (nameE 1) nilA))) (andE (plainE (callO F__law_held_right (consA (nameE 1) nilA))) (plainE (callO F__law_sums_right (consA (nameE 1) nilA)))))
def cp0_law : OM := lcO (range1I (constE (.int 3))) (.nm 2) yesT xe0_law [2]
def b_law : SM := (seqS (cellS 1 (callO F__law_hand (consA (nameE 0) nilA)))
  (seqS (ifS (testE (binE (eqG true) (plainE (callO F_line_told (consA (constE (.int 2)) (consA (constE (.int 2)) (consA (tupE (consA (tupE (consA (constE (.int 0)) (consA (constE (.int 0)) nilA))) (consA (tupE (consA (constE (.int 1)) (consA (constE (.int 1)) nilA))) nilA))) nilA))))) (tupE (consA (tupE (consA (constE (.int 0)) (consA (constE (.int 0)) nilA))) (consA (tupE (consA (constE (.int 0)) (consA (constE (.int 1)) nilA))) nilA))))) (retS (sharedE (constE (.bl false)))) nextS)
  (retS (sharedE (un1E allG (plainE cp0_law))))))
def F_law : SemF := bodyF 3 b_law
theorem sc_law : FnScope N_law ["script"] (defScope s_law) := ⟨rfl, rfl, rfl, by decide +kernel, rfl, by decide +kernel, by decide +kernel⟩
section
variable {P : Program} {w : World} {K : PySem.W.Frag} {mg : Str → Option Value} {base : Heap} {f : Addr} {fd : FuncData}
theorem ok__law_hand (F : FunD K "_law_hand" "_law_hand" (defArgs s__law_hand) (defBody s__law_hand) (defScope s__law_hand) [] [] f fd) (hm : mg "_law_hand" = some (.ref f)) (m_int : mg "int" = none) (m_abs : mg "abs" = none) (m_len : mg "len" = none) :
    Fd P w K mg base "_law_hand" 1 1 F__law_hand := by
  refine Fd.mk' (ps := ["script"]) F hm rfl (fun _ _ _ _ _ _ us hl => match us, hl with | [_], _ => rfl) (fn_okD F sc__law_hand fun cdv A outer s H E hr => ?_)
  exact (ss_cons (ps_dem 1 (ps_setLcX (i := 1) rfl sc__law_hand.nd rfl rfl rfl (i_seq (px_of (po_cutN 0 rfl q_none (q_some px_int)))) (blkOk_by (N := N__law_hand) (sc := (defScope s__law_hand)) (own := [("cell", 2)]) (by decide +kernel)) (fun _ _ _ _ _ => (g_nm 2 sc__law_hand.nd)) (fun _ _ _ _ _ => t_nil) (fun _ _ _ _ _ => (px_of (po_blt u_abs rfl m_abs bb_abs (pb_of (px_of (po_bty u_int rfl m_int bb_int (pb_name 2)))))))))
  (ss_one (ps_retX (po_lst (pa_consX (px_name 1) (pa_consX px_int (pa_consX px_int (pa_consX (px_of (po_bin br_add px_int (px_of (po_bin br_mul px_int (px_of (po_blt u_lenA rfl m_len bb_len (pb_name 1))))))) (pa_consX px_int pa_nilX)))))))))
theorem ok_is_integer (F : FunD K "is_integer" "is_integer" (defArgs s_is_integer) (defBody s_is_integer) (defScope s_is_integer) [] [] f fd) (hm : mg "is_integer" = some (.ref f)) (m_isinstance : mg "isinstance" = none) (m_int : mg "int" = none) (m_bool : mg "bool" = none) :
    Fd P w K mg base "is_integer" 1 1 F_is_integer := by
  refine Fd.mk' (ps := ["thing"]) F hm rfl (fun _ _ _ _ _ _ us hl => match us, hl with | [_], _ => rfl) (fn_okD F sc_is_integer fun cdv A outer s H E hr => ?_)
  exact (ss_one (ps_retX (po_of (px_and (px_isi rfl m_isinstance (pb_name 0) rfl m_int bb_int bb_isinstance) (px_one (px_not (px_isi rfl m_isinstance (pb_name 0) rfl m_bool bb_bool bb_isinstance)))))))
theorem ok_is_within (F : FunD K "is_within" "is_within" (defArgs s_is_within) (defBody s_is_within) (defScope s_is_within) [] [] f fd) (hm : mg "is_within" = some (.ref f)) (c_is_integer : Fd P w K mg base "is_integer" 1 1 F_is_integer) :
    Fd P w K mg base "is_within" 2 3 F_is_within := by
  refine Fd.mk' (ps := ["thing", "least", "most"]) F hm rfl (fun _ _ _ _ _ _ us hl => match us, hl with | [_, _, _], _ => rfl) (fn_okD F sc_is_within fun cdv A outer s H E hr => ?_)
  exact (ss_one (ps_retX (po_of (px_and (px_of (po_call c_is_integer hr (by decide) rfl (takes_of rfl rfl rfl rfl) (pa_consX (px_name 0) pa_nilX) (len_cons len_nilA))) (px_one (px_chain br_le br_le (px_name 1) (px_name 0) (px_name 2)))))))
theorem ok_check_sides (F : FunD K "check_sides" "check_sides" (defArgs s_check_sides) (defBody s_check_sides) (defScope s_check_sides) [] [] f fd) (hm : mg "check_sides" = some (.ref f)) {t_MOST_SIDE : Tok} (g_MOST_SIDE : mg "MOST_SIDE" = some (.int 8 t_MOST_SIDE)) (c_is_within : Fd P w K mg base "is_within" 2 3 F_is_within) :
    Fd P w K mg base "check_sides" 3 2 F_check_sides := by
  refine Fd.mk' (ps := ["high", "wide"]) F hm rfl (fun _ _ _ _ _ _ us hl => match us, hl with | [_, _], _ => rfl) (fn_okD F sc_check_sides fun cdv A outer s H E hr => ?_)
  exact (ss_one (ps_ifX (pt_w (pw_orX (pt_notX (pt_of (px_of (po_call c_is_within hr (by decide) rfl (takes_of rfl rfl rfl rfl) (pa_consX (px_name 0) (pa_consX px_int (pa_consX (px_globi rfl g_MOST_SIDE) pa_nilX))) (len_cons (len_cons (len_cons len_nilA))))))) (pw_lastO (pt_notX (pt_of (px_of (po_call c_is_within hr (by decide) rfl (takes_of rfl rfl rfl rfl) (pa_consX (px_name 1) (pa_consX px_int (pa_consX (px_globi rfl g_MOST_SIDE) pa_nilX))) (len_cons (len_cons (len_cons len_nilA)))))))))) (ss_one ps_badX) ss_nil))
theorem ok_is_tuple (F : FunD K "is_tuple" "is_tuple" (defArgs s_is_tuple) (defBody s_is_tuple) (defScope s_is_tuple) [] [] f fd) (hm : mg "is_tuple" = some (.ref f)) (m_isinstance : mg "isinstance" = none) (m_tuple : mg "tuple" = none) (m_len : mg "len" = none) :
    Fd P w K mg base "is_tuple" 1 3 F_is_tuple := by
  refine Fd.mk' (ps := ["thing", "least", "most"]) F hm rfl (fun _ _ _ _ _ _ us hl => match us, hl with | [_, _, _], _ => rfl) (fn_okD F sc_is_tuple fun cdv A outer s H E hr => ?_)
  exact (ss_one (ps_retX (po_of (px_and (px_isi rfl m_isinstance (pb_name 0) rfl m_tuple bb_tuple bb_isinstance) (px_one (px_chain br_le br_le (px_name 1) (px_of (po_blt u_lenA rfl m_len bb_len (pb_name 0))) (px_name 2)))))))
theorem ok_is_heights (F : FunD K "is_heights" "is_heights" (defArgs s_is_heights) (defBody s_is_heights) (defScope s_is_heights) [] [] f fd) (hm : mg "is_heights" = some (.ref f)) (m_all : mg "all" = none) (m_range : mg "range" = none) (m_abs : mg "abs" = none) (c_check_sides : Fd P w K mg base "check_sides" 3 2 F_check_sides) (c_is_tuple : Fd P w K mg base "is_tuple" 1 3 F_is_tuple) (c_is_within : Fd P w K mg base "is_within" 2 3 F_is_within) :
    Fd P w K mg base "is_heights" 4 3 F_is_heights := by
  refine Fd.mk' (ps := ["high", "wide", "thing"]) F hm rfl (fun _ _ _ _ _ _ us hl => match us, hl with | [_, _, _], _ => rfl) (fn_okD F sc_is_heights fun cdv A outer s H E hr => ?_)
  exact (ss_cons (ps_exprX (px_of (po_call c_check_sides hr (by decide) rfl (takes_of rfl rfl rfl rfl) (pa_consX (px_name 0) (pa_consX (px_name 1) pa_nilX)) (len_cons (len_cons len_nilA)))))
  (ss_cons (ps_ifX (pt_w (pw_orX (pt_notX (pt_of (px_of (po_call c_is_tuple hr (by decide) rfl (takes_of rfl rfl rfl rfl) (pa_consX (px_name 2) (pa_consX (px_name 0) (pa_consX (px_name 0) pa_nilX))) (len_cons (len_cons (len_cons len_nilA))))))) (pw_lastO (pt_notX (pt_of (px_of (po_blt (u_all rfl) rfl m_all bb_all (pb_of (px_of (po_lc rfl sc_is_heights.nd (i_seq (px_name 2)) (blkOk_by (N := N_is_heights) (sc := (defScope s_is_heights)) (own := [("row", 7)]) (by decide +kernel)) (fun _ _ _ _ _ => (g_nm 7 sc_is_heights.nd)) (fun _ _ _ _ _ => t_nil) (fun _ _ _ _ _ => (px_of (po_call c_is_tuple hr (by decide) rfl takes0 (pa_consX (px_name 7) (pa_consX (px_name 1) (pa_consX (px_name 1) pa_nilX))) (len_cons (len_cons (len_cons len_nilA)))))))))))))))) (ss_one (ps_retX (po_of px_bl))) ss_nil)
  (ss_cons (ps_ifX (pt_notX (pt_of (px_of (po_blt (u_all rfl) rfl m_all bb_all (pb_of (px_of (po_lc2 rfl sc_is_heights.nd (i_seq (px_name 2)) (blkOk_by (N := N_is_heights) (sc := (defScope s_is_heights)) (own := [("row", 7), ("one", 8)]) (by decide +kernel)) (fun _ _ _ _ _ => (g_nm 7 sc_is_heights.nd)) (fun _ _ _ _ _ => t_nil) (fun _ _ _ _ _ => (i_seq (px_name 7))) (fun _ _ _ _ _ => (g_nm 8 sc_is_heights.nd)) (fun _ _ _ _ _ => t_nil) (fun _ _ _ _ _ => (px_of (po_call c_is_within hr (by decide) rfl takes0 (pa_consX (px_name 8) (pa_consX (px_neg px_int) (pa_consX px_int pa_nilX))) (len_cons (len_cons (len_cons len_nilA))))))))))))) (ss_one (ps_retX (po_of px_bl))) ss_nil)
  (ss_cons (ps_forX (passes_of rfl) rfl (i_range1 rfl m_range (px_name 0)) (g_nm 3 sc_is_heights.nd) (ss_one (ps_forX (passes_of rfl) rfl (i_range1 rfl m_range (px_name 1)) (g_nm 4 sc_is_heights.nd) (ss_one (ps_forX (passes_of rfl) rfl (i_seq (px_tup (pa_consX (px_tup (pa_consX px_int (pa_consX px_int pa_nilX))) (pa_consX (px_tup (pa_consX px_int (pa_consX (px_neg px_int) pa_nilX))) (pa_consX (px_tup (pa_consX px_int (pa_consX px_int pa_nilX))) (pa_consX (px_tup (pa_consX px_int (pa_consX px_int pa_nilX))) pa_nilX)))))) (g_tp rfl (gs_cons (g_nm 5 sc_is_heights.nd) (gs_cons (g_nm 6 sc_is_heights.nd) gs_nil))) (ss_one (ps_ifX (pt_w (pw_andX (pt_cmp br_lt (px_of (po_bin br_add (px_name 3) (px_name 5))) (px_name 0)) (pw_andX (pt_chain br_le br_lt px_int (px_of (po_bin br_add (px_name 4) (px_name 6))) (px_name 1)) (pw_lastA (pt_cmp br_gt (px_of (po_blt u_abs rfl m_abs bb_abs (pb_of (px_bin br_sub (px_ix (u1 hr) (px_ixN (u1 hr) 2 rfl (px_name 3)) (px_name 4)) (px_ix (u1 hr) (px_ixN (u1 hr) 2 rfl (px_of (po_bin br_add (px_name 3) (px_name 5)))) (px_of (po_bin br_add (px_name 4) (px_name 6)))))))) px_int))))) (ss_one (ps_retX (po_of px_bl))) ss_nil)))))))
  (ss_one (ps_retX (po_of px_bl)))))))
theorem ok_check_heights (F : FunD K "check_heights" "check_heights" (defArgs s_check_heights) (defBody s_check_heights) (defScope s_check_heights) [] [] f fd) (hm : mg "check_heights" = some (.ref f)) (c_is_heights : Fd P w K mg base "is_heights" 4 3 F_is_heights) :
    Fd P w K mg base "check_heights" 5 3 F_check_heights := by
  refine Fd.mk' (ps := ["high", "wide", "thing"]) F hm rfl (fun _ _ _ _ _ _ us hl => match us, hl with | [_, _, _], _ => rfl) (fn_okD F sc_check_heights fun cdv A outer s H E hr => ?_)
  exact (ss_one (ps_ifX (pt_notX (pt_of (px_of (po_call c_is_heights hr (by decide) rfl (takes_of rfl rfl rfl rfl) (pa_consX (px_name 0) (pa_consX (px_name 1) (pa_consX (px_name 2) pa_nilX))) (len_cons (len_cons (len_cons len_nilA))))))) (ss_one ps_badX) ss_nil))
theorem ok_is_up_down (F : FunD K "is_up_down" "is_up_down" (defArgs s_is_up_down) (defBody s_is_up_down) (defScope s_is_up_down) [] [] f fd) (hm : mg "is_up_down" = some (.ref f)) (m_max : mg "max" = none) (m_min : mg "min" = none) :
    Fd P w K mg base "is_up_down" 1 1 F_is_up_down := by
  refine Fd.mk' (ps := ["heights"]) F hm rfl (fun _ _ _ _ _ _ us hl => match us, hl with | [_], _ => rfl) (fn_okD F sc_is_up_down fun cdv A outer s H E hr => ?_)
  exact (ss_one (ps_retX (po_of (px_chain br_le br_le (px_of (po_blt (u_maxA rfl (u65 hr)) rfl m_max bb_max (pb_of (px_ixN (u1 hr) 0 rfl px_int)))) px_int (px_of (po_blt (u_minA rfl (u65 hr)) rfl m_min bb_min (pb_of (px_ixN (u1 hr) 0 rfl (px_neg px_int)))))))))
theorem ok_around (F : FunD K "around" "around" (defArgs s_around) (defBody s_around) (defScope s_around) [] [] f fd) (hm : mg "around" = some (.ref f)) :
    Fd P w K mg base "around" 1 3 F_around := by
  refine Fd.mk' (ps := ["high", "wide", "cell"]) F hm rfl (fun _ _ _ _ _ _ us hl => match us, hl with | [_, _, _], _ => rfl) (fn_okD F sc_around fun cdv A outer s H E hr => ?_)
  exact (ss_cons (ps_dem 3 (ps_setLc2X (i := 3) rfl sc_around.nd rfl rfl rfl (i_seq (px_tup (pa_consX (px_neg px_int) (pa_consX px_int (pa_consX px_int pa_nilX))))) (blkOk_by (N := N_around) (sc := (defScope s_around)) (own := [("x", 4), ("y", 5)]) (by decide +kernel)) (fun _ _ _ _ _ => (g_nm 4 sc_around.nd)) (fun _ _ _ _ _ => t_nil) (fun _ _ _ _ _ => (i_seq (px_tup (pa_consX (px_neg px_int) (pa_consX px_int (pa_consX px_int pa_nilX)))))) (fun _ _ _ _ _ => (g_nm 5 sc_around.nd)) (fun _ _ _ _ _ => (t_one (pt_cmp (br_ne (u64 hr)) (px_tup (pa_consX (px_name 4) (pa_consX (px_name 5) pa_nilX))) (px_tup (pa_consX px_int (pa_consX px_int pa_nilX)))))) (fun _ _ _ _ _ => (px_tup (pa_consX (px_of (po_bin br_add (px_ixN (u1 hr) 2 rfl px_int) (px_name 4))) (pa_consX (px_of (po_bin br_add (px_ixN (u1 hr) 2 rfl px_int) (px_name 5))) pa_nilX))))))
  (ss_one (ps_retX (po_lc rfl sc_around.nd (i_seq (px_name 3)) (blkOk_by (N := N_around) (sc := (defScope s_around)) (own := [("one", 6)]) (by decide +kernel)) (fun _ _ _ _ _ => (g_nm 6 sc_around.nd)) (fun _ _ _ _ _ => (t_one (pt_w (pw_andX (pt_chain br_le br_lt px_int (px_ixN (u1 hr) 6 rfl px_int) (px_name 0)) (pw_lastA (pt_chain br_le br_lt px_int (px_ixN (u1 hr) 6 rfl px_int) (px_name 1))))))) (fun _ _ _ _ _ => (px_name 6))))))
theorem ok_line_of (F : FunD K "line_of" "line_of" (defArgs s_line_of) (defBody s_line_of) (defScope s_line_of) [] [] f fd) (hm : mg "line_of" = some (.ref f)) (m_len : mg "len" = none) (m_range : mg "range" = none) (c_around : Fd P w K mg base "around" 1 3 F_around) :
    Fd P w K mg base "line_of" 2 1 F_line_of := by
  refine Fd.mk' (ps := ["heights"]) F hm rfl (fun _ _ _ _ _ _ us hl => match us, hl with | [_], _ => rfl) (fn_okD F sc_line_of fun cdv A outer s H E hr => ?_)
  exact (ss_cons (ps_par2 rfl sc_line_of.nd (pl_cons (po_of (px_of (po_blt u_lenA rfl m_len bb_len (pb_name 0)))) (pl_cons (po_of (px_of (po_blt u_lenA rfl m_len bb_len (pb_of (px_ixN (u1 hr) 0 rfl px_int))))) pl_nil)))
  (ss_cons (ps_par3X rfl sc_line_of.nd (pl_cons po_newT (pl_cons (po_lst pa_nilX) (pl_cons (po_of px_int) pl_nil))))
  (ss_cons (ps_forX (passes_of rfl) rfl (i_range1 rfl m_range (px_name 1)) (g_nm 6 sc_line_of.nd) (ss_one (ps_ifX (pt_cmp (br_eq (u64 hr)) (px_ix (u1 hr) (px_ixN (u1 hr) 0 rfl (px_name 6)) px_int) px_int) (ss_cons (ps_setIx (u1 hr) 3 rfl px_non (px_tup (pa_consX (px_name 6) (pa_consX px_int pa_nilX))))
  (ss_one (ps_exprX (px_app 4 rfl (px_tup (pa_consX (px_name 6) (pa_consX px_int pa_nilX))))))) ss_nil)))
  (ss_cons (ps_whileX fuel (passes_of rfl) (pt_cmp br_lt (px_name 5) (px_of (po_blt u_lenA rfl m_len bb_len (pb_name 4)))) (ss_cons (ps_setX 7 sc_line_of.nd (po_of (px_ixN (u1 hr) 4 rfl (px_name 5))))
  (ss_cons (ps_augX 5 sc_line_of.nd ip_add px_int)
  (ss_cons (ps_ifX (pt_cmp (br_eq (u64 hr)) (px_ixN (u1 hr) 7 rfl px_int) (px_bin br_sub (px_name 2) px_int)) (ss_cons (ps_setX 8 sc_line_of.nd (po_lst pa_nilX))
  (ss_cons (ps_whileX fuel (passes_of rfl) (pt_cmp br_isnot (px_name 7) px_non) (ss_cons (ps_exprX (px_app 8 rfl (px_name 7)))
  (ss_one (ps_setX 7 sc_line_of.nd (po_of (px_ixN (u1 hr) 3 rfl (px_name 7)))))))
  (ss_one (ps_retX (po_of (px_of (po_revA (pb_name 8)))))))) ss_nil)
  (ss_one (ps_forX (passes_of rfl) rfl (i_seq (px_of (po_call c_around hr (by decide) rfl (takes_of rfl rfl rfl rfl) (pa_consX (px_name 1) (pa_consX (px_name 2) (pa_consX (px_name 7) pa_nilX))) (len_cons (len_cons (len_cons len_nilA)))))) (g_nm 9 sc_line_of.nd) (ss_one (ps_ifX (pt_w (pw_andX (pt_cmpB (bb_notin (u65 hr)) (px_name 9) (pb_name 3)) (pw_lastA (pt_cmp (br_eq (u64 hr)) (px_ix (u1 hr) (px_ixN (u1 hr) 0 rfl (px_ixN (u1 hr) 9 rfl px_int)) (px_ixN (u1 hr) 9 rfl px_int)) px_int)))) (ss_cons (ps_setIx (u1 hr) 3 rfl (px_name 7) (px_name 9))
  (ss_one (ps_exprX (px_app 4 rfl (px_name 9))))) ss_nil))))))))
  (ss_one (ps_retX (po_of px_non)))))))
theorem ok_line_told (F : FunD K "line_told" "line_told" (defArgs s_line_told) (defBody s_line_told) (defScope s_line_told) [] [] f fd) (hm : mg "line_told" = some (.ref f)) (m_tuple : mg "tuple" = none) (c_check_heights : Fd P w K mg base "check_heights" 5 3 F_check_heights) (c_is_up_down : Fd P w K mg base "is_up_down" 1 1 F_is_up_down) (c_line_of : Fd P w K mg base "line_of" 2 1 F_line_of) :
    Fd P w K mg base "line_told" 6 3 F_line_told := by
  refine Fd.mk' (ps := ["high", "wide", "heights"]) F hm rfl (fun _ _ _ _ _ _ us hl => match us, hl with | [_, _, _], _ => rfl) (fn_okD F sc_line_told fun cdv A outer s H E hr => ?_)
  exact (ss_cons (ps_exprX (px_of (po_call c_check_heights hr (by decide) rfl (takes_of rfl rfl rfl rfl) (pa_consX (px_name 0) (pa_consX (px_name 1) (pa_consX (px_name 2) pa_nilX))) (len_cons (len_cons (len_cons len_nilA))))))
  (ss_cons (ps_ifX (pt_notX (pt_of (px_of (po_call c_is_up_down hr (by decide) rfl (takes_of rfl rfl rfl rfl) (pa_consX (px_name 2) pa_nilX) (len_cons len_nilA))))) (ss_one ps_badX) ss_nil)
  (ss_one (ps_retX (po_of (px_of (po_bty u_tup rfl m_tuple bb_tuple (pb_of (px_of (po_call c_line_of hr (by decide) rfl (takes_of rfl rfl rfl rfl) (pa_consX (px_name 2) pa_nilX) (len_cons len_nilA)))))))))))
theorem ok__law_draw (F : FunD K "_law_draw" "_law_draw" (defArgs s__law_draw) (defBody s__law_draw) (defScope s__law_draw) [] [] f fd) (hm : mg "_law_draw" = some (.ref f)) (m_len : mg "len" = none) (m_int : mg "int" = none) :
    Fd P w K mg base "_law_draw" 1 2 F__law_draw := by
  refine Fd.mk' (ps := ["hand", "many"]) F hm rfl (fun _ _ _ _ _ _ us hl => match us, hl with | [_, _], _ => rfl) (fn_okD F sc__law_draw fun cdv A outer s H E hr => ?_)
  exact (ss_cons (ps_ifX (pt_w (pw_andX (pt_cmp (br_eq (u64 hr)) (px_ixN (u1 hr) 0 rfl px_int) px_int) (pw_lastA (pt_cmp br_lt (px_ixN (u1 hr) 0 rfl px_int) (px_of (po_blt u_lenA rfl m_len bb_len (pb_of (px_ixN (u1 hr) 0 rfl px_int)))))))) (ss_cons (ps_setX 2 sc__law_draw.nd (po_of (px_ix (u1 hr) (px_ixN (u1 hr) 0 rfl px_int) (px_ixN (u1 hr) 0 rfl px_int))))
  (ss_cons (ps_setIx (u1 hr) 0 rfl (px_of (po_bin br_add (px_ixN (u1 hr) 0 rfl px_int) px_int)) px_int)
  (ss_cons (ps_setIx (u1 hr) 0 rfl (px_bin br_mod (px_of (po_bty u_int rfl m_int bb_int (pb_of (px_of (po_bin br_add (px_of (po_bin br_add (px_of (po_bin br_mul (px_ixN (u1 hr) 0 rfl px_int) px_int)) (px_of (po_bin br_mul (px_name 2) px_int)))) px_int))))) px_int) px_int)
  (ss_one (ps_ifX (pt_cmp br_ge (px_name 2) (px_bin br_pow px_int px_int)) (ss_one (ps_setIx (u1 hr) 0 rfl (px_name 2) px_int)) ss_nil))))) ss_nil)
  (ss_cons (ps_ifX (pt_cmp br_gt (px_ixN (u1 hr) 0 rfl px_int) px_int) (ss_cons (ps_setX 3 sc__law_draw.nd (po_of (px_bin br_mod (px_of (po_bty u_int rfl m_int bb_int (pb_of (px_ixN (u1 hr) 0 rfl px_int)))) (px_name 1))))
  (ss_cons (ps_setIx (u1 hr) 0 rfl (px_bin br_fdiv (px_ixN (u1 hr) 0 rfl px_int) (px_name 1)) px_int)
  (ss_one (ps_retX (po_of (px_name 3)))))) ss_nil)
  (ss_cons (ps_setIx (u1 hr) 0 rfl (px_of (po_bin br_add (px_ixN (u1 hr) 0 rfl px_int) px_int)) px_int)
  (ss_cons (ps_setX 4 sc__law_draw.nd (po_of (px_bin br_mod (px_of (po_bty u_int rfl m_int bb_int (pb_of (px_of (po_bin br_mul (px_of (po_bty u_int rfl m_int bb_int (pb_of (px_of (po_bin br_add (px_ixN (u1 hr) 0 rfl px_int) (px_of (po_bin br_mul px_int (px_ixN (u1 hr) 0 rfl px_int)))))))) px_int))))) px_int)))
  (ss_cons (ps_setX 4 sc__law_draw.nd (po_of (px_bin br_mod (px_of (po_bty u_int rfl m_int bb_int (pb_of (px_of (po_bin br_mul (px_name 4) (px_of (po_bin br_add (px_bin br_fdiv (px_name 4) px_int) px_int))))))) px_int)))
  (ss_cons (ps_setX 4 sc__law_draw.nd (po_of (px_bin br_mod (px_of (po_bty u_int rfl m_int bb_int (pb_of (px_of (po_bin br_mul (px_name 4) (px_of (po_bin br_add (px_bin br_fdiv (px_name 4) px_int) px_int))))))) px_int)))
  (ss_one (ps_retX (po_of (px_bin br_mod (px_of (po_bty u_int rfl m_int bb_int (pb_of (px_bin br_fdiv (px_name 4) px_int)))) (px_name 1)))))))))))
theorem ok_check_number (F : FunD K "check_number" "check_number" (defArgs s_check_number) (defBody s_check_number) (defScope s_check_number) [] [] f fd) (hm : mg "check_number" = some (.ref f)) {t_MOST_NUMBER : Tok} (g_MOST_NUMBER : mg "MOST_NUMBER" = some (.int 1000000000000000000000000000000000000000000000000000000000000 t_MOST_NUMBER)) (c_is_within : Fd P w K mg base "is_within" 2 3 F_is_within) :
    Fd P w K mg base "check_number" 3 1 F_check_number := by
  refine Fd.mk' (ps := ["number"]) F hm rfl (fun _ _ _ _ _ _ us hl => match us, hl with | [_], _ => rfl) (fn_okD F sc_check_number fun cdv A outer s H E hr => ?_)
  exact (ss_one (ps_ifX (pt_notX (pt_of (px_of (po_call c_is_within hr (by decide) rfl (takes_of rfl rfl rfl rfl) (pa_consX (px_name 0) (pa_consX px_int (pa_consX (px_globi rfl g_MOST_NUMBER) pa_nilX))) (len_cons (len_cons (len_cons len_nilA))))))) (ss_one ps_badX) ss_nil))
theorem ok_digits (F : FunD K "digits" "digits" (defArgs s_digits) (defBody s_digits) (defScope s_digits) [] [] f fd) (hm : mg "digits" = some (.ref f)) (m_range : mg "range" = none) :
    Fd P w K mg base "digits" 1 3 F_digits := by
  refine Fd.mk' (ps := ["number", "many", "base"]) F hm rfl (fun _ _ _ _ _ _ us hl => match us, hl with | [_, _, _], _ => rfl) (fn_okD F sc_digits fun cdv A outer s H E hr => ?_)
  exact (ss_cons (ps_setX 3 sc_digits.nd (po_lst pa_nilX))
  (ss_cons (ps_forX (passes_of rfl) rfl (i_range1 rfl m_range (px_name 1)) (g_nm 4 sc_digits.nd) (ss_cons (ps_exprX (px_app 3 rfl (px_bin br_mod (px_name 0) (px_name 2))))
  (ss_one (ps_setX 0 sc_digits.nd (po_of (px_bin br_fdiv (px_name 0) (px_name 2)))))))
  (ss_one (ps_retX (po_of (px_name 3))))))
theorem ok_drawn_heights (F : FunD K "drawn_heights" "drawn_heights" (defArgs s_drawn_heights) (defBody s_drawn_heights) (defScope s_drawn_heights) [] [] f fd) (hm : mg "drawn_heights" = some (.ref f)) (m_max : mg "max" = none) (m_tuple : mg "tuple" = none) (c_check_number : Fd P w K mg base "check_number" 3 1 F_check_number) (c_is_within : Fd P w K mg base "is_within" 2 3 F_is_within) (c_digits : Fd P w K mg base "digits" 1 3 F_digits) :
    Fd P w K mg base "drawn_heights" 4 3 F_drawn_heights := by
  refine Fd.mk' (ps := ["high", "wide", "number"]) F hm rfl (fun _ _ _ _ _ _ us hl => match us, hl with | [_, _, _], _ => rfl) (fn_okD F sc_drawn_heights fun cdv A outer s H E hr => ?_)
  exact (ss_cons (ps_exprX (px_of (po_call c_check_number hr (by decide) rfl (takes_of rfl rfl rfl rfl) (pa_consX (px_name 2) pa_nilX) (len_cons len_nilA))))
  (ss_cons (ps_ifX (pt_w (pw_orX (pt_notX (pt_of (px_of (po_call c_is_within hr (by decide) rfl (takes_of rfl rfl rfl rfl) (pa_consX (px_name 0) (pa_consX px_int (pa_consX px_int pa_nilX))) (len_cons (len_cons (len_cons len_nilA))))))) (pw_lastO (pt_notX (pt_of (px_of (po_call c_is_within hr (by decide) rfl (takes_of rfl rfl rfl rfl) (pa_consX (px_name 1) (pa_consX px_int (pa_consX px_int pa_nilX))) (len_cons (len_cons (len_cons len_nilA)))))))))) (ss_one ps_badX) ss_nil)
  (ss_cons (ps_dem 3 (ps_setLcX (i := 3) rfl sc_drawn_heights.nd rfl rfl rfl (i_seq (px_of (po_call c_digits hr (by decide) rfl (takes_of rfl rfl rfl rfl) (pa_consX (px_name 2) (pa_consX (px_bin br_sub (px_of (po_bin br_add (px_name 0) (px_name 1))) px_int) (pa_consX px_int pa_nilX))) (len_cons (len_cons (len_cons len_nilA)))))) (blkOk_by (N := N_drawn_heights) (sc := (defScope s_drawn_heights)) (own := [("one", 6)]) (by decide +kernel)) (fun _ _ _ _ _ => (g_nm 6 sc_drawn_heights.nd)) (fun _ _ _ _ _ => t_nil) (fun _ _ _ _ _ => (px_bin br_sub (px_name 6) px_int))))
  (ss_cons (ps_parT rfl (pl_cons (po_lst (pa_consX px_int pa_nilX)) (pl_cons (po_lst (pa_consX px_int pa_nilX)) pl_nil)) (go_cons 4 sc_drawn_heights.nd (go_cons 5 sc_drawn_heights.nd go_nil)))
  (ss_cons (ps_forX (passes_of rfl) rfl (i_seq (px_of (po_cutN 3 rfl q_none (q_some (px_bin br_sub (px_name 0) px_int))))) (g_nm 6 sc_drawn_heights.nd) (ss_one (ps_exprX (px_app 4 rfl (px_of (po_bin br_add (px_ixN (u1 hr) 4 rfl (px_neg px_int)) (px_name 6)))))))
  (ss_cons (ps_dem 5 (ps_forX (passes_of rfl) rfl (i_seq (px_of (po_cutN 3 rfl (q_some (px_bin br_sub (px_name 0) px_int)) q_none))) (g_nm 6 sc_drawn_heights.nd) (ss_one (ps_exprX (px_app 5 rfl (px_of (po_bin br_add (px_ixN (u1 hr) 5 rfl (px_neg px_int)) (px_name 6))))))))
  (ss_one (ps_retX (po_of (px_of (po_bty u_tup rfl m_tuple bb_tuple (pb_of (px_of (po_lc rfl sc_drawn_heights.nd (i_seq (px_name 4)) (blkOk_by (N := N_drawn_heights) (sc := (defScope s_drawn_heights)) (scope := sco_drawn_heights_0) (own := [("one", 6)]) (by decide +kernel)) (fun _ _ _ _ _ => (g_nm 6 sc_drawn_heights.nd)) (fun _ _ _ _ _ => t_nil) (fun _ _ _ _ _ => (px_of (po_bty u_tup rfl m_tuple bb_tuple (pb_of (px_of (po_lc rfl sc_drawn_heights.nd (i_seq (px_name 5)) (blkOk_by (N := N_drawn_heights) (sc := (relS sco_drawn_heights_0 (defScope s_drawn_heights))) (own := [("other", 7)]) (by decide +kernel)) (fun _ _ _ _ _ => (g_nm 7 sc_drawn_heights.nd)) (fun _ _ _ _ _ => t_nil) (fun _ _ _ _ _ => (px_max2 rfl rfl m_max bb_max (px_name 6) (px_name 7)))))))))))))))))))))))
theorem ok_noughts (F : FunD K "noughts" "noughts" (defArgs s_noughts) (defBody s_noughts) (defScope s_noughts) [] [] f fd) (hm : mg "noughts" = some (.ref f)) (m_range : mg "range" = none) (c_check_heights : Fd P w K mg base "check_heights" 5 3 F_check_heights) :
    Fd P w K mg base "noughts" 6 3 F_noughts := by
  refine Fd.mk' (ps := ["high", "wide", "heights"]) F hm rfl (fun _ _ _ _ _ _ us hl => match us, hl with | [_, _, _], _ => rfl) (fn_okD F sc_noughts fun cdv A outer s H E hr => ?_)
  exact (ss_cons (ps_exprX (px_of (po_call c_check_heights hr (by decide) rfl (takes_of rfl rfl rfl rfl) (pa_consX (px_name 0) (pa_consX (px_name 1) (pa_consX (px_name 2) pa_nilX))) (len_cons (len_cons (len_cons len_nilA))))))
  (ss_one (ps_retX (po_lc2 rfl sc_noughts.nd (i_range1 rfl m_range (px_name 0)) (blkOk_by (N := N_noughts) (sc := (defScope s_noughts)) (own := [("a", 3), ("b", 4)]) (by decide +kernel)) (fun _ _ _ _ _ => (g_nm 3 sc_noughts.nd)) (fun _ _ _ _ _ => t_nil) (fun _ _ _ _ _ => (i_range1 rfl m_range (px_name 1))) (fun _ _ _ _ _ => (g_nm 4 sc_noughts.nd)) (fun _ _ _ _ _ => (t_one (pt_cmp (br_eq (u64 hr)) (px_ix (u1 hr) (px_ixN (u1 hr) 2 rfl (px_name 3)) (px_name 4)) px_int))) (fun _ _ _ _ _ => (px_tup (pa_consX (px_name 3) (pa_consX (px_name 4) pa_nilX))))))))
theorem ok_is_left_right (F : FunD K "is_left_right" "is_left_right" (defArgs s_is_left_right) (defBody s_is_left_right) (defScope s_is_left_right) [] [] f fd) (hm : mg "is_left_right" = some (.ref f)) (m_max : mg "max" = none) (m_min : mg "min" = none) :
    Fd P w K mg base "is_left_right" 1 1 F_is_left_right := by
  refine Fd.mk' (ps := ["heights"]) F hm rfl (fun _ _ _ _ _ _ us hl => match us, hl with | [_], _ => rfl) (fn_okD F sc_is_left_right fun cdv A outer s H E hr => ?_)
  exact (ss_one (ps_retX (po_of (px_chain br_le br_le (px_of (po_blt (u_maxA rfl (u65 hr)) rfl m_max bb_max (pb_of (px_of (po_lc rfl sc_is_left_right.nd (i_seq (px_name 0)) (blkOk_by (N := N_is_left_right) (sc := (defScope s_is_left_right)) (own := [("row", 1)]) (by decide +kernel)) (fun _ _ _ _ _ => (g_nm 1 sc_is_left_right.nd)) (fun _ _ _ _ _ => t_nil) (fun _ _ _ _ _ => (px_ixN (u1 hr) 1 rfl px_int))))))) px_int (px_of (po_blt (u_minA rfl (u65 hr)) rfl m_min bb_min (pb_of (px_of (po_lc rfl sc_is_left_right.nd (i_seq (px_name 0)) (blkOk_by (N := N_is_left_right) (sc := (defScope s_is_left_right)) (own := [("row", 1)]) (by decide +kernel)) (fun _ _ _ _ _ => (g_nm 1 sc_is_left_right.nd)) (fun _ _ _ _ _ => t_nil) (fun _ _ _ _ _ => (px_ixN (u1 hr) 1 rfl (px_neg px_int))))))))))))
theorem ok_turned (F : FunD K "turned" "turned" (defArgs s_turned) (defBody s_turned) (defScope s_turned) [] [] f fd) (hm : mg "turned" = some (.ref f)) (m_range : mg "range" = none) (m_tuple : mg "tuple" = none) (c_check_heights : Fd P w K mg base "check_heights" 5 3 F_check_heights) :
    Fd P w K mg base "turned" 6 3 F_turned := by
  refine Fd.mk' (ps := ["high", "wide", "heights"]) F hm rfl (fun _ _ _ _ _ _ us hl => match us, hl with | [_, _, _], _ => rfl) (fn_okD F sc_turned fun cdv A outer s H E hr => ?_)
  exact (ss_cons (ps_exprX (px_of (po_call c_check_heights hr (by decide) rfl (takes_of rfl rfl rfl rfl) (pa_consX (px_name 0) (pa_consX (px_name 1) (pa_consX (px_name 2) pa_nilX))) (len_cons (len_cons (len_cons len_nilA))))))
  (ss_one (ps_retX (po_of (px_of (po_bty u_tup rfl m_tuple bb_tuple (pb_of (px_of (po_lc rfl sc_turned.nd (i_range1 rfl m_range (px_name 1)) (blkOk_by (N := N_turned) (sc := (defScope s_turned)) (scope := sco_turned_0) (own := [("at", 3)]) (by decide +kernel)) (fun _ _ _ _ _ => (g_nm 3 sc_turned.nd)) (fun _ _ _ _ _ => t_nil) (fun _ _ _ _ _ => (px_of (po_bty u_tup rfl m_tuple bb_tuple (pb_of (px_of (po_lc rfl sc_turned.nd (i_seq (px_name 2)) (blkOk_by (N := N_turned) (sc := (relS sco_turned_0 (defScope s_turned))) (own := [("row", 4)]) (by decide +kernel)) (fun _ _ _ _ _ => (g_nm 4 sc_turned.nd)) (fun _ _ _ _ _ => t_nil) (fun _ _ _ _ _ => (px_ixN (u1 hr) 4 rfl (px_name 3))))))))))))))))))
theorem ok__law_plain_right (F : FunD K "_law_plain_right" "_law_plain_right" (defArgs s__law_plain_right) (defBody s__law_plain_right) (defScope s__law_plain_right) [] [] f fd) (hm : mg "_law_plain_right" = some (.ref f)) (m_enumerate : mg "enumerate" = none) (m_max : mg "max" = none) (m_min : mg "min" = none) (m_repr : mg "repr" = none) (c__law_draw : Fd P w K mg base "_law_draw" 1 2 F__law_draw) (c_drawn_heights : Fd P w K mg base "drawn_heights" 4 3 F_drawn_heights) (c_is_heights : Fd P w K mg base "is_heights" 4 3 F_is_heights) (c_noughts : Fd P w K mg base "noughts" 6 3 F_noughts) (c_is_up_down : Fd P w K mg base "is_up_down" 1 1 F_is_up_down) (c_is_left_right : Fd P w K mg base "is_left_right" 1 1 F_is_left_right) (c_turned : Fd P w K mg base "turned" 6 3 F_turned) :
    Fd P w K mg base "_law_plain_right" 7 1 F__law_plain_right := by
  refine Fd.mk' (ps := ["hand"]) F hm rfl (fun _ _ _ _ _ _ us hl => match us, hl with | [_], _ => rfl) (fn_okD F sc__law_plain_right fun cdv A outer s H E hr => ?_)
  exact (ss_cons (ps_par2 rfl sc__law_plain_right.nd (pl_cons (po_bin br_add px_int (px_of (po_call c__law_draw hr (by decide) rfl (takes_of rfl rfl rfl rfl) (pa_consX (px_name 0) (pa_consX px_int pa_nilX)) (len_cons (len_cons len_nilA))))) (pl_cons (po_bin br_add px_int (px_of (po_call c__law_draw hr (by decide) rfl (takes_of rfl rfl rfl rfl) (pa_consX (px_name 0) (pa_consX px_int pa_nilX)) (len_cons (len_cons len_nilA))))) pl_nil)))
  (ss_cons (ps_setX 3 sc__law_plain_right.nd (po_of (px_of (po_call c_drawn_heights hr (by decide) rfl (takes_of rfl rfl rfl rfl) (pa_consX (px_name 1) (pa_consX (px_name 2) (pa_consX (px_of (po_call c__law_draw hr (by decide) rfl (takes_of rfl rfl rfl rfl) (pa_consX (px_name 0) (pa_consX (px_bin br_pow px_int px_int) pa_nilX)) (len_cons (len_cons len_nilA)))) pa_nilX))) (len_cons (len_cons (len_cons len_nilA)))))))
  (ss_cons (ps_ifX (pt_cmp br_isnot (px_of (po_call c_is_heights hr (by decide) rfl (takes_of rfl rfl rfl rfl) (pa_consX (px_name 1) (pa_consX (px_name 2) (pa_consX (px_name 3) pa_nilX))) (len_cons (len_cons (len_cons len_nilA))))) px_bl) (ss_one (ps_retX (po_of px_bl))) ss_nil)
  (ss_cons (ps_setX 4 sc__law_plain_right.nd (po_lst pa_nilX))
  (ss_cons (ps_forX (passes_of rfl) rfl (i_enumA rfl m_enumerate (px_name 3)) (g_tp rfl (gs_cons (g_nm 5 sc__law_plain_right.nd) (gs_cons (g_nm 6 sc__law_plain_right.nd) gs_nil))) (ss_one (ps_exprX (px_ext 4 rfl (px_of (po_lc rfl sc__law_plain_right.nd (i_enumA rfl m_enumerate (px_name 6)) (blkOk_by (N := N__law_plain_right) (sc := (defScope s__law_plain_right)) (own := [("b", 8), ("one", 9)]) (by decide +kernel)) (fun _ _ _ _ _ => (g_tp rfl (gs_cons (g_nm 8 sc__law_plain_right.nd) (gs_cons (g_nm 9 sc__law_plain_right.nd) gs_nil)))) (fun _ _ _ _ _ => (t_one (pt_cmp (br_eq (u64 hr)) (px_name 9) px_int))) (fun _ _ _ _ _ => (px_tup (pa_consX (px_name 5) (pa_consX (px_name 8) pa_nilX))))))))))
  (ss_cons (ps_ifX (pt_cmp (br_ne (u64 hr)) (px_of (po_call c_noughts hr (by decide) rfl (takes_of rfl rfl rfl rfl) (pa_consX (px_name 1) (pa_consX (px_name 2) (pa_consX (px_name 3) pa_nilX))) (len_cons (len_cons (len_cons len_nilA))))) (px_name 4)) (ss_one (ps_retX (po_of px_bl))) ss_nil)
  (ss_cons (ps_setX 7 sc__law_plain_right.nd (po_of (px_and (px_cmp br_le (px_of (po_blt (u_maxA rfl (u65 hr)) rfl m_max bb_max (pb_of (px_ixN (u1 hr) 3 rfl px_int)))) px_int) (px_one (px_cmp br_ge (px_of (po_blt (u_minA rfl (u65 hr)) rfl m_min bb_min (pb_of (px_ixN (u1 hr) 3 rfl (px_neg px_int))))) px_int)))))
  (ss_cons (ps_ifX (pt_cmp (br_ne (u64 hr)) (px_of (po_blt u_repr rfl m_repr bb_repr (pb_of (px_of (po_call c_is_up_down hr (by decide) rfl (takes_of rfl rfl rfl rfl) (pa_consX (px_name 3) pa_nilX) (len_cons len_nilA)))))) (px_of (po_blt u_repr rfl m_repr bb_repr (pb_name 7)))) (ss_one (ps_retX (po_of px_bl))) ss_nil)
  (ss_one (ps_retX (po_of (px_cmp (br_eq (u64 hr)) (px_of (po_blt u_repr rfl m_repr bb_repr (pb_of (px_of (po_call c_is_left_right hr (by decide) rfl (takes_of rfl rfl rfl rfl) (pa_consX (px_of (po_call c_turned hr (by decide) rfl (takes_of rfl rfl rfl rfl) (pa_consX (px_name 1) (pa_consX (px_name 2) (pa_consX (px_name 3) pa_nilX))) (len_cons (len_cons (len_cons len_nilA))))) pa_nilX) (len_cons len_nilA)))))) (px_of (po_blt u_repr rfl m_repr bb_repr (pb_name 7)))))))))))))))
theorem ok__law_walk (F : FunD K "_law_walk" "_law_walk" (defArgs s__law_walk) (defBody s__law_walk) (defScope s__law_walk) [] [] f fd) (hm : mg "_law_walk" = some (.ref f)) (m_range : mg "range" = none) (c__law_draw : Fd P w K mg base "_law_draw" 1 2 F__law_draw) :
    Fd P w K mg base "_law_walk" 2 2 F__law_walk := by
  refine Fd.mk' (ps := ["hand", "many"]) F hm rfl (fun _ _ _ _ _ _ us hl => match us, hl with | [_, _], _ => rfl) (fn_okD F sc__law_walk fun cdv A outer s H E hr => ?_)
  exact (ss_cons (ps_setX 2 sc__law_walk.nd (po_lst (pa_consX (px_bin br_sub (px_of (po_call c__law_draw hr (by decide) rfl (takes_of rfl rfl rfl rfl) (pa_consX (px_name 0) (pa_consX px_int pa_nilX)) (len_cons (len_cons len_nilA)))) px_int) pa_nilX)))
  (ss_cons (ps_forX (passes_of rfl) rfl (i_range1 rfl m_range (px_bin br_sub (px_name 1) px_int)) (g_nm 3 sc__law_walk.nd) (ss_one (ps_exprX (px_app 2 rfl (px_bin br_sub (px_of (po_bin br_add (px_ixN (u1 hr) 2 rfl (px_neg px_int)) (px_of (po_call c__law_draw hr (by decide) rfl (takes_of rfl rfl rfl rfl) (pa_consX (px_name 0) (pa_consX px_int pa_nilX)) (len_cons (len_cons len_nilA)))))) px_int)))))
  (ss_one (ps_retX (po_of (px_name 2))))))
theorem ok__law_steep (F : FunD K "_law_steep" "_law_steep" (defArgs s__law_steep) (defBody s__law_steep) (defScope s__law_steep) [] [] f fd) (hm : mg "_law_steep" = some (.ref f)) (m_max : mg "max" = none) (m_range : mg "range" = none) (m_min : mg "min" = none) (m_tuple : mg "tuple" = none) (c__law_walk : Fd P w K mg base "_law_walk" 2 2 F__law_walk) (c__law_draw : Fd P w K mg base "_law_draw" 1 2 F__law_draw) :
    Fd P w K mg base "_law_steep" 3 3 F__law_steep := by
  refine Fd.mk' (ps := ["hand", "high", "wide"]) F hm rfl (fun _ _ _ _ _ _ us hl => match us, hl with | [_, _, _], _ => rfl) (fn_okD F sc__law_steep fun cdv A outer s H E hr => ?_)
  exact (ss_cons (ps_parT rfl (pl_cons (po_call c__law_walk hr (by decide) rfl (takes_of rfl rfl rfl rfl) (pa_consX (px_name 0) (pa_consX (px_name 1) pa_nilX)) (len_cons (len_cons len_nilA))) (pl_cons (po_call c__law_walk hr (by decide) rfl (takes_of rfl rfl rfl rfl) (pa_consX (px_name 0) (pa_consX (px_name 2) pa_nilX)) (len_cons (len_cons len_nilA))) (pl_cons (po_call c__law_draw hr (by decide) rfl (takes_of rfl rfl rfl rfl) (pa_consX (px_name 0) (pa_consX (px_name 1) pa_nilX)) (len_cons (len_cons len_nilA))) pl_nil))) (go_cons 3 sc__law_steep.nd (go_cons 4 sc__law_steep.nd (go_cons 5 sc__law_steep.nd go_nil))))
  (ss_cons (ps_setX 6 sc__law_steep.nd (po_of (px_max2 rfl rfl m_max bb_max px_int (px_bin br_sub px_int (px_ixN (u1 hr) 3 rfl (px_neg px_int))))))
  (ss_cons (ps_setX 7 sc__law_steep.nd (po_lst pa_nilX))
  (ss_cons (ps_forX (passes_of rfl) rfl (i_range1 rfl m_range (px_name 1)) (g_nm 8 sc__law_steep.nd) (ss_one (ps_exprX (px_app 7 rfl (px_of (po_bty u_tup rfl m_tuple bb_tuple (pb_of (px_of (po_lc rfl sc__law_steep.nd (i_range1 rfl m_range (px_name 2)) (blkOk_by (N := N__law_steep) (sc := (defScope s__law_steep)) (own := [("b", 9)]) (by decide +kernel)) (fun _ _ _ _ _ => (g_nm 9 sc__law_steep.nd)) (fun _ _ _ _ _ => t_nil) (fun _ _ _ _ _ => (px_min2 rfl rfl m_min bb_min (px_max2 rfl rfl m_max bb_max (px_of (po_bin br_add (px_ixN (u1 hr) 3 rfl (px_name 8)) (px_name 6))) (px_ixN (u1 hr) 4 rfl (px_name 9))) (px_bin br_sub (px_name 8) (px_name 5)))))))))))))
  (ss_one (ps_retX (po_of (px_of (po_bty u_tup rfl m_tuple bb_tuple (pb_name 7))))))))))
theorem ok_is_line (F : FunD K "is_line" "is_line" (defArgs s_is_line) (defBody s_is_line) (defScope s_is_line) [] [] f fd) (hm : mg "is_line" = some (.ref f)) (m_all : mg "all" = none) (m_len : mg "len" = none) (m_any : mg "any" = none) (m_zip : mg "zip" = none) (c_check_heights : Fd P w K mg base "check_heights" 5 3 F_check_heights) (c_is_tuple : Fd P w K mg base "is_tuple" 1 3 F_is_tuple) (c_is_within : Fd P w K mg base "is_within" 2 3 F_is_within) (c_around : Fd P w K mg base "around" 1 3 F_around) :
    Fd P w K mg base "is_line" 6 4 F_is_line := by
  refine Fd.mk' (ps := ["high", "wide", "heights", "thing"]) F hm rfl (fun _ _ _ _ _ _ us hl => match us, hl with | [_, _, _, _], _ => rfl) (fn_okD F sc_is_line fun cdv A outer s H E hr => ?_)
  exact (ss_cons (ps_exprX (px_of (po_call c_check_heights hr (by decide) rfl (takes_of rfl rfl rfl rfl) (pa_consX (px_name 0) (pa_consX (px_name 1) (pa_consX (px_name 2) pa_nilX))) (len_cons (len_cons (len_cons len_nilA))))))
  (ss_cons (ps_ifX (pt_w (pw_orX (pt_notX (pt_of (px_of (po_call c_is_tuple hr (by decide) rfl (takes_of rfl rfl rfl rfl) (pa_consX (px_name 3) (pa_consX px_int (pa_consX px_int pa_nilX))) (len_cons (len_cons (len_cons len_nilA))))))) (pw_lastO (pt_notX (pt_of (px_of (po_blt (u_all rfl) rfl m_all bb_all (pb_of (px_of (po_lc rfl sc_is_line.nd (i_seq (px_name 3)) (blkOk_by (N := N_is_line) (sc := (defScope s_is_line)) (own := [("cell", 4)]) (by decide +kernel)) (fun _ _ _ _ _ => (g_nm 4 sc_is_line.nd)) (fun _ _ _ _ _ => t_nil) (fun _ _ _ _ _ => (px_of (po_call c_is_tuple hr (by decide) rfl takes0 (pa_consX (px_name 4) (pa_consX px_int (pa_consX px_int pa_nilX))) (len_cons (len_cons (len_cons len_nilA)))))))))))))))) (ss_one (ps_retX (po_of px_bl))) ss_nil)
  (ss_cons (ps_ifX (pt_notX (pt_of (px_of (po_blt (u_all rfl) rfl m_all bb_all (pb_of (px_of (po_lc rfl sc_is_line.nd (i_seq (px_name 3)) (blkOk_by (N := N_is_line) (sc := (defScope s_is_line)) (own := [("a", 5), ("b", 6)]) (by decide +kernel)) (fun _ _ _ _ _ => (g_tp rfl (gs_cons (g_nm 5 sc_is_line.nd) (gs_cons (g_nm 6 sc_is_line.nd) gs_nil)))) (fun _ _ _ _ _ => t_nil) (fun _ _ _ _ _ => (px_and (px_of (po_call c_is_within hr (by decide) rfl takes0 (pa_consX (px_name 5) (pa_consX px_int (pa_consX (px_bin br_sub (px_name 0) px_int) pa_nilX))) (len_cons (len_cons (len_cons len_nilA))))) (px_one (px_of (po_call c_is_within hr (by decide) rfl takes0 (pa_consX (px_name 6) (pa_consX px_int (pa_consX (px_bin br_sub (px_name 1) px_int) pa_nilX))) (len_cons (len_cons (len_cons len_nilA))))))))))))))) (ss_one (ps_retX (po_of px_bl))) ss_nil)
  (ss_cons (ps_ifX (pt_w (pw_orX (pt_cmp br_lt (px_of (po_blt u_lenA rfl m_len bb_len (pb_of (px_of (po_dcT (u1 hr) rfl sc_is_line.nd (i_seq (px_name 3)) (blkOk_by (N := N_is_line) (sc := (defScope s_is_line)) (own := [("cell", 4)]) (by decide +kernel)) (fun _ _ _ _ _ => (g_nm 4 sc_is_line.nd)) (fun _ _ _ _ _ => t_nil) (fun _ _ _ _ _ => (px_name 4)) (fun _ _ _ _ _ => px_bl)))))) (px_of (po_blt u_lenA rfl m_len bb_len (pb_name 3)))) (pw_lastO (pt_of (px_of (po_blt (u_any rfl) rfl m_any bb_any (pb_of (px_of (po_lc rfl sc_is_line.nd (i_seq (px_name 3)) (blkOk_by (N := N_is_line) (sc := (defScope s_is_line)) (own := [("a", 5), ("b", 6)]) (by decide +kernel)) (fun _ _ _ _ _ => (g_tp rfl (gs_cons (g_nm 5 sc_is_line.nd) (gs_cons (g_nm 6 sc_is_line.nd) gs_nil)))) (fun _ _ _ _ _ => t_nil) (fun _ _ _ _ _ => (px_cmp (br_ne (u64 hr)) (px_ix (u1 hr) (px_ixN (u1 hr) 2 rfl (px_name 5)) (px_name 6)) px_int))))))))))) (ss_one (ps_retX (po_of px_bl))) ss_nil)
  (ss_cons (ps_ifX (pt_w (pw_orX (pt_cmp (br_ne (u64 hr)) (px_ix (u1 hr) (px_ixN (u1 hr) 3 rfl px_int) px_int) px_int) (pw_lastO (pt_cmp (br_ne (u64 hr)) (px_ix (u1 hr) (px_ixN (u1 hr) 3 rfl (px_neg px_int)) px_int) (px_bin br_sub (px_name 1) px_int))))) (ss_one (ps_retX (po_of px_bl))) ss_nil)
  (ss_one (ps_retX (po_of (px_of (po_blt (u_all rfl) rfl m_all bb_all (pb_of (px_of (po_lc rfl sc_is_line.nd (i_zip rfl m_zip (px_name 3) (px_of (po_cutN 3 rfl (q_some px_int) q_none))) (blkOk_by (N := N_is_line) (sc := (defScope s_is_line)) (own := [("here", 7), ("later", 8)]) (by decide +kernel)) (fun _ _ _ _ _ => (g_tp rfl (gs_cons (g_nm 7 sc_is_line.nd) (gs_cons (g_nm 8 sc_is_line.nd) gs_nil)))) (fun _ _ _ _ _ => t_nil) (fun _ _ _ _ _ => (px_cmpB (bb_in (u65 hr)) (px_name 8) (pb_of (px_of (po_call c_around hr (by decide) rfl takes0 (pa_consX (px_name 0) (pa_consX (px_name 1) (pa_consX (px_name 7) pa_nilX))) (len_cons (len_cons (len_cons len_nilA)))))))))))))))))))))
theorem ok__law_about (F : FunD K "_law_about" "_law_about" (defArgs s__law_about) (defBody s__law_about) (defScope s__law_about) [] [] f fd) (hm : mg "_law_about" = some (.ref f)) (m_abs : mg "abs" = none) (m_max : mg "max" = none) :
    Fd P w K mg base "_law_about" 1 2 F__law_about := by
  refine Fd.mk' (ps := ["one", "other"]) F hm rfl (fun _ _ _ _ _ _ us hl => match us, hl with | [_, _], _ => rfl) (fn_okD F sc__law_about fun cdv A outer s H E hr => ?_)
  exact (ss_one (ps_retX (po_of (px_cmp (br_eq (u64 hr)) (px_max2 rfl rfl m_max bb_max (px_of (po_blt u_abs rfl m_abs bb_abs (pb_of (px_bin br_sub (px_ixN (u1 hr) 0 rfl px_int) (px_ixN (u1 hr) 1 rfl px_int))))) (px_of (po_blt u_abs rfl m_abs bb_abs (pb_of (px_bin br_sub (px_ixN (u1 hr) 0 rfl px_int) (px_ixN (u1 hr) 1 rfl px_int)))))) px_int))))
theorem ok_both_noughts (F : FunD K "both_noughts" "both_noughts" (defArgs s_both_noughts) (defBody s_both_noughts) (defScope s_both_noughts) [] [] f fd) (hm : mg "both_noughts" = some (.ref f)) (m_range : mg "range" = none) (c_check_heights : Fd P w K mg base "check_heights" 5 3 F_check_heights) :
    Fd P w K mg base "both_noughts" 6 4 F_both_noughts := by
  refine Fd.mk' (ps := ["high", "wide", "one", "other"]) F hm rfl (fun _ _ _ _ _ _ us hl => match us, hl with | [_, _, _, _], _ => rfl) (fn_okD F sc_both_noughts fun cdv A outer s H E hr => ?_)
  exact (ss_cons (ps_exprX (px_of (po_call c_check_heights hr (by decide) rfl (takes_of rfl rfl rfl rfl) (pa_consX (px_name 0) (pa_consX (px_name 1) (pa_consX (px_name 2) pa_nilX))) (len_cons (len_cons (len_cons len_nilA))))))
  (ss_cons (ps_exprX (px_of (po_call c_check_heights hr (by decide) rfl (takes_of rfl rfl rfl rfl) (pa_consX (px_name 0) (pa_consX (px_name 1) (pa_consX (px_name 3) pa_nilX))) (len_cons (len_cons (len_cons len_nilA))))))
  (ss_one (ps_retX (po_lc2 rfl sc_both_noughts.nd (i_range1 rfl m_range (px_name 0)) (blkOk_by (N := N_both_noughts) (sc := (defScope s_both_noughts)) (own := [("a", 4), ("b", 5)]) (by decide +kernel)) (fun _ _ _ _ _ => (g_nm 4 sc_both_noughts.nd)) (fun _ _ _ _ _ => t_nil) (fun _ _ _ _ _ => (i_range1 rfl m_range (px_name 1))) (fun _ _ _ _ _ => (g_nm 5 sc_both_noughts.nd)) (fun _ _ _ _ _ => (t_one (pt_w (pw_andX (pt_cmp (br_eq (u64 hr)) (px_ix (u1 hr) (px_ixN (u1 hr) 2 rfl (px_name 4)) (px_name 5)) px_int) (pw_lastA (pt_cmp (br_eq (u64 hr)) (px_ix (u1 hr) (px_ixN (u1 hr) 3 rfl (px_name 4)) (px_name 5)) px_int)))))) (fun _ _ _ _ _ => (px_tup (pa_consX (px_name 4) (pa_consX (px_name 5) pa_nilX)))))))))
theorem ok_common (F : FunD K "common" "common" (defArgs s_common) (defBody s_common) (defScope s_common) [] [] f fd) (hm : mg "common" = some (.ref f)) (c_check_heights : Fd P w K mg base "check_heights" 5 3 F_check_heights) (c_is_up_down : Fd P w K mg base "is_up_down" 1 1 F_is_up_down) (c_is_left_right : Fd P w K mg base "is_left_right" 1 1 F_is_left_right) (c_both_noughts : Fd P w K mg base "both_noughts" 6 4 F_both_noughts) :
    Fd P w K mg base "common" 7 4 F_common := by
  refine Fd.mk' (ps := ["high", "wide", "one", "other"]) F hm rfl (fun _ _ _ _ _ _ us hl => match us, hl with | [_, _, _, _], _ => rfl) (fn_okD F sc_common fun cdv A outer s H E hr => ?_)
  exact (ss_cons (ps_exprX (px_of (po_call c_check_heights hr (by decide) rfl (takes_of rfl rfl rfl rfl) (pa_consX (px_name 0) (pa_consX (px_name 1) (pa_consX (px_name 2) pa_nilX))) (len_cons (len_cons (len_cons len_nilA))))))
  (ss_cons (ps_exprX (px_of (po_call c_check_heights hr (by decide) rfl (takes_of rfl rfl rfl rfl) (pa_consX (px_name 0) (pa_consX (px_name 1) (pa_consX (px_name 3) pa_nilX))) (len_cons (len_cons (len_cons len_nilA))))))
  (ss_cons (ps_ifX (pt_w (pw_orX (pt_notX (pt_of (px_of (po_call c_is_up_down hr (by decide) rfl (takes_of rfl rfl rfl rfl) (pa_consX (px_name 2) pa_nilX) (len_cons len_nilA))))) (pw_lastO (pt_notX (pt_of (px_of (po_call c_is_left_right hr (by decide) rfl (takes_of rfl rfl rfl rfl) (pa_consX (px_name 3) pa_nilX) (len_cons len_nilA)))))))) (ss_one ps_badX) ss_nil)
  (ss_one (ps_retX (po_of (px_ix (u1 hr) (px_of (po_call c_both_noughts hr (by decide) rfl (takes_of rfl rfl rfl rfl) (pa_consX (px_name 0) (pa_consX (px_name 1) (pa_consX (px_name 2) (pa_consX (px_name 3) pa_nilX)))) (len_cons (len_cons (len_cons (len_cons len_nilA)))))) px_int)))))))
theorem ok_backed (F : FunD K "backed" "backed" (defArgs s_backed) (defBody s_backed) (defScope s_backed) [] [] f fd) (hm : mg "backed" = some (.ref f)) (m_tuple : mg "tuple" = none) (c_check_heights : Fd P w K mg base "check_heights" 5 3 F_check_heights) :
    Fd P w K mg base "backed" 6 3 F_backed := by
  refine Fd.mk' (ps := ["high", "wide", "heights"]) F hm rfl (fun _ _ _ _ _ _ us hl => match us, hl with | [_, _, _], _ => rfl) (fn_okD F sc_backed fun cdv A outer s H E hr => ?_)
  exact (ss_cons (ps_exprX (px_of (po_call c_check_heights hr (by decide) rfl (takes_of rfl rfl rfl rfl) (pa_consX (px_name 0) (pa_consX (px_name 1) (pa_consX (px_name 2) pa_nilX))) (len_cons (len_cons (len_cons len_nilA))))))
  (ss_one (ps_retX (po_of (px_of (po_bty u_tup rfl m_tuple bb_tuple (pb_of (px_of (po_lc rfl sc_backed.nd (i_seq (px_of (po_revA (pb_name 2)))) (blkOk_by (N := N_backed) (sc := (defScope s_backed)) (scope := sco_backed_0) (own := [("row", 3)]) (by decide +kernel)) (fun _ _ _ _ _ => (g_nm 3 sc_backed.nd)) (fun _ _ _ _ _ => t_nil) (fun _ _ _ _ _ => (px_of (po_bty u_tup rfl m_tuple bb_tuple (pb_of (px_of (po_lc rfl sc_backed.nd (i_seq (px_name 3)) (blkOk_by (N := N_backed) (sc := (relS sco_backed_0 (defScope s_backed))) (own := [("one", 4)]) (by decide +kernel)) (fun _ _ _ _ _ => (g_nm 4 sc_backed.nd)) (fun _ _ _ _ _ => t_nil) (fun _ _ _ _ _ => (px_neg (px_name 4))))))))))))))))))
theorem ok__law_held_right (F : FunD K "_law_held_right" "_law_held_right" (defArgs s__law_held_right) (defBody s__law_held_right) (defScope s__law_held_right) [] [] f fd) (hm : mg "_law_held_right" = some (.ref f)) (m_any : mg "any" = none) (m_zip : mg "zip" = none) (m_all : mg "all" = none) (c__law_draw : Fd P w K mg base "_law_draw" 1 2 F__law_draw) (c__law_steep : Fd P w K mg base "_law_steep" 3 3 F__law_steep) (c_turned : Fd P w K mg base "turned" 6 3 F_turned) (c_is_up_down : Fd P w K mg base "is_up_down" 1 1 F_is_up_down) (c_is_left_right : Fd P w K mg base "is_left_right" 1 1 F_is_left_right) (c_line_told : Fd P w K mg base "line_told" 6 3 F_line_told) (c_is_line : Fd P w K mg base "is_line" 6 4 F_is_line) (c__law_about : Fd P w K mg base "_law_about" 1 2 F__law_about) (c_noughts : Fd P w K mg base "noughts" 6 3 F_noughts) (c_both_noughts : Fd P w K mg base "both_noughts" 6 4 F_both_noughts) (c_common : Fd P w K mg base "common" 7 4 F_common) (c_backed : Fd P w K mg base "backed" 6 3 F_backed) :
    Fd P w K mg base "_law_held_right" 8 1 F__law_held_right := by
  refine Fd.mk' (ps := ["hand"]) F hm rfl (fun _ _ _ _ _ _ us hl => match us, hl with | [_], _ => rfl) (fn_okD F sc__law_held_right fun cdv A outer s H E hr => ?_)
  exact (ss_cons (ps_par2 rfl sc__law_held_right.nd (pl_cons (po_bin br_add px_int (px_of (po_call c__law_draw hr (by decide) rfl (takes_of rfl rfl rfl rfl) (pa_consX (px_name 0) (pa_consX px_int pa_nilX)) (len_cons (len_cons len_nilA))))) (pl_cons (po_bin br_add px_int (px_of (po_call c__law_draw hr (by decide) rfl (takes_of rfl rfl rfl rfl) (pa_consX (px_name 0) (pa_consX px_int pa_nilX)) (len_cons (len_cons len_nilA))))) pl_nil)))
  (ss_cons (ps_setX 3 sc__law_held_right.nd (po_of (px_of (po_call c__law_steep hr (by decide) rfl (takes_of rfl rfl rfl rfl) (pa_consX (px_name 0) (pa_consX (px_name 1) (pa_consX (px_name 2) pa_nilX))) (len_cons (len_cons (len_cons len_nilA)))))))
  (ss_cons (ps_setX 4 sc__law_held_right.nd (po_of (px_of (po_call c_turned hr (by decide) rfl (takes_of rfl rfl rfl rfl) (pa_consX (px_name 2) (pa_consX (px_name 1) (pa_consX (px_of (po_call c__law_steep hr (by decide) rfl (takes_of rfl rfl rfl rfl) (pa_consX (px_name 0) (pa_consX (px_name 2) (pa_consX (px_name 1) pa_nilX))) (len_cons (len_cons (len_cons len_nilA))))) pa_nilX))) (len_cons (len_cons (len_cons len_nilA)))))))
  (ss_cons (ps_ifX (pt_w (pw_orX (pt_cmp br_isnot (px_of (po_call c_is_up_down hr (by decide) rfl (takes_of rfl rfl rfl rfl) (pa_consX (px_name 3) pa_nilX) (len_cons len_nilA))) px_bl) (pw_lastO (pt_cmp br_isnot (px_of (po_call c_is_left_right hr (by decide) rfl (takes_of rfl rfl rfl rfl) (pa_consX (px_name 4) pa_nilX) (len_cons len_nilA))) px_bl)))) (ss_one (ps_retX (po_of px_bl))) ss_nil)
  (ss_cons (ps_setX 5 sc__law_held_right.nd (po_of (px_of (po_call c_line_told hr (by decide) rfl (takes_of rfl rfl rfl rfl) (pa_consX (px_name 1) (pa_consX (px_name 2) (pa_consX (px_name 3) pa_nilX))) (len_cons (len_cons (len_cons len_nilA)))))))
  (ss_cons (ps_ifX (pt_w (pw_orX (pt_cmp br_isnot (px_of (po_call c_is_line hr (by decide) rfl (takes_of rfl rfl rfl rfl) (pa_consX (px_name 1) (pa_consX (px_name 2) (pa_consX (px_name 3) (pa_consX (px_name 5) pa_nilX)))) (len_cons (len_cons (len_cons (len_cons len_nilA)))))) px_bl) (pw_orX (pt_cmp (br_ne (u64 hr)) (px_ix (u1 hr) (px_ixN (u1 hr) 5 rfl px_int) px_int) px_int) (pw_lastO (pt_cmp (br_ne (u64 hr)) (px_ix (u1 hr) (px_ixN (u1 hr) 5 rfl (px_neg px_int)) px_int) (px_bin br_sub (px_name 2) px_int)))))) (ss_one (ps_retX (po_of px_bl))) ss_nil)
  (ss_cons (ps_ifX (pt_of (px_of (po_blt (u_any rfl) rfl m_any bb_any (pb_of (px_of (po_lc rfl sc__law_held_right.nd (i_seq (px_name 5)) (blkOk_by (N := N__law_held_right) (sc := (defScope s__law_held_right)) (own := [("a", 7), ("b", 8)]) (by decide +kernel)) (fun _ _ _ _ _ => (g_tp rfl (gs_cons (g_nm 7 sc__law_held_right.nd) (gs_cons (g_nm 8 sc__law_held_right.nd) gs_nil)))) (fun _ _ _ _ _ => t_nil) (fun _ _ _ _ _ => (px_cmp (br_ne (u64 hr)) (px_ix (u1 hr) (px_ixN (u1 hr) 3 rfl (px_name 7)) (px_name 8)) px_int)))))))) (ss_one (ps_retX (po_of px_bl))) ss_nil)
  (ss_cons (ps_ifX (pt_notX (pt_of (px_of (po_blt (u_all rfl) rfl m_all bb_all (pb_of (px_of (po_lc rfl sc__law_held_right.nd (i_zip rfl m_zip (px_name 5) (px_of (po_cutN 5 rfl (q_some px_int) q_none))) (blkOk_by (N := N__law_held_right) (sc := (defScope s__law_held_right)) (own := [("here", 9), ("later", 10)]) (by decide +kernel)) (fun _ _ _ _ _ => (g_tp rfl (gs_cons (g_nm 9 sc__law_held_right.nd) (gs_cons (g_nm 10 sc__law_held_right.nd) gs_nil)))) (fun _ _ _ _ _ => t_nil) (fun _ _ _ _ _ => (px_of (po_call c__law_about hr (by decide) rfl takes0 (pa_consX (px_name 9) (pa_consX (px_name 10) pa_nilX)) (len_cons (len_cons len_nilA)))))))))))) (ss_one (ps_retX (po_of px_bl))) ss_nil)
  (ss_cons (ps_dem 6 (ps_setLcX (i := 6) rfl sc__law_held_right.nd rfl rfl rfl (i_seq (px_of (po_call c_noughts hr (by decide) rfl (takes_of rfl rfl rfl rfl) (pa_consX (px_name 1) (pa_consX (px_name 2) (pa_consX (px_name 3) pa_nilX))) (len_cons (len_cons (len_cons len_nilA)))))) (blkOk_by (N := N__law_held_right) (sc := (defScope s__law_held_right)) (own := [("a", 7), ("b", 8)]) (by decide +kernel)) (fun _ _ _ _ _ => (g_tp rfl (gs_cons (g_nm 7 sc__law_held_right.nd) (gs_cons (g_nm 8 sc__law_held_right.nd) gs_nil)))) (fun _ _ _ _ _ => (t_one (pt_cmp (br_eq (u64 hr)) (px_ix (u1 hr) (px_ixN (u1 hr) 4 rfl (px_name 7)) (px_name 8)) px_int))) (fun _ _ _ _ _ => (px_tup (pa_consX (px_name 7) (pa_consX (px_name 8) pa_nilX))))))
  (ss_cons (ps_ifX (pt_w (pw_orX (pt_cmp (br_ne (u64 hr)) (px_of (po_call c_both_noughts hr (by decide) rfl (takes_of rfl rfl rfl rfl) (pa_consX (px_name 1) (pa_consX (px_name 2) (pa_consX (px_name 3) (pa_consX (px_name 4) pa_nilX)))) (len_cons (len_cons (len_cons (len_cons len_nilA)))))) (px_name 6)) (pw_lastO (pt_cmp (br_ne (u64 hr)) (px_of (po_call c_common hr (by decide) rfl (takes_of rfl rfl rfl rfl) (pa_consX (px_name 1) (pa_consX (px_name 2) (pa_consX (px_name 3) (pa_consX (px_name 4) pa_nilX)))) (len_cons (len_cons (len_cons (len_cons len_nilA)))))) (px_ixN (u1 hr) 6 rfl px_int))))) (ss_one (ps_retX (po_of px_bl))) ss_nil)
  (ss_one (ps_retX (po_of (px_cmp br_is (px_of (po_call c_is_up_down hr (by decide) rfl (takes_of rfl rfl rfl rfl) (pa_consX (px_of (po_call c_backed hr (by decide) rfl (takes_of rfl rfl rfl rfl) (pa_consX (px_name 1) (pa_consX (px_name 2) (pa_consX (px_name 3) pa_nilX))) (len_cons (len_cons (len_cons len_nilA))))) pa_nilX) (len_cons len_nilA))) px_bl))))))))))))))
theorem ok_by_sums (F : FunD K "by_sums" "by_sums" (defArgs s_by_sums) (defBody s_by_sums) (defScope s_by_sums) [] [] f fd) (hm : mg "by_sums" = some (.ref f)) (m_all : mg "all" = none) (m_zip : mg "zip" = none) (m_abs : mg "abs" = none) (m_max : mg "max" = none) (m_tuple : mg "tuple" = none) {t_MOST_SIDE : Tok} (g_MOST_SIDE : mg "MOST_SIDE" = some (.int 8 t_MOST_SIDE)) (c_is_tuple : Fd P w K mg base "is_tuple" 1 3 F_is_tuple) (c_is_within : Fd P w K mg base "is_within" 2 3 F_is_within) :
    Fd P w K mg base "by_sums" 3 2 F_by_sums := by
  refine Fd.mk' (ps := ["down", "across"]) F hm rfl (fun _ _ _ _ _ _ us hl => match us, hl with | [_, _], _ => rfl) (fn_okD F sc_by_sums fun cdv A outer s H E hr => ?_)
  exact (ss_cons (ps_forX (passes_of rfl) rfl (i_seq (px_tup (pa_consX (px_name 0) (pa_consX (px_name 1) pa_nilX)))) (g_nm 2 sc_by_sums.nd) (ss_cons (ps_ifX (pt_w (pw_orX (pt_notX (pt_of (px_of (po_call c_is_tuple hr (by decide) rfl (takes_of rfl rfl rfl rfl) (pa_consX (px_name 2) (pa_consX px_int (pa_consX (px_globi rfl g_MOST_SIDE) pa_nilX))) (len_cons (len_cons (len_cons len_nilA))))))) (pw_lastO (pt_notX (pt_of (px_of (po_blt (u_all rfl) rfl m_all bb_all (pb_of (px_of (po_lc rfl sc_by_sums.nd (i_seq (px_name 2)) (blkOk_by (N := N_by_sums) (sc := (defScope s_by_sums)) (own := [("one", 3)]) (by decide +kernel)) (fun _ _ _ _ _ => (g_nm 3 sc_by_sums.nd)) (fun _ _ _ _ _ => t_nil) (fun _ _ _ _ _ => (px_of (po_call c_is_within hr (by decide) rfl takes0 (pa_consX (px_name 3) (pa_consX (px_neg px_int) (pa_consX px_int pa_nilX))) (len_cons (len_cons (len_cons len_nilA)))))))))))))))) (ss_one ps_badX) ss_nil)
  (ss_one (ps_ifX (pt_notX (pt_of (px_of (po_blt (u_all rfl) rfl m_all bb_all (pb_of (px_of (po_lc rfl sc_by_sums.nd (i_zip rfl m_zip (px_name 2) (px_of (po_cutN 2 rfl (q_some px_int) q_none))) (blkOk_by (N := N_by_sums) (sc := (defScope s_by_sums)) (own := [("a", 4), ("b", 5)]) (by decide +kernel)) (fun _ _ _ _ _ => (g_tp rfl (gs_cons (g_nm 4 sc_by_sums.nd) (gs_cons (g_nm 5 sc_by_sums.nd) gs_nil)))) (fun _ _ _ _ _ => t_nil) (fun _ _ _ _ _ => (px_cmp br_le (px_of (po_blt u_abs rfl m_abs bb_abs (pb_of (px_bin br_sub (px_name 4) (px_name 5))))) px_int))))))))) (ss_one ps_badX) ss_nil))))
  (ss_one (ps_retX (po_of (px_of (po_bty u_tup rfl m_tuple bb_tuple (pb_of (px_of (po_lc rfl sc_by_sums.nd (i_seq (px_name 0)) (blkOk_by (N := N_by_sums) (sc := (defScope s_by_sums)) (scope := sco_by_sums_0) (own := [("one", 3)]) (by decide +kernel)) (fun _ _ _ _ _ => (g_nm 3 sc_by_sums.nd)) (fun _ _ _ _ _ => t_nil) (fun _ _ _ _ _ => (px_of (po_bty u_tup rfl m_tuple bb_tuple (pb_of (px_of (po_lc rfl sc_by_sums.nd (i_seq (px_name 1)) (blkOk_by (N := N_by_sums) (sc := (relS sco_by_sums_0 (defScope s_by_sums))) (own := [("other", 6)]) (by decide +kernel)) (fun _ _ _ _ _ => (g_nm 6 sc_by_sums.nd)) (fun _ _ _ _ _ => t_nil) (fun _ _ _ _ _ => (px_max2 rfl rfl m_max bb_max (px_name 3) (px_name 6))))))))))))))))))
theorem ok__law_sums_right (F : FunD K "_law_sums_right" "_law_sums_right" (defArgs s__law_sums_right) (defBody s__law_sums_right) (defScope s__law_sums_right) [] [] f fd) (hm : mg "_law_sums_right" = some (.ref f)) (m_range : mg "range" = none) (m_tuple : mg "tuple" = none) (m_enumerate : mg "enumerate" = none) (m_max : mg "max" = none) (m_len : mg "len" = none) (c__law_draw : Fd P w K mg base "_law_draw" 1 2 F__law_draw) (c_by_sums : Fd P w K mg base "by_sums" 3 2 F_by_sums) (c_is_heights : Fd P w K mg base "is_heights" 4 3 F_is_heights) :
    Fd P w K mg base "_law_sums_right" 5 1 F__law_sums_right := by
  refine Fd.mk' (ps := ["hand"]) F hm rfl (fun _ _ _ _ _ _ us hl => match us, hl with | [_], _ => rfl) (fn_okD F sc__law_sums_right fun cdv A outer s H E hr => ?_)
  exact (ss_cons (ps_par2 rfl sc__law_sums_right.nd (pl_cons (po_lst (pa_consX (px_bin br_sub px_int (px_of (po_call c__law_draw hr (by decide) rfl (takes_of rfl rfl rfl rfl) (pa_consX (px_name 0) (pa_consX px_int pa_nilX)) (len_cons (len_cons len_nilA))))) pa_nilX)) (pl_cons (po_lst (pa_consX (px_bin br_sub px_int (px_of (po_call c__law_draw hr (by decide) rfl (takes_of rfl rfl rfl rfl) (pa_consX (px_name 0) (pa_consX px_int pa_nilX)) (len_cons (len_cons len_nilA))))) pa_nilX)) pl_nil)))
  (ss_cons (ps_forX (passes_of rfl) rfl (i_range1 rfl m_range (px_of (po_bin br_add px_int (px_of (po_call c__law_draw hr (by decide) rfl (takes_of rfl rfl rfl rfl) (pa_consX (px_name 0) (pa_consX px_int pa_nilX)) (len_cons (len_cons len_nilA))))))) (g_nm 3 sc__law_sums_right.nd) (ss_one (ps_exprX (px_app 1 rfl (px_bin br_sub (px_of (po_bin br_add (px_ixN (u1 hr) 1 rfl (px_neg px_int)) (px_of (po_call c__law_draw hr (by decide) rfl (takes_of rfl rfl rfl rfl) (pa_consX (px_name 0) (pa_consX px_int pa_nilX)) (len_cons (len_cons len_nilA)))))) px_int)))))
  (ss_cons (ps_forX (passes_of rfl) rfl (i_range1 rfl m_range (px_of (po_bin br_add px_int (px_of (po_call c__law_draw hr (by decide) rfl (takes_of rfl rfl rfl rfl) (pa_consX (px_name 0) (pa_consX px_int pa_nilX)) (len_cons (len_cons len_nilA))))))) (g_nm 3 sc__law_sums_right.nd) (ss_one (ps_exprX (px_app 2 rfl (px_bin br_sub (px_of (po_bin br_add (px_ixN (u1 hr) 2 rfl (px_neg px_int)) (px_of (po_call c__law_draw hr (by decide) rfl (takes_of rfl rfl rfl rfl) (pa_consX (px_name 0) (pa_consX px_int pa_nilX)) (len_cons (len_cons len_nilA)))))) px_int)))))
  (ss_cons (ps_dem 2 (ps_setX 4 sc__law_sums_right.nd (po_of (px_of (po_call c_by_sums hr (by decide) rfl (takes_of rfl rfl rfl rfl) (pa_consX (px_of (po_bty u_tup rfl m_tuple bb_tuple (pb_name 1))) (pa_consX (px_of (po_bty u_tup rfl m_tuple bb_tuple (pb_name 2))) pa_nilX)) (len_cons (len_cons len_nilA)))))))
  (ss_cons (ps_forX (passes_of rfl) rfl (i_enumA rfl m_enumerate (px_name 1)) (g_tp rfl (gs_cons (g_nm 5 sc__law_sums_right.nd) (gs_cons (g_nm 6 sc__law_sums_right.nd) gs_nil))) (ss_one (ps_forX (passes_of rfl) rfl (i_enumA rfl m_enumerate (px_name 2)) (g_tp rfl (gs_cons (g_nm 7 sc__law_sums_right.nd) (gs_cons (g_nm 8 sc__law_sums_right.nd) gs_nil))) (ss_one (ps_ifX (pt_cmp (br_ne (u64 hr)) (px_ix (u1 hr) (px_ixN (u1 hr) 4 rfl (px_name 5)) (px_name 7)) (px_max2 rfl rfl m_max bb_max (px_name 6) (px_name 8))) (ss_one (ps_retX (po_of px_bl))) ss_nil)))))
  (ss_one (ps_retX (po_of (px_cmp br_is (px_of (po_call c_is_heights hr (by decide) rfl (takes_of rfl rfl rfl rfl) (pa_consX (px_of (po_blt u_lenA rfl m_len bb_len (pb_name 1))) (pa_consX (px_of (po_blt u_lenA rfl m_len bb_len (pb_name 2))) (pa_consX (px_name 4) pa_nilX))) (len_cons (len_cons (len_cons len_nilA))))) px_bl)))))))))
theorem ok_law (F : FunD K "law" "law" (defArgs s_law) (defBody s_law) (defScope s_law) [] [] f fd) (m_range : mg "range" = none) (m_all : mg "all" = none) (c__law_hand : Fd P w K mg base "_law_hand" 1 1 F__law_hand) (c_line_told : Fd P w K mg base "line_told" 6 3 F_line_told) (c__law_plain_right : Fd P w K mg base "_law_plain_right" 7 1 F__law_plain_right) (c__law_held_right : Fd P w K mg base "_law_held_right" 8 1 F__law_held_right) (c__law_sums_right : Fd P w K mg base "_law_sums_right" 5 1 F__law_sums_right) :
    FnOk P w K mg base (L2.CX P w) 9 f fd ["script"] (spF K 1 F_law) := by
  refine fn_okD F sc_law fun cdv A outer s H E hr => ?_
  exact (ss_cons (ps_cell 1 sc_law.nd (po_call c__law_hand hr (by decide) rfl (takes_of rfl rfl rfl rfl) (pa_consX (px_name 0) pa_nilX) (len_cons len_nilA)))
  (ss_cons (ps_ifX (pt_cmp (br_ne (u64 hr)) (px_of (po_call c_line_told hr (by decide) rfl (takes_of rfl rfl rfl rfl) (pa_consX px_int (pa_consX px_int (pa_consX (px_tup (pa_consX (px_tup (pa_consX px_int (pa_consX px_int pa_nilX))) (pa_consX (px_tup (pa_consX px_int (pa_consX px_int pa_nilX))) pa_nilX))) pa_nilX))) (len_cons (len_cons (len_cons len_nilA))))) (px_tup (pa_consX (px_tup (pa_consX px_int (pa_consX px_int pa_nilX))) (pa_consX (px_tup (pa_consX px_int (pa_consX px_int pa_nilX))) pa_nilX)))) (ss_one (ps_retX (po_of px_bl))) ss_nil)
  (ss_one (ps_retX (po_of (px_of (po_blt (u_all rfl) rfl m_all bb_all (pb_of (px_of (po_lc rfl sc_law.nd (i_range1 rfl m_range px_int) (blkOk_by (N := N_law) (sc := (defScope s_law)) (own := [("turn", 2)]) (by decide +kernel)) (fun _ _ _ _ _ => (g_nm 2 sc_law.nd)) (fun _ _ _ _ _ => t_nil) (fun _ _ _ _ _ => (px_and (px_of (po_call c__law_plain_right hr (by decide) rfl takes0 (pa_consX (px_name 1) pa_nilX) (len_cons len_nilA))) (px_and (px_of (po_call c__law_held_right hr (by decide) rfl takes0 (pa_consX (px_name 1) pa_nilX) (len_cons len_nilA))) (px_one (px_of (po_call c__law_sums_right hr (by decide) rfl takes0 (pa_consX (px_name 1) pa_nilX) (len_cons len_nilA)))))))))))))))))
end
def d__law_hand : He.DefD := ⟨("_law_hand", none), "_law_hand", "_law_hand", defArgs s__law_hand, defBody s__law_hand, defScope s__law_hand, [], []⟩
def d_is_integer : He.DefD := ⟨("is_integer", none), "is_integer", "is_integer", defArgs s_is_integer, defBody s_is_integer, defScope s_is_integer, [], []⟩
def d_is_within : He.DefD := ⟨("is_within", none), "is_within", "is_within", defArgs s_is_within, defBody s_is_within, defScope s_is_within, [], []⟩
def d_check_sides : He.DefD := ⟨("check_sides", none), "check_sides", "check_sides", defArgs s_check_sides, defBody s_check_sides, defScope s_check_sides, [], []⟩
def d_is_tuple : He.DefD := ⟨("is_tuple", none), "is_tuple", "is_tuple", defArgs s_is_tuple, defBody s_is_tuple, defScope s_is_tuple, [], []⟩
def d_is_heights : He.DefD := ⟨("is_heights", none), "is_heights", "is_heights", defArgs s_is_heights, defBody s_is_heights, defScope s_is_heights, [], []⟩
def d_check_heights : He.DefD := ⟨("check_heights", none), "check_heights", "check_heights", defArgs s_check_heights, defBody s_check_heights, defScope s_check_heights, [], []⟩
def d_is_up_down : He.DefD := ⟨("is_up_down", none), "is_up_down", "is_up_down", defArgs s_is_up_down, defBody s_is_up_down, defScope s_is_up_down, [], []⟩
def d_around : He.DefD := ⟨("around", none), "around", "around", defArgs s_around, defBody s_around, defScope s_around, [], []⟩
def d_line_of : He.DefD := ⟨("line_of", none), "line_of", "line_of", defArgs s_line_of, defBody s_line_of, defScope s_line_of, [], []⟩
def d_line_told : He.DefD := ⟨("line_told", none), "line_told", "line_told", defArgs s_line_told, defBody s_line_told, defScope s_line_told, [], []⟩
def d__law_draw : He.DefD := ⟨("_law_draw", none), "_law_draw", "_law_draw", defArgs s__law_draw, defBody s__law_draw, defScope s__law_draw, [], []⟩
def d_check_number : He.DefD := ⟨("check_number", none), "check_number", "check_number", defArgs s_check_number, defBody s_check_number, defScope s_check_number, [], []⟩
def d_digits : He.DefD := ⟨("digits", none), "digits", "digits", defArgs s_digits, defBody s_digits, defScope s_digits, [], []⟩
def d_drawn_heights : He.DefD := ⟨("drawn_heights", none), "drawn_heights", "drawn_heights", defArgs s_drawn_heights, defBody s_drawn_heights, defScope s_drawn_heights, [], []⟩
def d_noughts : He.DefD := ⟨("noughts", none), "noughts", "noughts", defArgs s_noughts, defBody s_noughts, defScope s_noughts, [], []⟩
def d_is_left_right : He.DefD := ⟨("is_left_right", none), "is_left_right", "is_left_right", defArgs s_is_left_right, defBody s_is_left_right, defScope s_is_left_right, [], []⟩
def d_turned : He.DefD := ⟨("turned", none), "turned", "turned", defArgs s_turned, defBody s_turned, defScope s_turned, [], []⟩
def d__law_plain_right : He.DefD := ⟨("_law_plain_right", none), "_law_plain_right", "_law_plain_right", defArgs s__law_plain_right, defBody s__law_plain_right, defScope s__law_plain_right, [], []⟩
def d__law_walk : He.DefD := ⟨("_law_walk", none), "_law_walk", "_law_walk", defArgs s__law_walk, defBody s__law_walk, defScope s__law_walk, [], []⟩
def d__law_steep : He.DefD := ⟨("_law_steep", none), "_law_steep", "_law_steep", defArgs s__law_steep, defBody s__law_steep, defScope s__law_steep, [], []⟩
def d_is_line : He.DefD := ⟨("is_line", none), "is_line", "is_line", defArgs s_is_line, defBody s_is_line, defScope s_is_line, [], []⟩
def d__law_about : He.DefD := ⟨("_law_about", none), "_law_about", "_law_about", defArgs s__law_about, defBody s__law_about, defScope s__law_about, [], []⟩
def d_both_noughts : He.DefD := ⟨("both_noughts", none), "both_noughts", "both_noughts", defArgs s_both_noughts, defBody s_both_noughts, defScope s_both_noughts, [], []⟩
def d_common : He.DefD := ⟨("common", none), "common", "common", defArgs s_common, defBody s_common, defScope s_common, [], []⟩
def d_backed : He.DefD := ⟨("backed", none), "backed", "backed", defArgs s_backed, defBody s_backed, defScope s_backed, [], []⟩
def d__law_held_right : He.DefD := ⟨("_law_held_right", none), "_law_held_right", "_law_held_right", defArgs s__law_held_right, defBody s__law_held_right, defScope s__law_held_right, [], []⟩
def d_by_sums : He.DefD := ⟨("by_sums", none), "by_sums", "by_sums", defArgs s_by_sums, defBody s_by_sums, defScope s_by_sums, [], []⟩
def d__law_sums_right : He.DefD := ⟨("_law_sums_right", none), "_law_sums_right", "_law_sums_right", defArgs s__law_sums_right, defBody s__law_sums_right, defScope s__law_sums_right, [], []⟩
def d_law : He.DefD := ⟨("law", none), "law", "law", defArgs s_law, defBody s_law, defScope s_law, [], []⟩
def fn : List He.DefD := [d__law_hand, d_is_integer, d_is_within, d_check_sides, d_is_tuple, d_is_heights, d_check_heights, d_is_up_down, d_around, d_line_of, d_line_told, d__law_draw, d_check_number, d_digits, d_drawn_heights, d_noughts, d_is_left_right, d_turned, d__law_plain_right, d__law_walk, d__law_steep, d_is_line, d__law_about, d_both_noughts, d_common, d_backed, d__law_held_right, d_by_sums, d__law_sums_right, d_law]
def fa0 : List He.Fa := [.glo "_law_hand", .glo "is_integer", .glo "is_within", .glo "check_sides", .glo "is_tuple", .glo "is_heights", .glo "check_heights", .glo "is_up_down", .glo "around", .glo "line_of", .glo "line_told", .glo "_law_draw", .glo "check_number", .glo "digits", .glo "drawn_heights", .glo "noughts", .glo "is_left_right", .glo "turned", .glo "_law_plain_right", .glo "_law_walk", .glo "_law_steep", .glo "is_line", .glo "_law_about", .glo "both_noughts", .glo "common", .glo "backed", .glo "_law_held_right", .glo "by_sums", .glo "_law_sums_right", .glo "law"]
def fa1 : List He.Fa := [.free "int", .free "abs", .free "len", .free "isinstance", .free "bool", .int "MOST_SIDE" 8, .free "tuple", .free "all", .free "range", .free "max", .free "min", .int "MOST_NUMBER" 1000000000000000000000000000000000000000000000000000000000000, .free "enumerate", .free "repr", .free "any", .free "zip"]
def fa : List He.Fa := fa0 ++ fa1
def loose0 : List Str := ["is_integer", "is_within", "is_tuple", "DoorError", "NoNumber", "NoHeights", "MOST_SIDE", "is_heights", "check_sides", "check_heights", "is_up_down", "is_left_right", "noughts", "line_of", "around", "line_told", "is_line", "common", "both_noughts", "turned", "backed", "by_sums", "MOST_NUMBER", "check_number", "digits", "drawn_heights", "_law_hand", "_law_draw", "_law_any", "_law_walk"]
def loose1 : List Str := ["_law_steep", "_law_about", "_law_plain_right", "_law_held_right", "_law_sums_right"]
def loose : List Str := loose0 ++ loose1
abbrev R : PySem.W.OpenRow := PySem.W.OpenLaw.row PySem.Challenge.rw_doorroads_k95_whole_two_heights_that_mee
abbrev hk : PySem.W.Hook := He.hookD 4 fa fn
def ob (s : PySem.W.SharedT) : He.AlD := He.obsDG 4 fa fn (HandSHeadRun.getT s)
theorem ob_eq (s : PySem.W.SharedT) : ob s = hk.obs s.abs := He.obsDG_eq (HandSHeadRun.getT_eq s)
theorem run (w : World) : HandSHeadRun.RunEq R (PySem.W.view R.prog [40]) hk ob 3000 loose w := by
  intro os
  kernel_rfl
theorem facts {P : Program} {w : World} {K : PySem.W.Frag} {h : Heap} {mg : Str → Option Value} {f : Addr} (X : K.In h) (G : h.Ns mainGlobals mg) (hfa : mg ("law" : Str) = some (.ref f)) (c : He.SaysD fa fn K) :
    ∃ fd : FuncData, (∀ (s : Shared) (v : Value), BindsTo s fd ⟨[v], []⟩ [("script", v)]) ∧ ∀ base : Heap, K.In base → base.Ns mainGlobals mg → FnOk P w K mg base (L2.CX P w) 9 f fd ["script"] (spF K 1 F_law) := by
  obtain ⟨fd__law_hand, D__law_hand⟩ := c.def_ 0 (d := d__law_hand) rfl
  have h__law_hand := He.glo_ok X G (c.fact 0 (f := .glo "_law_hand") rfl)
  obtain ⟨fd_is_integer, D_is_integer⟩ := c.def_ 1 (d := d_is_integer) rfl
  have h_is_integer := He.glo_ok X G (c.fact 1 (f := .glo "is_integer") rfl)
  obtain ⟨fd_is_within, D_is_within⟩ := c.def_ 2 (d := d_is_within) rfl
  have h_is_within := He.glo_ok X G (c.fact 2 (f := .glo "is_within") rfl)
  obtain ⟨fd_check_sides, D_check_sides⟩ := c.def_ 3 (d := d_check_sides) rfl
  have h_check_sides := He.glo_ok X G (c.fact 3 (f := .glo "check_sides") rfl)
  obtain ⟨fd_is_tuple, D_is_tuple⟩ := c.def_ 4 (d := d_is_tuple) rfl
  have h_is_tuple := He.glo_ok X G (c.fact 4 (f := .glo "is_tuple") rfl)
  obtain ⟨fd_is_heights, D_is_heights⟩ := c.def_ 5 (d := d_is_heights) rfl
  have h_is_heights := He.glo_ok X G (c.fact 5 (f := .glo "is_heights") rfl)
  obtain ⟨fd_check_heights, D_check_heights⟩ := c.def_ 6 (d := d_check_heights) rfl
  have h_check_heights := He.glo_ok X G (c.fact 6 (f := .glo "check_heights") rfl)
  obtain ⟨fd_is_up_down, D_is_up_down⟩ := c.def_ 7 (d := d_is_up_down) rfl
  have h_is_up_down := He.glo_ok X G (c.fact 7 (f := .glo "is_up_down") rfl)
  obtain ⟨fd_around, D_around⟩ := c.def_ 8 (d := d_around) rfl
  have h_around := He.glo_ok X G (c.fact 8 (f := .glo "around") rfl)
  obtain ⟨fd_line_of, D_line_of⟩ := c.def_ 9 (d := d_line_of) rfl
  have h_line_of := He.glo_ok X G (c.fact 9 (f := .glo "line_of") rfl)
  obtain ⟨fd_line_told, D_line_told⟩ := c.def_ 10 (d := d_line_told) rfl
  have h_line_told := He.glo_ok X G (c.fact 10 (f := .glo "line_told") rfl)
  obtain ⟨fd__law_draw, D__law_draw⟩ := c.def_ 11 (d := d__law_draw) rfl
  have h__law_draw := He.glo_ok X G (c.fact 11 (f := .glo "_law_draw") rfl)
  obtain ⟨fd_check_number, D_check_number⟩ := c.def_ 12 (d := d_check_number) rfl
  have h_check_number := He.glo_ok X G (c.fact 12 (f := .glo "check_number") rfl)
  obtain ⟨fd_digits, D_digits⟩ := c.def_ 13 (d := d_digits) rfl
  have h_digits := He.glo_ok X G (c.fact 13 (f := .glo "digits") rfl)
  obtain ⟨fd_drawn_heights, D_drawn_heights⟩ := c.def_ 14 (d := d_drawn_heights) rfl
  have h_drawn_heights := He.glo_ok X G (c.fact 14 (f := .glo "drawn_heights") rfl)
  obtain ⟨fd_noughts, D_noughts⟩ := c.def_ 15 (d := d_noughts) rfl
  have h_noughts := He.glo_ok X G (c.fact 15 (f := .glo "noughts") rfl)
  obtain ⟨fd_is_left_right, D_is_left_right⟩ := c.def_ 16 (d := d_is_left_right) rfl
  have h_is_left_right := He.glo_ok X G (c.fact 16 (f := .glo "is_left_right") rfl)
  obtain ⟨fd_turned, D_turned⟩ := c.def_ 17 (d := d_turned) rfl
  have h_turned := He.glo_ok X G (c.fact 17 (f := .glo "turned") rfl)
  obtain ⟨fd__law_plain_right, D__law_plain_right⟩ := c.def_ 18 (d := d__law_plain_right) rfl
  have h__law_plain_right := He.glo_ok X G (c.fact 18 (f := .glo "_law_plain_right") rfl)
  obtain ⟨fd__law_walk, D__law_walk⟩ := c.def_ 19 (d := d__law_walk) rfl
  have h__law_walk := He.glo_ok X G (c.fact 19 (f := .glo "_law_walk") rfl)
  obtain ⟨fd__law_steep, D__law_steep⟩ := c.def_ 20 (d := d__law_steep) rfl
  have h__law_steep := He.glo_ok X G (c.fact 20 (f := .glo "_law_steep") rfl)
  obtain ⟨fd_is_line, D_is_line⟩ := c.def_ 21 (d := d_is_line) rfl
  have h_is_line := He.glo_ok X G (c.fact 21 (f := .glo "is_line") rfl)
  obtain ⟨fd__law_about, D__law_about⟩ := c.def_ 22 (d := d__law_about) rfl
  have h__law_about := He.glo_ok X G (c.fact 22 (f := .glo "_law_about") rfl)
  obtain ⟨fd_both_noughts, D_both_noughts⟩ := c.def_ 23 (d := d_both_noughts) rfl
  have h_both_noughts := He.glo_ok X G (c.fact 23 (f := .glo "both_noughts") rfl)
  obtain ⟨fd_common, D_common⟩ := c.def_ 24 (d := d_common) rfl
  have h_common := He.glo_ok X G (c.fact 24 (f := .glo "common") rfl)
  obtain ⟨fd_backed, D_backed⟩ := c.def_ 25 (d := d_backed) rfl
  have h_backed := He.glo_ok X G (c.fact 25 (f := .glo "backed") rfl)
  obtain ⟨fd__law_held_right, D__law_held_right⟩ := c.def_ 26 (d := d__law_held_right) rfl
  have h__law_held_right := He.glo_ok X G (c.fact 26 (f := .glo "_law_held_right") rfl)
  obtain ⟨fd_by_sums, D_by_sums⟩ := c.def_ 27 (d := d_by_sums) rfl
  have h_by_sums := He.glo_ok X G (c.fact 27 (f := .glo "by_sums") rfl)
  obtain ⟨fd__law_sums_right, D__law_sums_right⟩ := c.def_ 28 (d := d__law_sums_right) rfl
  have h__law_sums_right := He.glo_ok X G (c.fact 28 (f := .glo "_law_sums_right") rfl)
  obtain ⟨fd_law, D_law⟩ := c.def_ 29 (d := d_law) rfl
  have m_int := He.free_ok X G (c.fact 30 (f := .free "int") rfl)
  have m_abs := He.free_ok X G (c.fact 31 (f := .free "abs") rfl)
  have m_len := He.free_ok X G (c.fact 32 (f := .free "len") rfl)
  have m_isinstance := He.free_ok X G (c.fact 33 (f := .free "isinstance") rfl)
  have m_bool := He.free_ok X G (c.fact 34 (f := .free "bool") rfl)
  obtain ⟨t_MOST_SIDE, g_MOST_SIDE⟩ := He.int_ok X G (c.fact 35 (f := .int "MOST_SIDE" 8) rfl)
  have m_tuple := He.free_ok X G (c.fact 36 (f := .free "tuple") rfl)
  have m_all := He.free_ok X G (c.fact 37 (f := .free "all") rfl)
  have m_range := He.free_ok X G (c.fact 38 (f := .free "range") rfl)
  have m_max := He.free_ok X G (c.fact 39 (f := .free "max") rfl)
  have m_min := He.free_ok X G (c.fact 40 (f := .free "min") rfl)
  obtain ⟨t_MOST_NUMBER, g_MOST_NUMBER⟩ := He.int_ok X G (c.fact 41 (f := .int "MOST_NUMBER" 1000000000000000000000000000000000000000000000000000000000000) rfl)
  have m_enumerate := He.free_ok X G (c.fact 42 (f := .free "enumerate") rfl)
  have m_repr := He.free_ok X G (c.fact 43 (f := .free "repr") rfl)
  have m_any := He.free_ok X G (c.fact 44 (f := .free "any") rfl)
  have m_zip := He.free_ok X G (c.fact 45 (f := .free "zip") rfl)
  have e := hfa.symm.trans (He.glo_ok X G (c.fact 29 (f := .glo "law") rfl))
  cases e
  refine ⟨fd_law, fun s v => FunD.bindsA (ps := ["script"]) D_law (fun _ _ _ _ _ _ us hl => match us, hl with | [_], _ => rfl) s [v] rfl, fun base _ _ => ?_⟩
  have c__law_hand := ok__law_hand (P := P) (w := w) (base := base) D__law_hand h__law_hand m_int m_abs m_len
  have c_is_integer := ok_is_integer (P := P) (w := w) (base := base) D_is_integer h_is_integer m_isinstance m_int m_bool
  have c_is_within := ok_is_within (P := P) (w := w) (base := base) D_is_within h_is_within c_is_integer
  have c_check_sides := ok_check_sides (P := P) (w := w) (base := base) D_check_sides h_check_sides g_MOST_SIDE c_is_within
  have c_is_tuple := ok_is_tuple (P := P) (w := w) (base := base) D_is_tuple h_is_tuple m_isinstance m_tuple m_len
  have c_is_heights := ok_is_heights (P := P) (w := w) (base := base) D_is_heights h_is_heights m_all m_range m_abs c_check_sides c_is_tuple c_is_within
  have c_check_heights := ok_check_heights (P := P) (w := w) (base := base) D_check_heights h_check_heights c_is_heights
  have c_is_up_down := ok_is_up_down (P := P) (w := w) (base := base) D_is_up_down h_is_up_down m_max m_min
  have c_around := ok_around (P := P) (w := w) (base := base) D_around h_around
  have c_line_of := ok_line_of (P := P) (w := w) (base := base) D_line_of h_line_of m_len m_range c_around
  have c_line_told := ok_line_told (P := P) (w := w) (base := base) D_line_told h_line_told m_tuple c_check_heights c_is_up_down c_line_of
  have c__law_draw := ok__law_draw (P := P) (w := w) (base := base) D__law_draw h__law_draw m_len m_int
  have c_check_number := ok_check_number (P := P) (w := w) (base := base) D_check_number h_check_number g_MOST_NUMBER c_is_within
  have c_digits := ok_digits (P := P) (w := w) (base := base) D_digits h_digits m_range
  have c_drawn_heights := ok_drawn_heights (P := P) (w := w) (base := base) D_drawn_heights h_drawn_heights m_max m_tuple c_check_number c_is_within c_digits
  have c_noughts := ok_noughts (P := P) (w := w) (base := base) D_noughts h_noughts m_range c_check_heights
  have c_is_left_right := ok_is_left_right (P := P) (w := w) (base := base) D_is_left_right h_is_left_right m_max m_min
  have c_turned := ok_turned (P := P) (w := w) (base := base) D_turned h_turned m_range m_tuple c_check_heights
  have c__law_plain_right := ok__law_plain_right (P := P) (w := w) (base := base) D__law_plain_right h__law_plain_right m_enumerate m_max m_min m_repr c__law_draw c_drawn_heights c_is_heights c_noughts c_is_up_down c_is_left_right c_turned
  have c__law_walk := ok__law_walk (P := P) (w := w) (base := base) D__law_walk h__law_walk m_range c__law_draw
  have c__law_steep := ok__law_steep (P := P) (w := w) (base := base) D__law_steep h__law_steep m_max m_range m_min m_tuple c__law_walk c__law_draw
  have c_is_line := ok_is_line (P := P) (w := w) (base := base) D_is_line h_is_line m_all m_len m_any m_zip c_check_heights c_is_tuple c_is_within c_around
  have c__law_about := ok__law_about (P := P) (w := w) (base := base) D__law_about h__law_about m_abs m_max
  have c_both_noughts := ok_both_noughts (P := P) (w := w) (base := base) D_both_noughts h_both_noughts m_range c_check_heights
  have c_common := ok_common (P := P) (w := w) (base := base) D_common h_common c_check_heights c_is_up_down c_is_left_right c_both_noughts
  have c_backed := ok_backed (P := P) (w := w) (base := base) D_backed h_backed m_tuple c_check_heights
  have c__law_held_right := ok__law_held_right (P := P) (w := w) (base := base) D__law_held_right h__law_held_right m_any m_zip m_all c__law_draw c__law_steep c_turned c_is_up_down c_is_left_right c_line_told c_is_line c__law_about c_noughts c_both_noughts c_common c_backed
  have c_by_sums := ok_by_sums (P := P) (w := w) (base := base) D_by_sums h_by_sums m_all m_zip m_abs m_max m_tuple g_MOST_SIDE c_is_tuple c_is_within
  have c__law_sums_right := ok__law_sums_right (P := P) (w := w) (base := base) D__law_sums_right h__law_sums_right m_range m_tuple m_enumerate m_max m_len c__law_draw c_by_sums c_is_heights
  exact ok_law D_law m_range m_all c__law_hand c_line_told c__law_plain_right c__law_held_right c__law_sums_right
end K95
local macro_rules
  | `(tactic| push_cast [$ts,*] $[$l:location]?) => `(tactic| simp only [DR.bind_ok, DR.bind_bad, DR.bind_exc, DR.noX_ok, DR.isi_int_int, DR.isi_int_bool, DR.isi_tup_tup, DR.isi_lst_lst, DR.isi_lst_tup, DR.isi_tup_lst, DR.subI_ok, DR.ltI_ok, DR.leI_ok, DR.gtI_ok, DR.geI_ok, DR.cmpI_ok, DR.max2_ok, DR.min2_ok, DR.eq_int, DR.seqS_ap, DR.kSeq_nx, DR.kSeq_rt, DR.kSeq_bk, DR.kSeq_ct, DR.retS_ap, DR.kRet_ap, DR.retN_ap, DR.exprS_ap, DR.kNx_ap, DR.ifS_ap, DR.ifE_ap, DR.ifO_ap, DR.kIf_t, DR.kIf_f, DR.badS_ap, DR.nextS_ap, DR.setS_ap, DR.kSet_v, DR.kSet_o, DR.cellS_ap, DR.kCell_ap, DR.parS_ap, DR.kPar_2, DR.kPar_3, DR.kPar_4, DR.putSl_v, DR.putSl_o, DR.asgS_ap, DR.kAsg_ap, DR.kAsg2_ap, DR.asgT_nm, DR.asgT_tp, DR.asgTs_nil, DR.asgTs_nm, DR.augS_ap, DR.kAug_ap, DR.kAug1_ap, DR.kAug2_ap, DR.nameE_ap, DR.kNm_v, DR.kNm_o, DR.nameB_ap, DR.kNb_o, DR.kNb_v, DR.kNc_cell, DR.kNd_ap, DR.kNc_int, DR.kNc_bl, DR.kNc_non, DR.kNc_str, DR.kNc_tup, DR.kNc_lst, DR.kNc_scr, DR.kNc_dK, DR.kNc_dT, DR.kNc_ins, DR.kMod_o, DR.kMod_c, DR.kMc_ap, DR.kMo_ap, DR.kMd_ap, DR.appE_ap, DR.kAp_ap, DR.kAp2_ap, DR.setIxS_ap, DR.kSi_ap, DR.kSi2_ap, DR.kSi3_ap, DR.augIxS_ap, DR.kAx_ap, DR.kAx1_ap, DR.kAx1b_ap, DR.kAx2_ap, DR.kAx3_ap, DR.kAx4_ap, DR.sharedE_ap, DR.kSh_ap, DR.plainE_ap, DR.kPl_ap, DR.constE_ap, DR.nilA_ap, DR.consA_ap, DR.kCo_ap, DR.kCo2_ap, DR.nilL_ap, DR.consL_ap, DR.tupE_ap, DR.lstE_ap, DR.kTu_ap, DR.kLs_ap, DR.kOp_ap, DR.kOp_no, DR.binO_ap, DR.kBi_ap, DR.kBi2_ap, DR.binE_ap, DR.kBe_ap, DR.kBe2_ap, DR.chainE_ap, DR.kCh_ap, DR.kCh2_ap, DR.kCh3_t, DR.kCh3_f, DR.kCh4_ap, DR.testE_ap, DR.toB_ap, DR.andE_ap, DR.orE_ap, DR.notE_ap, DR.kAnd_t, DR.kAnd_f, DR.kOr_t, DR.kOr_f, DR.kNot_ap, DR.andT_ap, DR.orT_ap, DR.notT_ap, DR.kAndT_t, DR.kAndT_f, DR.kOrT_t, DR.kOrT_f, DR.kNotT_ap, DR.negE_ap, DR.kNeg_ap, DR.callO_ap, DR.kCall_ap, DR.kFr_ap, DR.kFr_exc, DR.un1O_ap, DR.kUn_ap, DR.un1E_ap, DR.kUe_ap, DR.lenG_lst, DR.lenG_tup, DR.lenG_scr, DR.tupG_lst, DR.tupG_tup, DR.listG_lst, DR.listG_tup, DR.intG_int, DR.intG_bl, DR.ixN_ap, DR.kIx_ap, DR.kIx2_ap, DR.kIx3_ap, DR.ixE_ap, DR.kIe_ap, DR.kIe2_ap, DR.noQ_ap, DR.someQ_ap, DR.kSq_ap, DR.cutO_ap, DR.kCt_ap, DR.kCt2_ap, DR.kCt3_ap, DR.cutN_ap, DR.kCn_ap, DR.kCn2_ap, DR.kCn3_ap, DR.kCn4_ap, DR.newK_ap, DR.newT_ap, DR.seqI_ap, DR.seqP_lst, DR.seqP_tup, DR.seqP_scr, DR.range1I_ap, DR.range2I_ap, DR.kR2_ap, DR.forS_ap, DR.bodyF_ap, DR.kBody_rt, DR.kBody_nx, DR.kBody_exc, DR.yesT_ap, DR.ix0, DR.ix1, DR.forL_nil, DR.forL_ap, DR.kFor_ap, DR.kFor2_nx, DR.kFor2_ct, DR.kFor2_bk, DR.kFor2_rt, DR.lenA_lst, DR.lenA_tup, DR.lenA_scr, DR.lenA_dK, DR.lenA_dT, DR.pow_10_18, DR.thenD_ap, DR.kDem_nx, DR.demSl_o, DR.demSl_v, DR.demSl_n, TM.eI_ap, TM.eB_ap, TM.eN_ap, TM.eS_ap, TM.eL_ap, TM.eU_ap, TM.eP2_ap, TM.eP3_ap, TM.eP4_ap, TM.eO_none, TM.eO_some, TM.s_set0, TM.s_setS, TM.s_lc, TM.s_ln, TM.s_na, TM.s_ca, TM.s_an, TM.s_mc, TM.s_mn, TM.s_ma, TM.s_lm, TM.s_r0, TM.s_rS, TM.s_dt, TM.s_df, TM.s_nt, TM.s_nf, TM.s_ta, TM.s_fa, TM.s_at, TM.s_af, TM.s_to, TM.s_fo, TM.s_ot, TM.s_of, TM.s_fx, TM.s_tx, TM.s_it, TM.s_if, TM.s_tt, TM.s_ft, TM.s_tf, TM.s_ff, TM.s_nT, TM.s_nF, TM.s_om, TM.s_omn, TM.s_ob, TM.s_eta, TM.s_p1, TM.s_p2, TM.s_frameE, TM.s_wipe0, TM.s_wipeS, TM.s_rest0, TM.s_restS, TM.s_rest1n, TM.s_rest1v, TM.s_rest1o, TM.s_gd0, TM.s_gdS, TM.s_c0, TM.s_c1, TM.s_c2, TM.s_c3, TM.s_c4, TM.s_c5, TM.s_c6, TM.s_c7, TM.s_c8, TM.s_c9, TM.s_c10, TM.s_c11, TM.s_c12, TM.absG_t, TM.modO_pos, TM.modI_t, TM.divO_pos, TM.fdivI_t, TM.mulT_l, TM.mulT_r, TM.mulO_t, TM.addI_t, TM.addO_t, TM.ixG_L, TM.ixG_U, TM.ixG_S, TM.lixG_L, TM.ixT0, TM.ixT1, TM.ixT2, TM.ixT3, TM.ixTm2, TM.ixTm3, TM.addO_L, TM.addO_U, TM.mulO_L, TM.cutG_L, TM.cutG_S, TM.cutG_U, TM.revG_L, TM.allG_t, TM.anyG_t, TM.sumG_t, TM.maxA_L, TM.minA_L, TM.maxA_U, TM.minA_U, TM.reO_some, TM.kR1_t, TM.kR2_t, TM.eq_I, TM.eq_B, TM.is_non, TM.is_int, TM.is_tup, TM.is_lst, TM.is_str, TM.is_bl0, TM.is_bl, TM.ixDI, TM.ixDS, TM.ixD2, TM.ixD3, TM.ixDU, TM.inDI, TM.inDS, TM.inD2, TM.inD3, TM.inDU, TM.kNc_DI, TM.kNc_DS, TM.kNc_D2, TM.kNc_D3, TM.kNc_DU, TM.lenDI, TM.lenDS, TM.lenD2, TM.lenD3, TM.lenDU, DR.revA_L, DR.revA_U, DR.extE_ap, DR.kEx_ap, DR.kEx2_ap, DR.popE_ap, DR.kPp_ap, DR.enumAI_ap, DR.kEnA_l, DR.kEnA_t, DR.zipI_ap, DR.kZi_ap, DR.kZi2_l, DR.kZi2_t, DR.reprG_b, $ts,*] $[$l]?)
set_option maxHeartbeats 4000000
noncomputable section
namespace K95
open PySem DR TM
def Hd : Type := {h : PV // HandOk h}
theorem draw_a (cells : List PV) (a b c d m : Int) (hm : 0 < m) (hm2 : m < 1073741824) (hb : 0 < b) : F__law_draw [.cell 0, .int m] [HandP cells a b c d] = .ok (.int (b % m)) false [HandP cells a (b / m) c d] := by
  have hb0 : ¬ b = 0 := by omega
  push_cast [F__law_draw, b__law_draw, HandP, te0__law_draw, jf0__law_draw, jf1__law_draw, ixG_lst, setU_lst, lixG_ok, pow_10_18, t_and, i_andT, Nat.reduceAdd, Nat.reduceSub, Nat.reduceLT, Nat.reduceLeDiff, Int.reduceLT, Int.reduceLE, Int.reduceNeg, Int.reducePow, Int.reduceToNat, hb, hb0, modO_pos hm, divO_pos hm hm2]
theorem draw_b (cells : List PV) (a c d m : Int) (hm : 0 < m) (ha : ¬ a < cells.length) : ∃ r, F__law_draw [.cell 0, .int m] [HandP cells a 0 c d] = .ok (.int (r % m)) false [HandP cells a 0 c (d + 1)] := by
  apply Exists.intro
  push_cast [F__law_draw, b__law_draw, HandP, te0__law_draw, jf0__law_draw, jf1__law_draw, ixG_lst, setU_lst, lixG_ok, pow_10_18, t_and, i_andT, Nat.reduceAdd, Nat.reduceSub, Nat.reduceLT, Nat.reduceLeDiff, Int.reduceLT, Int.reduceLE, Int.reduceNeg, Int.reducePow, Int.reduceToNat, ha, modO_pos hm, mulT_mod, Int.lt_irrefl]
  rfl
theorem draw_c (cells : List PV) (a c d m x : Int) (hm : 0 < m) (hm2 : m < 1073741824) (ha : a < cells.length) (hx : ixG (.lst cells) (.int a) = some (.int x)) (h18 : 1000000000000000000 ≤ x) : F__law_draw [.cell 0, .int m] [HandP cells a 0 c d] = .ok (.int (x % m)) false [HandP cells (a + 1) (x / m) ((c * 69621 + x * 40692 + 95) % 2147483629) d] := by
  have hx0 : (0 : Int) < x := by omega
  push_cast [F__law_draw, b__law_draw, HandP, hx, te0__law_draw, jf0__law_draw, jf1__law_draw, ixG_lst, setU_lst, lixG_ok, pow_10_18, t_and, i_andT, Nat.reduceAdd, Nat.reduceSub, Nat.reduceLT, Nat.reduceLeDiff, Int.reduceLT, Int.reduceLE, Int.reduceNeg, Int.reducePow, Int.reduceToNat, ha, modO_pos hm, divO_pos hm hm2, h18, hx0]
theorem draw_d (cells : List PV) (a c d m x : Int) (hm : 0 < m) (ha : a < cells.length) (hx : ixG (.lst cells) (.int a) = some (.int x)) (h18 : ¬ 1000000000000000000 ≤ x) : ∃ r, F__law_draw [.cell 0, .int m] [HandP cells a 0 c d] = .ok (.int (r % m)) false [HandP cells (a + 1) 0 ((c * 69621 + x * 40692 + 95) % 2147483629) (d + 1)] := by
  apply Exists.intro
  push_cast [F__law_draw, b__law_draw, HandP, hx, te0__law_draw, jf0__law_draw, jf1__law_draw, ixG_lst, setU_lst, lixG_ok, pow_10_18, t_and, i_andT, Nat.reduceAdd, Nat.reduceSub, Nat.reduceLT, Nat.reduceLeDiff, Int.reduceLT, Int.reduceLE, Int.reduceNeg, Int.reducePow, Int.reduceToNat, ha, modO_pos hm, mulT_mod, h18, Int.lt_irrefl]
  rfl
theorem draw_ex (hd : Hd) (m : Int) (h : 0 < m ∧ m < 1073741824) : ∃ q : Int × Hd, F__law_draw [.cell 0, .int m] [hd.1] = .ok (.int q.1) false [q.2.1] ∧ 0 ≤ q.1 ∧ q.1 < m := by
  obtain ⟨h0, xs, a, b, c, d, hx, ha, hb, rfl⟩ := hd
  obtain ⟨hm, hm2⟩ := h
  have md : ∀ y : Int, 0 ≤ y % m ∧ y % m < m := fun y => ⟨Int.emod_nonneg y (by omega), Int.emod_lt_of_pos y hm⟩
  by_cases b0 : 0 < b
  · exact ⟨(b % m, ⟨_, xs, a, b / m, c, d, hx, ha, Int.ediv_nonneg hb (by omega), rfl⟩), draw_a _ a b c d m hm hm2 b0, md b⟩
  · obtain rfl : b = 0 := by omega
    by_cases hl : a < (xs.map PV.int).length
    · have hl2 : a.toNat < xs.length := by
        rw [List.length_map] at hl
        omega
      have ix : ixG (.lst (xs.map .int)) (.int a) = some (.int (xs.getD a.toNat 0)) := by
        have := ix_lrow hl2
        rwa [Int.toNat_of_nonneg ha] at this
      by_cases h18 : 1000000000000000000 ≤ xs.getD a.toNat 0
      · exact ⟨(_, ⟨_, xs, a + 1, _, _, d, hx, by omega, Int.ediv_nonneg (by omega) (by omega), rfl⟩), draw_c _ a c d m _ hm hm2 hl ix h18, md _⟩
      · obtain ⟨r, e⟩ := draw_d _ a c d m _ hm hl ix h18
        exact ⟨(_, ⟨_, xs, a + 1, 0, _, d + 1, hx, by omega, by omega, rfl⟩), e, md _⟩
    · obtain ⟨r, e⟩ := draw_b _ a c d m hm hl
      exact ⟨(_, ⟨_, xs, a, 0, c, d + 1, hx, ha, by omega, rfl⟩), e, md _⟩
open Classical in
def m__law_draw (hd : Hd) (m : Int) : Option (Int × Hd) := if h : 0 < m ∧ m < 1073741824 then some (choose (draw_ex hd m h)) else none
theorem draw_sp {hd : Hd} {m : Int} {V : Int × Hd} (H : m__law_draw hd m = some V) : F__law_draw [.cell 0, .int m] [hd.1] = .ok (.int V.1) false [V.2.1] ∧ 0 ≤ V.1 ∧ V.1 < m := by
  unfold m__law_draw at H
  split at H
  · rename_i h
    cases H
    exact Classical.choose_spec (draw_ex hd m h)
  · cases H
theorem w__law_draw (hd : Hd) (m : Int) {V : Int × Hd} (H : m__law_draw hd m = some V) : F__law_draw [.cell 0, .int m] [hd.1] = .ok (.int V.1) false [V.2.1] := (draw_sp H).1
theorem draw_ok (hd : Hd) {m : Int} (h1 : 0 < m) (h2 : m < 1073741824) : ∃ V, m__law_draw hd m = some V ∧ 0 ≤ V.1 ∧ V.1 < m := by
  have e : m__law_draw hd m = some (Classical.choose (draw_ex hd m ⟨h1, h2⟩)) := dif_pos ⟨h1, h2⟩
  exact ⟨_, e, (draw_sp e).2⟩
theorem hand_ex (NS : List Int) (hl : NS.length ≤ 63) : ∃ hd : Hd, F__law_hand [.scr (NS.map .int)] [] = .ok hd.1 true [] := by
  have cut : cutP (NS.map PV.int) none (some (63 : Int)) = NS.map .int := by
    have e : HT.sIx (NS.map PV.int).length (NS.map PV.int).length (some (63 : Int)) = NS.length := by
      rw [List.length_map]
      show min 63 NS.length = NS.length
      omega
    unfold cutP
    rw [e]
    show ((NS.map PV.int).drop 0).take (NS.length - 0) = _
    rw [List.drop_zero]
    exact List.take_of_length_le (by rw [List.length_map]; omega)
  have c : cp0__law_hand ⟨[.val (.scr (NS.map .int)), .no, .no], []⟩ = .ok (.lst ((NS.map iabs).map .int), true) ⟨[.val (.scr (NS.map .int)), .no, .no], []⟩ := by
    refine (lcO_Q (E := PV.int) (F := PV.int) (g := iabs) (xs := NS) (ys := NS.map iabs) (e1 := [.val (.scr (NS.map .int)), .no, .no]) (t := []) ?_ ?_ fun x => ⟨[.val (.scr (NS.map .int)), .no, .val (.int x)], rfl, ⟨[.val (.scr (NS.map .int)), .no, .val (.int x)], []⟩, ?_, rfl, rfl⟩).trans rfl
    · have k : cutG (.scr (NS.map .int)) none (some (63 : Int)) = some (.lst (NS.map .int), true) := by
        show some (PV.lst _, true) = _
        rw [cut]
      push_cast [te0__law_draw, jf0__law_draw, jf1__law_draw, ixG_lst, setU_lst, lixG_ok, pow_10_18, t_and, i_andT, Nat.reduceAdd, Nat.reduceSub, Nat.reduceLT, Nat.reduceLeDiff, Int.reduceLT, Int.reduceLE, Int.reduceNeg, Int.reducePow, Int.reduceToNat, k]
    · have : 63 ≤ sizeLine := by decide
      exact if_pos (by rw [List.length_map]; omega)
    · push_cast [te0__law_draw, jf0__law_draw, jf1__law_draw, ixG_lst, setU_lst, lixG_ok, pow_10_18, t_and, i_andT, Nat.reduceAdd, Nat.reduceSub, Nat.reduceLT, Nat.reduceLeDiff, Int.reduceLT, Int.reduceLE, Int.reduceNeg, Int.reducePow, Int.reduceToNat]
  refine ⟨⟨HandP ((NS.map iabs).map .int) 0 0 (95 + 331 * (((NS.map iabs).map PV.int).length : Int)) 0, _, 0, 0, _, 0, ?_, by omega, by omega, rfl⟩, ?_⟩
  · intro x hx
    obtain ⟨i, _, rfl⟩ := List.mem_map.mp hx
    unfold iabs
    split <;> omega
  · show _ = FR.ok (HandP ((NS.map iabs).map .int) 0 0 (95 + 331 * (((NS.map iabs).map PV.int).length : Int)) 0) true []
    generalize (NS.map iabs).map PV.int = l at c
    push_cast [F__law_hand, b__law_hand, c, te0__law_draw, jf0__law_draw, jf1__law_draw, ixG_lst, setU_lst, lixG_ok, pow_10_18, t_and, i_andT, Nat.reduceAdd, Nat.reduceSub, Nat.reduceLT, Nat.reduceLeDiff, Int.reduceLT, Int.reduceLE, Int.reduceNeg, Int.reducePow, Int.reduceToNat, HandP]
theorem x0_is_integer_ok (thing : Int) (T : DT) : xe0_is_integer ⟨[.val (eI thing)], T⟩ = .ok (.bl true) ⟨[.val (eI thing)], T⟩ := by
  (push_cast [xe0_is_integer, t_and, t_or, e_and, e_or, i_andT, i_orT, i_andE, i_orE, i_int, k_if, k_ch3, Nat.reduceAdd, Nat.reduceSub, Nat.reduceLT, Nat.reduceLeDiff, Int.reduceLT, Int.reduceLE, Int.reduceNeg, Int.reducePow, Int.reduceToNat]; try with_reducible rfl)
def m_is_integer (thing : Int) : Bool :=
  true
theorem w_is_integer (thing : Int) (T : DT) {V : Bool} (H : m_is_integer thing = V) : F_is_integer [eI thing] T = .ok (eB V) false T := by
  unfold m_is_integer at H
  have K_1 := x0_is_integer_ok thing T
  try push_cast [DR.bind_ok] at K_1
  subst H
  (push_cast [F_is_integer, b_is_integer, K_1, Nat.reduceAdd, Nat.reduceSub, Nat.reduceLT, Nat.reduceLeDiff, Int.reduceLT, Int.reduceLE, Int.reduceNeg, Int.reducePow, Int.reduceToNat]; try with_reducible rfl)
theorem x1_is_within_ok (thing : Int) (least : Int) (most : Int) (T : DT) : xe0_is_within ⟨[.val (eI thing), .val (eI least), .val (eI most)], T⟩ = .ok (.bl ((decide (least ≤ thing)) && (decide (thing ≤ most)))) ⟨[.val (eI thing), .val (eI least), .val (eI most)], T⟩ := by
  (push_cast [xe0_is_within, t_and, t_or, e_and, e_or, i_andT, i_orT, i_andE, i_orE, i_int, k_if, k_ch3, Nat.reduceAdd, Nat.reduceSub, Nat.reduceLT, Nat.reduceLeDiff, Int.reduceLT, Int.reduceLE, Int.reduceNeg, Int.reducePow, Int.reduceToNat]; try with_reducible rfl)
theorem x0_is_within_ok (thing : Int) (least : Int) (most : Int) (T : DT) : xe1_is_within ⟨[.val (eI thing), .val (eI least), .val (eI most)], T⟩ = .ok (.bl ((m_is_integer thing) && ((decide (least ≤ thing)) && (decide (thing ≤ most))))) ⟨[.val (eI thing), .val (eI least), .val (eI most)], T⟩ := by
  have K_1 : F_is_integer [(.int thing)] T = .ok (.bl (m_is_integer thing)) false T := w_is_integer thing T rfl
  have K_2 := x1_is_within_ok thing least most T
  try push_cast [DR.bind_ok] at K_2
  (push_cast [xe1_is_within, K_1, K_2, t_and, t_or, e_and, e_or, i_andT, i_orT, i_andE, i_orE, i_int, k_if, k_ch3, Nat.reduceAdd, Nat.reduceSub, Nat.reduceLT, Nat.reduceLeDiff, Int.reduceLT, Int.reduceLE, Int.reduceNeg, Int.reducePow, Int.reduceToNat]; try with_reducible rfl)
def m_is_within (thing : Int) (least : Int) (most : Int) : Bool :=
  ((m_is_integer thing) && ((decide (least ≤ thing)) && (decide (thing ≤ most))))
theorem w_is_within (thing : Int) (least : Int) (most : Int) (T : DT) {V : Bool} (H : m_is_within thing least most = V) : F_is_within [eI thing, eI least, eI most] T = .ok (eB V) false T := by
  unfold m_is_within at H
  have K_3 := x0_is_within_ok thing least most T
  try push_cast [DR.bind_ok] at K_3
  subst H
  (push_cast [F_is_within, b_is_within, K_3, Nat.reduceAdd, Nat.reduceSub, Nat.reduceLT, Nat.reduceLeDiff, Int.reduceLT, Int.reduceLE, Int.reduceNeg, Int.reducePow, Int.reduceToNat]; try with_reducible rfl)
theorem x0_check_sides_ok (high : Int) (wide : Int) (T : DT) : te0_check_sides ⟨[.val (eI high), .val (eI wide)], T⟩ = .ok ((!(m_is_within high 2 8)) || (!(m_is_within wide 2 8))) ⟨[.val (eI high), .val (eI wide)], T⟩ := by
  have K_1 : F_is_within [(.int high), (.int 2), (.int 8)] T = .ok (.bl (m_is_within high 2 8)) false T := w_is_within high 2 8 T rfl
  have K_2 : F_is_within [(.int wide), (.int 2), (.int 8)] T = .ok (.bl (m_is_within wide 2 8)) false T := w_is_within wide 2 8 T rfl
  (push_cast [te0_check_sides, K_1, K_2, t_and, t_or, e_and, e_or, i_andT, i_orT, i_andE, i_orE, i_int, k_if, k_ch3, Nat.reduceAdd, Nat.reduceSub, Nat.reduceLT, Nat.reduceLeDiff, Int.reduceLT, Int.reduceLE, Int.reduceNeg, Int.reducePow, Int.reduceToNat]; try with_reducible rfl)
def m_check_sides (high : Int) (wide : Int) : Option Unit :=
  if ((!(m_is_within high 2 8)) || (!(m_is_within wide 2 8))) = true then
    none
  else
  some ()
theorem w_check_sides (high : Int) (wide : Int) (T : DT) {V : Unit} (H : m_check_sides high wide = some V) : F_check_sides [eI high, eI wide] T = .ok (eN V) false T := by
  unfold m_check_sides at H
  have K_3 := x0_check_sides_ok high wide T
  try push_cast [DR.bind_ok] at K_3
  rcases iteB_inv H with ⟨C_4, H⟩ | ⟨C_4, H⟩
  · -- +
    cases H
  · -- -
    obtain rfl := Option.some.inj H
    (push_cast [F_check_sides, b_check_sides, K_3, C_4, Nat.reduceAdd, Nat.reduceSub, Nat.reduceLT, Nat.reduceLeDiff, Int.reduceLT, Int.reduceLE, Int.reduceNeg, Int.reducePow, Int.reduceToNat]; try with_reducible rfl)
theorem x1_is_tuple_ok (thing : (Int × Int) × (Int × Int)) (least : Int) (most : Int) (T : DT) : xe0_is_tuple ⟨[.val ((eP2 (eP2 eI eI) (eP2 eI eI)) thing), .val (eI least), .val (eI most)], T⟩ = .ok (.bl ((decide (least ≤ 2)) && (decide (2 ≤ most)))) ⟨[.val ((eP2 (eP2 eI eI) (eP2 eI eI)) thing), .val (eI least), .val (eI most)], T⟩ := by
  (push_cast [xe0_is_tuple, t_and, t_or, e_and, e_or, i_andT, i_orT, i_andE, i_orE, i_int, k_if, k_ch3, Nat.reduceAdd, Nat.reduceSub, Nat.reduceLT, Nat.reduceLeDiff, Int.reduceLT, Int.reduceLE, Int.reduceNeg, Int.reducePow, Int.reduceToNat]; try with_reducible rfl)
theorem x0_is_tuple_ok (thing : (Int × Int) × (Int × Int)) (least : Int) (most : Int) (T : DT) : xe1_is_tuple ⟨[.val ((eP2 (eP2 eI eI) (eP2 eI eI)) thing), .val (eI least), .val (eI most)], T⟩ = .ok (.bl ((decide (least ≤ 2)) && (decide (2 ≤ most)))) ⟨[.val ((eP2 (eP2 eI eI) (eP2 eI eI)) thing), .val (eI least), .val (eI most)], T⟩ := by
  have K_1 := x1_is_tuple_ok thing least most T
  try push_cast [DR.bind_ok] at K_1
  (push_cast [xe1_is_tuple, K_1, t_and, t_or, e_and, e_or, i_andT, i_orT, i_andE, i_orE, i_int, k_if, k_ch3, Nat.reduceAdd, Nat.reduceSub, Nat.reduceLT, Nat.reduceLeDiff, Int.reduceLT, Int.reduceLE, Int.reduceNeg, Int.reducePow, Int.reduceToNat]; try with_reducible rfl)
def m_is_tuple (thing : (Int × Int) × (Int × Int)) (least : Int) (most : Int) : Bool :=
  ((decide (least ≤ 2)) && (decide (2 ≤ most)))
theorem w_is_tuple (thing : (Int × Int) × (Int × Int)) (least : Int) (most : Int) (T : DT) {V : Bool} (H : m_is_tuple thing least most = V) : F_is_tuple [(eP2 (eP2 eI eI) (eP2 eI eI)) thing, eI least, eI most] T = .ok (eB V) false T := by
  unfold m_is_tuple at H
  have K_2 := x0_is_tuple_ok thing least most T
  try push_cast [DR.bind_ok] at K_2
  subst H
  (push_cast [F_is_tuple, b_is_tuple, K_2, Nat.reduceAdd, Nat.reduceSub, Nat.reduceLT, Nat.reduceLeDiff, Int.reduceLT, Int.reduceLE, Int.reduceNeg, Int.reducePow, Int.reduceToNat]; try with_reducible rfl)
theorem x1_is_tuple_1_ok (thing : Int × Int) (least : Int) (most : Int) (T : DT) : xe0_is_tuple ⟨[.val ((eP2 eI eI) thing), .val (eI least), .val (eI most)], T⟩ = .ok (.bl ((decide (least ≤ 2)) && (decide (2 ≤ most)))) ⟨[.val ((eP2 eI eI) thing), .val (eI least), .val (eI most)], T⟩ := by
  (push_cast [xe0_is_tuple, t_and, t_or, e_and, e_or, i_andT, i_orT, i_andE, i_orE, i_int, k_if, k_ch3, Nat.reduceAdd, Nat.reduceSub, Nat.reduceLT, Nat.reduceLeDiff, Int.reduceLT, Int.reduceLE, Int.reduceNeg, Int.reducePow, Int.reduceToNat]; try with_reducible rfl)
theorem x0_is_tuple_1_ok (thing : Int × Int) (least : Int) (most : Int) (T : DT) : xe1_is_tuple ⟨[.val ((eP2 eI eI) thing), .val (eI least), .val (eI most)], T⟩ = .ok (.bl ((decide (least ≤ 2)) && (decide (2 ≤ most)))) ⟨[.val ((eP2 eI eI) thing), .val (eI least), .val (eI most)], T⟩ := by
  have K_1 := x1_is_tuple_1_ok thing least most T
  try push_cast [DR.bind_ok] at K_1
  (push_cast [xe1_is_tuple, K_1, t_and, t_or, e_and, e_or, i_andT, i_orT, i_andE, i_orE, i_int, k_if, k_ch3, Nat.reduceAdd, Nat.reduceSub, Nat.reduceLT, Nat.reduceLeDiff, Int.reduceLT, Int.reduceLE, Int.reduceNeg, Int.reducePow, Int.reduceToNat]; try with_reducible rfl)
def m_is_tuple_1 (thing : Int × Int) (least : Int) (most : Int) : Bool :=
  ((decide (least ≤ 2)) && (decide (2 ≤ most)))
theorem w_is_tuple_1 (thing : Int × Int) (least : Int) (most : Int) (T : DT) {V : Bool} (H : m_is_tuple_1 thing least most = V) : F_is_tuple [(eP2 eI eI) thing, eI least, eI most] T = .ok (eB V) false T := by
  unfold m_is_tuple_1 at H
  have K_2 := x0_is_tuple_1_ok thing least most T
  try push_cast [DR.bind_ok] at K_2
  subst H
  (push_cast [F_is_tuple, b_is_tuple, K_2, Nat.reduceAdd, Nat.reduceSub, Nat.reduceLT, Nat.reduceLeDiff, Int.reduceLT, Int.reduceLE, Int.reduceNeg, Int.reducePow, Int.reduceToNat]; try with_reducible rfl)
theorem c0_is_heights_ok (Z0 : Sl) (wide : Int) (thing : (Int × Int) × (Int × Int)) (T : DT) (XS : List (Int × Int)) (HX : (seqI (nameE 2)) ⟨[Z0, .val (eI wide), .val ((eP2 (eP2 eI eI) (eP2 eI eI)) thing), .no, .no, .no, .no, .no, .no], T⟩ = .ok (XS.map (eP2 eI eI)) ⟨[Z0, .val (eI wide), .val ((eP2 (eP2 eI eI) (eP2 eI eI)) thing), .no, .no, .no, .no, .no, .no], T⟩) {Y : List Bool} (H : lenO (XS.map fun Y0 => (m_is_tuple_1 Y0 wide wide)) = some Y) : cp0_is_heights ⟨[Z0, .val (eI wide), .val ((eP2 (eP2 eI eI) (eP2 eI eI)) thing), .no, .no, .no, .no, .no, .no], T⟩ = .ok (.lst (Y.map eB), true) ⟨[Z0, .val (eI wide), .val ((eP2 (eP2 eI eI) (eP2 eI eI)) thing), .no, .no, .no, .no, .no, .no], T⟩ := by
  refine (lcO_Q (E := (eP2 eI eI)) (F := eB) (g := fun Y0 => (m_is_tuple_1 Y0 wide wide)) HX H fun Y0 => ⟨[Z0, .val (eI wide), .val ((eP2 (eP2 eI eI) (eP2 eI eI)) thing), .no, .no, .no, .no, .val ((eP2 eI eI) Y0), .no], rfl, ⟨[Z0, .val (eI wide), .val ((eP2 (eP2 eI eI) (eP2 eI eI)) thing), .no, .no, .no, .no, .val ((eP2 eI eI) Y0), .no], T⟩, ?_, rfl, rfl⟩).trans (by rfl)
  have K_4 : F_is_tuple [(.tup false [(.int Y0.1), (.int Y0.2)]), (.int wide), (.int wide)] T = .ok (.bl (m_is_tuple_1 Y0 wide wide)) false T := w_is_tuple_1 Y0 wide wide T rfl
  (push_cast [K_4, t_and, t_or, e_and, e_or, i_andT, i_orT, i_andE, i_orE, i_int, k_if, k_ch3, Nat.reduceAdd, Nat.reduceSub, Nat.reduceLT, Nat.reduceLeDiff, Int.reduceLT, Int.reduceLE, Int.reduceNeg, Int.reducePow, Int.reduceToNat]; try with_reducible rfl)
def x0_is_heights (high : Int) (wide : Int) (thing : (Int × Int) × (Int × Int)) : Option Bool :=
  if (!(m_is_tuple thing high high)) = true then
    some true
  else
  (lenO (([thing.1, thing.2]).map fun Y0 => (m_is_tuple_1 Y0 wide wide))).bind fun y_5 =>
  some (!(y_5.all id))
theorem x0_is_heights_ok (high : Int) (wide : Int) (thing : (Int × Int) × (Int × Int)) (T : DT) {W : Bool} (H : x0_is_heights high wide thing = some W) : te0_is_heights ⟨[.val (eI high), .val (eI wide), .val ((eP2 (eP2 eI eI) (eP2 eI eI)) thing), .no, .no, .no, .no, .no, .no], T⟩ = .ok W ⟨[.val (eI high), .val (eI wide), .val ((eP2 (eP2 eI eI) (eP2 eI eI)) thing), .no, .no, .no, .no, .no, .no], T⟩ := by
  unfold x0_is_heights at H
  have K_2 : F_is_tuple [(.tup false [(.tup false [(.int thing.1.1), (.int thing.1.2)]), (.tup false [(.int thing.2.1), (.int thing.2.2)])]), (.int high), (.int high)] T = .ok (.bl (m_is_tuple thing high high)) false T := w_is_tuple thing high high T rfl
  rcases iteB_inv H with ⟨C_3, H⟩ | ⟨C_3, H⟩
  · -- +
    obtain rfl := Option.some.inj H
    (push_cast [te0_is_heights, K_2, C_3, Nat.reduceAdd, Nat.reduceSub, Nat.reduceLT, Nat.reduceLeDiff, Int.reduceLT, Int.reduceLE, Int.reduceNeg, Int.reducePow, Int.reduceToNat]; try with_reducible rfl)
  · -- -
    obtain ⟨y_5, Hy_5, H⟩ := Option.bind_eq_some_iff.mp H
    have K_6 : (seqI (nameE 2)) ⟨[.val (eI high), .val (eI wide), .val ((eP2 (eP2 eI eI) (eP2 eI eI)) thing), .no, .no, .no, .no, .no, .no], T⟩ = .ok (([thing.1, thing.2]).map (eP2 eI eI)) ⟨[.val (eI high), .val (eI wide), .val ((eP2 (eP2 eI eI) (eP2 eI eI)) thing), .no, .no, .no, .no, .no, .no], T⟩ := by (push_cast [K_2, C_3, Nat.reduceAdd, Nat.reduceSub, Nat.reduceLT, Nat.reduceLeDiff, Int.reduceLT, Int.reduceLE, Int.reduceNeg, Int.reducePow, Int.reduceToNat]; try with_reducible rfl)
    have Ky_5 := c0_is_heights_ok (.val (eI high)) wide thing T ([thing.1, thing.2]) K_6 Hy_5
    try push_cast [DR.bind_ok] at Ky_5
    obtain rfl := Option.some.inj H
    (push_cast [te0_is_heights, K_2, C_3, Ky_5, Nat.reduceAdd, Nat.reduceSub, Nat.reduceLT, Nat.reduceLeDiff, Int.reduceLT, Int.reduceLE, Int.reduceNeg, Int.reducePow, Int.reduceToNat]; try with_reducible rfl)
def a1_is_heights (thing : (Int × Int) × (Int × Int)) (Y1 : Int × Int) : Option (Option (List Int)) :=
  some (some ([Y1.1, Y1.2]))
def b1_is_heights (thing : (Int × Int) × (Int × Int)) (Y1 : Int × Int) (Z1y : Int) : Option (Option Bool) :=
  some (some (m_is_within Z1y (-100) 100))
theorem c1_is_heights_in (Z0 : Sl) (Z1 : Sl) (thing : (Int × Int) × (Int × Int)) (T : DT) (Y1 : Int × Int) (Z1y : Int) {V : Option Bool} (H : b1_is_heights thing Y1 Z1y = some V) : ItemOk yesT (plainE (callO F_is_within (consA (nameE 8) (consA (negE (constE (.int 100))) (consA (constE (.int 100)) nilA))))) [8] (wipeE [8] [Z0, Z1, .val ((eP2 (eP2 eI eI) (eP2 eI eI)) thing), .no, .no, .no, .no, .val ((eP2 eI eI) Y1), .no]) eB ⟨[Z0, Z1, .val ((eP2 (eP2 eI eI) (eP2 eI eI)) thing), .no, .no, .no, .no, .val ((eP2 eI eI) Y1), .val (eI Z1y)], T⟩ T V := by
  unfold b1_is_heights at H
  have K_9 : F_is_within [(.int Z1y), (.int (-100)), (.int 100)] T = .ok (.bl (m_is_within Z1y (-100) 100)) false T := w_is_within Z1y (-100) 100 T rfl
  obtain rfl := Option.some.inj H
  refine ⟨⟨[Z0, Z1, .val ((eP2 (eP2 eI eI) (eP2 eI eI)) thing), .no, .no, .no, .no, .val ((eP2 eI eI) Y1), .val (eI Z1y)], T⟩, ⟨[Z0, Z1, .val ((eP2 (eP2 eI eI) (eP2 eI eI)) thing), .no, .no, .no, .no, .val ((eP2 eI eI) Y1), .val (eI Z1y)], T⟩, ?_, ?_, rfl, rfl⟩
  · (push_cast [K_9, Nat.reduceAdd, Nat.reduceSub, Nat.reduceLT, Nat.reduceLeDiff, Int.reduceLT, Int.reduceLE, Int.reduceNeg, Int.reducePow, Int.reduceToNat]; try with_reducible rfl)
  · (push_cast [K_9, Nat.reduceAdd, Nat.reduceSub, Nat.reduceLT, Nat.reduceLeDiff, Int.reduceLT, Int.reduceLE, Int.reduceNeg, Int.reducePow, Int.reduceToNat]; try with_reducible rfl)
theorem c1_is_heights_ok (Z0 : Sl) (Z1 : Sl) (thing : (Int × Int) × (Int × Int)) (T : DT) (XS : List (Int × Int)) (HX : (seqI (nameE 2)) ⟨[Z0, Z1, .val ((eP2 (eP2 eI eI) (eP2 eI eI)) thing), .no, .no, .no, .no, .no, .no], T⟩ = .ok (XS.map (eP2 eI eI)) ⟨[Z0, Z1, .val ((eP2 (eP2 eI eI) (eP2 eI eI)) thing), .no, .no, .no, .no, .no, .no], T⟩) {Y : List Bool} (H : comp2O (a1_is_heights thing) (b1_is_heights thing) XS = some Y) : cp1_is_heights ⟨[Z0, Z1, .val ((eP2 (eP2 eI eI) (eP2 eI eI)) thing), .no, .no, .no, .no, .no, .no], T⟩ = .ok (.lst (Y.map eB), true) ⟨[Z0, Z1, .val ((eP2 (eP2 eI eI) (eP2 eI eI)) thing), .no, .no, .no, .no, .no, .no], T⟩ := by
  refine (lc2O_O (E := (eP2 eI eI)) (E1 := eI) (F := eB) (c := a1_is_heights thing) (f := b1_is_heights thing) HX H (by decide) fun Y1 V H => ⟨[Z0, Z1, .val ((eP2 (eP2 eI eI) (eP2 eI eI)) thing), .no, .no, .no, .no, .val ((eP2 eI eI) Y1), .no], rfl, ?_⟩).trans (by rfl)
  unfold a1_is_heights at H
  obtain rfl := Option.some.inj H
  refine ⟨⟨[Z0, Z1, .val ((eP2 (eP2 eI eI) (eP2 eI eI)) thing), .no, .no, .no, .no, .val ((eP2 eI eI) Y1), .no], T⟩, [Z0, Z1, .val ((eP2 (eP2 eI eI) (eP2 eI eI)) thing), .no, .no, .no, .no, .val ((eP2 eI eI) Y1), .no], ?_, ?_, rfl, fun Z1y V2 H => ?_⟩
  · (push_cast [bind_ok, Nat.reduceAdd, Nat.reduceSub, Nat.reduceLT, Nat.reduceLeDiff, Int.reduceLT, Int.reduceLE, Int.reduceNeg, Int.reducePow, Int.reduceToNat]; try with_reducible rfl)
  · (push_cast [bind_ok, Nat.reduceAdd, Nat.reduceSub, Nat.reduceLT, Nat.reduceLeDiff, Int.reduceLT, Int.reduceLE, Int.reduceNeg, Int.reducePow, Int.reduceToNat]; try with_reducible rfl)
  · exact ⟨[Z0, Z1, .val ((eP2 (eP2 eI eI) (eP2 eI eI)) thing), .no, .no, .no, .no, .val ((eP2 eI eI) Y1), .val (eI Z1y)], rfl, c1_is_heights_in Z0 Z1 thing T Y1 Z1y H⟩
theorem x2_is_heights_ok (Z0 : Sl) (wide : Int) (Z2 : Sl) (Z3 : Sl) (b : Int) (Z5 : Sl) (y : Int) (T : DT) : xe0_is_heights ⟨[Z0, .val (eI wide), Z2, Z3, .val (eI b), Z5, .val (eI y), .no, .no], T⟩ = .ok (.bl ((decide (0 ≤ (b + y))) && (decide ((b + y) < wide)))) ⟨[Z0, .val (eI wide), Z2, Z3, .val (eI b), Z5, .val (eI y), .no, .no], T⟩ := by
  (push_cast [xe0_is_heights, t_and, t_or, e_and, e_or, i_andT, i_orT, i_andE, i_orE, i_int, k_if, k_ch3, Nat.reduceAdd, Nat.reduceSub, Nat.reduceLT, Nat.reduceLeDiff, Int.reduceLT, Int.reduceLE, Int.reduceNeg, Int.reducePow, Int.reduceToNat]; try with_reducible rfl)
def x1_is_heights (high : Int) (wide : Int) (thing : (Int × Int) × (Int × Int)) (a : Int) (b : Int) (x : Int) (y : Int) : Option Bool :=
  if (a + x) < high then
    if ((decide (0 ≤ (b + y))) && (decide ((b + y) < wide))) = true then
      (idx ([thing.1, thing.2]) a).bind fun v_18 =>
      (idx ([v_18.1, v_18.2]) b).bind fun v_19 =>
      (idx ([thing.1, thing.2]) (a + x)).bind fun v_20 =>
      (idx ([v_20.1, v_20.2]) (b + y)).bind fun v_21 =>
      some (decide (1 < (iabs (v_19 - v_21))))
    else
    some false
  else
  some false
theorem x1_is_heights_ok (high : Int) (wide : Int) (thing : (Int × Int) × (Int × Int)) (a : Int) (b : Int) (x : Int) (y : Int) (T : DT) {W : Bool} (H : x1_is_heights high wide thing a b x y = some W) : te1_is_heights ⟨[.val (eI high), .val (eI wide), .val ((eP2 (eP2 eI eI) (eP2 eI eI)) thing), .val (eI a), .val (eI b), .val (eI x), .val (eI y), .no, .no], T⟩ = .ok W ⟨[.val (eI high), .val (eI wide), .val ((eP2 (eP2 eI eI) (eP2 eI eI)) thing), .val (eI a), .val (eI b), .val (eI x), .val (eI y), .no, .no], T⟩ := by
  unfold x1_is_heights at H
  rcases ite_inv H with ⟨C_15, H⟩ | ⟨C_15, H⟩
  · -- +
    replace C_15 := decide_eq_true C_15
    have K_16 := x2_is_heights_ok (.val (eI high)) wide (.val ((eP2 (eP2 eI eI) (eP2 eI eI)) thing)) (.val (eI a)) b (.val (eI x)) y T
    try push_cast [DR.bind_ok] at K_16
    rcases iteB_inv H with ⟨C_17, H⟩ | ⟨C_17, H⟩
    · -- +
      obtain ⟨v_18, Hv_18, H⟩ := Option.bind_eq_some_iff.mp H
      have Kv_18 : ixG (.tup false [(.tup false [(.int thing.1.1), (.int thing.1.2)]), (.tup false [(.int thing.2.1), (.int thing.2.2)])]) (.int a) = some (.tup false [(.int v_18.1), (.int v_18.2)]) := by
        have := ixG_U false (eP2 eI eI) ([thing.1, thing.2]) a
        rw [Hv_18] at this
        exact this
      obtain ⟨v_19, Hv_19, H⟩ := Option.bind_eq_some_iff.mp H
      have Kv_19 : ixG (.tup false [(.int v_18.1), (.int v_18.2)]) (.int b) = some (.int v_19) := by
        have := ixG_U false eI ([v_18.1, v_18.2]) b
        rw [Hv_19] at this
        exact this
      obtain ⟨v_20, Hv_20, H⟩ := Option.bind_eq_some_iff.mp H
      have Kv_20 : ixG (.tup false [(.tup false [(.int thing.1.1), (.int thing.1.2)]), (.tup false [(.int thing.2.1), (.int thing.2.2)])]) (.int (a + x)) = some (.tup false [(.int v_20.1), (.int v_20.2)]) := by
        have := ixG_U false (eP2 eI eI) ([thing.1, thing.2]) (a + x)
        rw [Hv_20] at this
        exact this
      obtain ⟨v_21, Hv_21, H⟩ := Option.bind_eq_some_iff.mp H
      have Kv_21 : ixG (.tup false [(.int v_20.1), (.int v_20.2)]) (.int (b + y)) = some (.int v_21) := by
        have := ixG_U false eI ([v_20.1, v_20.2]) (b + y)
        rw [Hv_21] at this
        exact this
      obtain rfl := Option.some.inj H
      (push_cast [te1_is_heights, C_15, K_16, C_17, Kv_18, Kv_19, Kv_20, Kv_21, Nat.reduceAdd, Nat.reduceSub, Nat.reduceLT, Nat.reduceLeDiff, Int.reduceLT, Int.reduceLE, Int.reduceNeg, Int.reducePow, Int.reduceToNat]; try with_reducible rfl)
    · -- -
      obtain rfl := Option.some.inj H
      (push_cast [te1_is_heights, C_15, K_16, C_17, Nat.reduceAdd, Nat.reduceSub, Nat.reduceLT, Nat.reduceLeDiff, Int.reduceLT, Int.reduceLE, Int.reduceNeg, Int.reducePow, Int.reduceToNat]; try with_reducible rfl)
  · -- -
    replace C_15 := decide_eq_false C_15
    obtain rfl := Option.some.inj H
    (push_cast [te1_is_heights, C_15, Nat.reduceAdd, Nat.reduceSub, Nat.reduceLT, Nat.reduceLeDiff, Int.reduceLT, Int.reduceLE, Int.reduceNeg, Int.reducePow, Int.reduceToNat]; try with_reducible rfl)
def s2_is_heights (high : Int) (wide : Int) (thing : (Int × Int) × (Int × Int)) (a : Int) (b : Int)  (X2 : Int × Int) : Option (Fw (Unit) Bool) :=
  (x1_is_heights high wide thing a b X2.1 X2.2).bind fun w_22 =>
  if w_22 = true then
    some (.rt false)
  else
  some (.nx ())
def I2_is_heights (high : Int) (wide : Int) (thing : (Int × Int) × (Int × Int)) (a : Int) (b : Int) (T : DT) (Q : Unit) (E : DS) : Prop := ∃ D5 D6, E = ⟨[.val (eI high), .val (eI wide), .val ((eP2 (eP2 eI eI) (eP2 eI eI)) thing), .val (eI a), .val (eI b), D5, D6, .no, .no], T⟩
theorem l2_is_heights_bd (high : Int) (wide : Int) (thing : (Int × Int) × (Int × Int)) (a : Int) (b : Int) (T : DT)  (X2 : Int × Int) (E : DS) (HI : I2_is_heights high wide thing a b T () E) {O : Fw (Unit) Bool} (H : s2_is_heights high wide thing a b  X2 = some O) : ∃ E1, asgT (.tp [(.nm 5), (.nm 6)]) ((eP2 eI eI) X2) E.e = some E1 ∧ BodyOk bd0_is_heights ⟨E1, E.t⟩ (I2_is_heights high wide thing a b T) (fun V : Bool => (eB V, false)) (fun _ E => E.t = T) O := by
  obtain ⟨D5, D6, rfl⟩ := HI
  refine ⟨[.val (eI high), .val (eI wide), .val ((eP2 (eP2 eI eI) (eP2 eI eI)) thing), .val (eI a), .val (eI b), .val (eI X2.1), .val (eI X2.2), .no, .no], rfl, ?_⟩
  unfold s2_is_heights at H
  obtain ⟨w_22, Hw_22, H⟩ := Option.bind_eq_some_iff.mp H
  have Kw_22 := x1_is_heights_ok high wide thing a b X2.1 X2.2 T Hw_22
  try push_cast [DR.bind_ok] at Kw_22
  rcases iteB_inv H with ⟨C_23, H⟩ | ⟨C_23, H⟩
  · -- +
    obtain rfl := Option.some.inj H
    refine ⟨⟨[.val (eI high), .val (eI wide), .val ((eP2 (eP2 eI eI) (eP2 eI eI)) thing), .val (eI a), .val (eI b), .val (eI X2.1), .val (eI X2.2), .no, .no], T⟩, ?_, rfl⟩
    (push_cast [bd0_is_heights, Kw_22, C_23, Nat.reduceAdd, Nat.reduceSub, Nat.reduceLT, Nat.reduceLeDiff, Int.reduceLT, Int.reduceLE, Int.reduceNeg, Int.reducePow, Int.reduceToNat]; try with_reducible rfl)
  · -- -
    obtain rfl := Option.some.inj H
    refine ⟨⟨[.val (eI high), .val (eI wide), .val ((eP2 (eP2 eI eI) (eP2 eI eI)) thing), .val (eI a), .val (eI b), .val (eI X2.1), .val (eI X2.2), .no, .no], T⟩, .inl ?_, ⟨.val (eI X2.1), .val (eI X2.2), rfl⟩⟩
    (push_cast [bd0_is_heights, Kw_22, C_23, Nat.reduceAdd, Nat.reduceSub, Nat.reduceLT, Nat.reduceLeDiff, Int.reduceLT, Int.reduceLE, Int.reduceNeg, Int.reducePow, Int.reduceToNat]; try with_reducible rfl)
def s1_is_heights (high : Int) (wide : Int) (thing : (Int × Int) × (Int × Int)) (a : Int)  (X1 : Int) : Option (Fw (Unit) Bool) :=
  (forO (fun Q X2 => s2_is_heights high wide thing a X1  X2) ([(0, 1), (1, (-1)), (1, 0), (1, 1)]) ()).bind fun l_24 =>
  sumM l_24 (fun s_29 =>
    some (.nx ()))
    (fun r_30 => some (.rt r_30))
def I1_is_heights (high : Int) (wide : Int) (thing : (Int × Int) × (Int × Int)) (a : Int) (T : DT) (Q : Unit) (E : DS) : Prop := ∃ D4 D5 D6, E = ⟨[.val (eI high), .val (eI wide), .val ((eP2 (eP2 eI eI) (eP2 eI eI)) thing), .val (eI a), D4, D5, D6, .no, .no], T⟩
theorem l1_is_heights_bd (high : Int) (wide : Int) (thing : (Int × Int) × (Int × Int)) (a : Int) (T : DT)  (X1 : Int) (E : DS) (HI : I1_is_heights high wide thing a T () E) {O : Fw (Unit) Bool} (H : s1_is_heights high wide thing a  X1 = some O) : ∃ E1, asgT (.nm 4) (eI X1) E.e = some E1 ∧ BodyOk bd1_is_heights ⟨E1, E.t⟩ (I1_is_heights high wide thing a T) (fun V : Bool => (eB V, false)) (fun _ E => E.t = T) O := by
  obtain ⟨D4, D5, D6, rfl⟩ := HI
  refine ⟨[.val (eI high), .val (eI wide), .val ((eP2 (eP2 eI eI) (eP2 eI eI)) thing), .val (eI a), .val (eI X1), D5, D6, .no, .no], rfl, ?_⟩
  unfold s1_is_heights at H
  obtain ⟨l_24, Hl_24, H⟩ := Option.bind_eq_some_iff.mp H
  have K_25 : it0_is_heights ⟨[.val (eI high), .val (eI wide), .val ((eP2 (eP2 eI eI) (eP2 eI eI)) thing), .val (eI a), .val (eI X1), D5, D6, .no, .no], T⟩ = .ok (([(0, 1), (1, (-1)), (1, 0), (1, 1)]).map (eP2 eI eI)) ⟨[.val (eI high), .val (eI wide), .val ((eP2 (eP2 eI eI) (eP2 eI eI)) thing), .val (eI a), .val (eI X1), D5, D6, .no, .no], T⟩ := by (push_cast [it0_is_heights, Nat.reduceAdd, Nat.reduceSub, Nat.reduceLT, Nat.reduceLeDiff, Int.reduceLT, Int.reduceLE, Int.reduceNeg, Int.reducePow, Int.reduceToNat]; try with_reducible rfl)
  have Kl_24 := for_for (I := I2_is_heights high wide thing a X1 T) (R := (fun V : Bool => (eB V, false))) (J := (fun _ E => E.t = T)) (tg := (.tp [(.nm 5), (.nm 6)])) (b := bd0_is_heights) (E := (eP2 eI eI)) (fun Q E X2 O HI H => l2_is_heights_bd high wide thing a X1 T  X2 E HI H) ([(0, 1), (1, (-1)), (1, 0), (1, 1)]) () ⟨[.val (eI high), .val (eI wide), .val ((eP2 (eP2 eI eI) (eP2 eI eI)) thing), .val (eI a), .val (eI X1), D5, D6, .no, .no], T⟩ _ ⟨D5, D6, rfl⟩ Hl_24
  rcases sumM_inv H with ⟨s_29, HO, H⟩ | ⟨r_30, HO, H⟩
  · subst HO
    obtain ⟨E_28, Kl_24, ⟨D_26, D_27, rfl⟩⟩ := Kl_24
    have K_31 : lp0_is_heights ⟨[.val (eI high), .val (eI wide), .val ((eP2 (eP2 eI eI) (eP2 eI eI)) thing), .val (eI a), .val (eI X1), D5, D6, .no, .no], T⟩ = .ok .nx ⟨[.val (eI high), .val (eI wide), .val ((eP2 (eP2 eI eI) (eP2 eI eI)) thing), .val (eI a), .val (eI X1), D_26, D_27, .no, .no], T⟩ := by
      show forS _ _ _ _ = _
      rw [forS_ap, K_25, bind_ok]; exact Kl_24
    try push_cast [DR.bind_ok] at K_31
    obtain rfl := Option.some.inj H
    refine ⟨⟨[.val (eI high), .val (eI wide), .val ((eP2 (eP2 eI eI) (eP2 eI eI)) thing), .val (eI a), .val (eI X1), D_26, D_27, .no, .no], T⟩, .inl ?_, ⟨.val (eI X1), D_26, D_27, rfl⟩⟩
    (push_cast [bd1_is_heights, K_31, Nat.reduceAdd, Nat.reduceSub, Nat.reduceLT, Nat.reduceLeDiff, Int.reduceLT, Int.reduceLE, Int.reduceNeg, Int.reducePow, Int.reduceToNat]; try with_reducible rfl)
  · subst HO
    obtain ⟨⟨E_32, E_32t⟩, Kl_24, HT⟩ := Kl_24
    replace HT : E_32t = T := HT
    rw [HT] at Kl_24
    have K_31 : lp0_is_heights ⟨[.val (eI high), .val (eI wide), .val ((eP2 (eP2 eI eI) (eP2 eI eI)) thing), .val (eI a), .val (eI X1), D5, D6, .no, .no], T⟩ = .ok (.rt (eB r_30) false) ⟨E_32, T⟩ := by
      show forS _ _ _ _ = _
      rw [forS_ap, K_25, bind_ok]; exact Kl_24
    try push_cast [DR.bind_ok] at K_31
    obtain rfl := Option.some.inj H
    refine ⟨⟨E_32, T⟩, ?_, rfl⟩
    (push_cast [bd1_is_heights, K_31, Nat.reduceAdd, Nat.reduceSub, Nat.reduceLT, Nat.reduceLeDiff, Int.reduceLT, Int.reduceLE, Int.reduceNeg, Int.reducePow, Int.reduceToNat]; try with_reducible rfl)
def s0_is_heights (high : Int) (wide : Int) (thing : (Int × Int) × (Int × Int))  (X0 : Int) : Option (Fw (Unit) Bool) :=
  (rngO 0 wide).bind fun g_14 =>
  (forO (fun Q X1 => s1_is_heights high wide thing X0  X1) g_14 ()).bind fun l_33 =>
  sumM l_33 (fun s_39 =>
    some (.nx ()))
    (fun r_40 => some (.rt r_40))
def I0_is_heights (high : Int) (wide : Int) (thing : (Int × Int) × (Int × Int)) (T : DT) (Q : Unit) (E : DS) : Prop := ∃ D3 D4 D5 D6, E = ⟨[.val (eI high), .val (eI wide), .val ((eP2 (eP2 eI eI) (eP2 eI eI)) thing), D3, D4, D5, D6, .no, .no], T⟩
theorem l0_is_heights_bd (high : Int) (wide : Int) (thing : (Int × Int) × (Int × Int)) (T : DT)  (X0 : Int) (E : DS) (HI : I0_is_heights high wide thing T () E) {O : Fw (Unit) Bool} (H : s0_is_heights high wide thing  X0 = some O) : ∃ E1, asgT (.nm 3) (eI X0) E.e = some E1 ∧ BodyOk bd2_is_heights ⟨E1, E.t⟩ (I0_is_heights high wide thing T) (fun V : Bool => (eB V, false)) (fun _ E => E.t = T) O := by
  obtain ⟨D3, D4, D5, D6, rfl⟩ := HI
  refine ⟨[.val (eI high), .val (eI wide), .val ((eP2 (eP2 eI eI) (eP2 eI eI)) thing), .val (eI X0), D4, D5, D6, .no, .no], rfl, ?_⟩
  unfold s0_is_heights at H
  obtain ⟨g_14, Hg_14, H⟩ := Option.bind_eq_some_iff.mp H
  obtain ⟨l_33, Hl_33, H⟩ := Option.bind_eq_some_iff.mp H
  have K_34 : it1_is_heights ⟨[.val (eI high), .val (eI wide), .val ((eP2 (eP2 eI eI) (eP2 eI eI)) thing), .val (eI X0), D4, D5, D6, .no, .no], T⟩ = .ok (g_14.map eI) ⟨[.val (eI high), .val (eI wide), .val ((eP2 (eP2 eI eI) (eP2 eI eI)) thing), .val (eI X0), D4, D5, D6, .no, .no], T⟩ := by (push_cast [it1_is_heights, Hg_14, Nat.reduceAdd, Nat.reduceSub, Nat.reduceLT, Nat.reduceLeDiff, Int.reduceLT, Int.reduceLE, Int.reduceNeg, Int.reducePow, Int.reduceToNat]; try with_reducible rfl)
  have Kl_33 := for_for (I := I1_is_heights high wide thing X0 T) (R := (fun V : Bool => (eB V, false))) (J := (fun _ E => E.t = T)) (tg := (.nm 4)) (b := bd1_is_heights) (E := eI) (fun Q E X1 O HI H => l1_is_heights_bd high wide thing X0 T  X1 E HI H) g_14 () ⟨[.val (eI high), .val (eI wide), .val ((eP2 (eP2 eI eI) (eP2 eI eI)) thing), .val (eI X0), D4, D5, D6, .no, .no], T⟩ _ ⟨D4, D5, D6, rfl⟩ Hl_33
  rcases sumM_inv H with ⟨s_39, HO, H⟩ | ⟨r_40, HO, H⟩
  · subst HO
    obtain ⟨E_38, Kl_33, ⟨D_35, D_36, D_37, rfl⟩⟩ := Kl_33
    have K_41 : lp1_is_heights ⟨[.val (eI high), .val (eI wide), .val ((eP2 (eP2 eI eI) (eP2 eI eI)) thing), .val (eI X0), D4, D5, D6, .no, .no], T⟩ = .ok .nx ⟨[.val (eI high), .val (eI wide), .val ((eP2 (eP2 eI eI) (eP2 eI eI)) thing), .val (eI X0), D_35, D_36, D_37, .no, .no], T⟩ := by
      show forS _ _ _ _ = _
      rw [forS_ap, K_34, bind_ok]; exact Kl_33
    try push_cast [DR.bind_ok] at K_41
    obtain rfl := Option.some.inj H
    refine ⟨⟨[.val (eI high), .val (eI wide), .val ((eP2 (eP2 eI eI) (eP2 eI eI)) thing), .val (eI X0), D_35, D_36, D_37, .no, .no], T⟩, .inl ?_, ⟨.val (eI X0), D_35, D_36, D_37, rfl⟩⟩
    (push_cast [bd2_is_heights, Hg_14, K_41, Nat.reduceAdd, Nat.reduceSub, Nat.reduceLT, Nat.reduceLeDiff, Int.reduceLT, Int.reduceLE, Int.reduceNeg, Int.reducePow, Int.reduceToNat]; try with_reducible rfl)
  · subst HO
    obtain ⟨⟨E_42, E_42t⟩, Kl_33, HT⟩ := Kl_33
    replace HT : E_42t = T := HT
    rw [HT] at Kl_33
    have K_41 : lp1_is_heights ⟨[.val (eI high), .val (eI wide), .val ((eP2 (eP2 eI eI) (eP2 eI eI)) thing), .val (eI X0), D4, D5, D6, .no, .no], T⟩ = .ok (.rt (eB r_40) false) ⟨E_42, T⟩ := by
      show forS _ _ _ _ = _
      rw [forS_ap, K_34, bind_ok]; exact Kl_33
    try push_cast [DR.bind_ok] at K_41
    obtain rfl := Option.some.inj H
    refine ⟨⟨E_42, T⟩, ?_, rfl⟩
    (push_cast [bd2_is_heights, Hg_14, K_41, Nat.reduceAdd, Nat.reduceSub, Nat.reduceLT, Nat.reduceLeDiff, Int.reduceLT, Int.reduceLE, Int.reduceNeg, Int.reducePow, Int.reduceToNat]; try with_reducible rfl)
def m_is_heights (high : Int) (wide : Int) (thing : (Int × Int) × (Int × Int)) : Option Bool :=
  (m_check_sides high wide).bind fun r_1 =>
  (x0_is_heights high wide thing).bind fun w_7 =>
  if w_7 = true then
    some false
  else
  (comp2O (a1_is_heights thing) (b1_is_heights thing) ([thing.1, thing.2])).bind fun y_10 =>
  if (!(y_10.all id)) = true then
    some false
  else
  (rngO 0 high).bind fun g_13 =>
  (forO (fun Q X0 => s0_is_heights high wide thing  X0) g_13 ()).bind fun l_43 =>
  sumM l_43 (fun s_50 =>
    some true)
    (fun r_51 => some r_51)
theorem w_is_heights (high : Int) (wide : Int) (thing : (Int × Int) × (Int × Int)) (T : DT) {V : Bool} (H : m_is_heights high wide thing = some V) : F_is_heights [eI high, eI wide, (eP2 (eP2 eI eI) (eP2 eI eI)) thing] T = .ok (eB V) false T := by
  unfold m_is_heights at H
  obtain ⟨r_1, Hr_1, H⟩ := Option.bind_eq_some_iff.mp H
  have Kr_1 : F_check_sides [(.int high), (.int wide)] T = .ok .non false T := w_check_sides high wide T Hr_1
  obtain ⟨w_7, Hw_7, H⟩ := Option.bind_eq_some_iff.mp H
  have Kw_7 := x0_is_heights_ok high wide thing T Hw_7
  try push_cast [DR.bind_ok] at Kw_7
  rcases iteB_inv H with ⟨C_8, H⟩ | ⟨C_8, H⟩
  · -- +
    obtain rfl := Option.some.inj H
    (push_cast [F_is_heights, b_is_heights, Kr_1, Kw_7, C_8, Nat.reduceAdd, Nat.reduceSub, Nat.reduceLT, Nat.reduceLeDiff, Int.reduceLT, Int.reduceLE, Int.reduceNeg, Int.reducePow, Int.reduceToNat]; try with_reducible rfl)
  · -- -
    obtain ⟨y_10, Hy_10, H⟩ := Option.bind_eq_some_iff.mp H
    have K_11 : (seqI (nameE 2)) ⟨[.val (eI high), .val (eI wide), .val ((eP2 (eP2 eI eI) (eP2 eI eI)) thing), .no, .no, .no, .no, .no, .no], T⟩ = .ok (([thing.1, thing.2]).map (eP2 eI eI)) ⟨[.val (eI high), .val (eI wide), .val ((eP2 (eP2 eI eI) (eP2 eI eI)) thing), .no, .no, .no, .no, .no, .no], T⟩ := by (push_cast [Kr_1, Kw_7, C_8, Nat.reduceAdd, Nat.reduceSub, Nat.reduceLT, Nat.reduceLeDiff, Int.reduceLT, Int.reduceLE, Int.reduceNeg, Int.reducePow, Int.reduceToNat]; try with_reducible rfl)
    have Ky_10 := c1_is_heights_ok (.val (eI high)) (.val (eI wide)) thing T ([thing.1, thing.2]) K_11 Hy_10
    try push_cast [DR.bind_ok] at Ky_10
    rcases iteB_inv H with ⟨C_12, H⟩ | ⟨C_12, H⟩
    · -- +
      obtain rfl := Option.some.inj H
      (push_cast [F_is_heights, b_is_heights, Kr_1, Kw_7, C_8, Ky_10, C_12, Nat.reduceAdd, Nat.reduceSub, Nat.reduceLT, Nat.reduceLeDiff, Int.reduceLT, Int.reduceLE, Int.reduceNeg, Int.reducePow, Int.reduceToNat]; try with_reducible rfl)
    · -- -
      obtain ⟨g_13, Hg_13, H⟩ := Option.bind_eq_some_iff.mp H
      obtain ⟨l_43, Hl_43, H⟩ := Option.bind_eq_some_iff.mp H
      have K_44 : it2_is_heights ⟨[.val (eI high), .val (eI wide), .val ((eP2 (eP2 eI eI) (eP2 eI eI)) thing), .no, .no, .no, .no, .no, .no], T⟩ = .ok (g_13.map eI) ⟨[.val (eI high), .val (eI wide), .val ((eP2 (eP2 eI eI) (eP2 eI eI)) thing), .no, .no, .no, .no, .no, .no], T⟩ := by (push_cast [it2_is_heights, Kr_1, Kw_7, C_8, Ky_10, C_12, Hg_13, Nat.reduceAdd, Nat.reduceSub, Nat.reduceLT, Nat.reduceLeDiff, Int.reduceLT, Int.reduceLE, Int.reduceNeg, Int.reducePow, Int.reduceToNat]; try with_reducible rfl)
      have Kl_43 := for_for (I := I0_is_heights high wide thing T) (R := (fun V : Bool => (eB V, false))) (J := (fun _ E => E.t = T)) (tg := (.nm 3)) (b := bd2_is_heights) (E := eI) (fun Q E X0 O HI H => l0_is_heights_bd high wide thing T  X0 E HI H) g_13 () ⟨[.val (eI high), .val (eI wide), .val ((eP2 (eP2 eI eI) (eP2 eI eI)) thing), .no, .no, .no, .no, .no, .no], T⟩ _ ⟨.no, .no, .no, .no, rfl⟩ Hl_43
      rcases sumM_inv H with ⟨s_50, HO, H⟩ | ⟨r_51, HO, H⟩
      · subst HO
        obtain ⟨E_49, Kl_43, ⟨D_45, D_46, D_47, D_48, rfl⟩⟩ := Kl_43
        have K_52 : lp2_is_heights ⟨[.val (eI high), .val (eI wide), .val ((eP2 (eP2 eI eI) (eP2 eI eI)) thing), .no, .no, .no, .no, .no, .no], T⟩ = .ok .nx ⟨[.val (eI high), .val (eI wide), .val ((eP2 (eP2 eI eI) (eP2 eI eI)) thing), D_45, D_46, D_47, D_48, .no, .no], T⟩ := by
          show forS _ _ _ _ = _
          rw [forS_ap, K_44, bind_ok]; exact Kl_43
        try push_cast [DR.bind_ok] at K_52
        obtain rfl := Option.some.inj H
        (push_cast [F_is_heights, b_is_heights, Kr_1, Kw_7, C_8, Ky_10, C_12, Hg_13, K_52, Nat.reduceAdd, Nat.reduceSub, Nat.reduceLT, Nat.reduceLeDiff, Int.reduceLT, Int.reduceLE, Int.reduceNeg, Int.reducePow, Int.reduceToNat]; try with_reducible rfl)
      · subst HO
        obtain ⟨⟨E_53, E_53t⟩, Kl_43, HT⟩ := Kl_43
        replace HT : E_53t = T := HT
        rw [HT] at Kl_43
        have K_52 : lp2_is_heights ⟨[.val (eI high), .val (eI wide), .val ((eP2 (eP2 eI eI) (eP2 eI eI)) thing), .no, .no, .no, .no, .no, .no], T⟩ = .ok (.rt (eB r_51) false) ⟨E_53, T⟩ := by
          show forS _ _ _ _ = _
          rw [forS_ap, K_44, bind_ok]; exact Kl_43
        try push_cast [DR.bind_ok] at K_52
        obtain rfl := Option.some.inj H
        (push_cast [F_is_heights, b_is_heights, Kr_1, Kw_7, C_8, Ky_10, C_12, Hg_13, K_52, Nat.reduceAdd, Nat.reduceSub, Nat.reduceLT, Nat.reduceLeDiff, Int.reduceLT, Int.reduceLE, Int.reduceNeg, Int.reducePow, Int.reduceToNat]; try with_reducible rfl)
def m_check_heights (high : Int) (wide : Int) (thing : (Int × Int) × (Int × Int)) : Option Unit :=
  (m_is_heights high wide thing).bind fun r_1 =>
  if (!r_1) = true then
    none
  else
  some ()
theorem w_check_heights (high : Int) (wide : Int) (thing : (Int × Int) × (Int × Int)) (T : DT) {V : Unit} (H : m_check_heights high wide thing = some V) : F_check_heights [eI high, eI wide, (eP2 (eP2 eI eI) (eP2 eI eI)) thing] T = .ok (eN V) false T := by
  unfold m_check_heights at H
  obtain ⟨r_1, Hr_1, H⟩ := Option.bind_eq_some_iff.mp H
  have Kr_1 : F_is_heights [(.int high), (.int wide), (.tup false [(.tup false [(.int thing.1.1), (.int thing.1.2)]), (.tup false [(.int thing.2.1), (.int thing.2.2)])])] T = .ok (.bl r_1) false T := w_is_heights high wide thing T Hr_1
  rcases iteB_inv H with ⟨C_2, H⟩ | ⟨C_2, H⟩
  · -- +
    cases H
  · -- -
    obtain rfl := Option.some.inj H
    (push_cast [F_check_heights, b_check_heights, Kr_1, C_2, Nat.reduceAdd, Nat.reduceSub, Nat.reduceLT, Nat.reduceLeDiff, Int.reduceLT, Int.reduceLE, Int.reduceNeg, Int.reducePow, Int.reduceToNat]; try with_reducible rfl)
def x0_is_up_down (heights : (Int × Int) × (Int × Int)) : Option Bool :=
  (maxL ([heights.1.1, heights.1.2])).bind fun v_1 =>
  if v_1 ≤ 0 then
    (minL ([heights.2.1, heights.2.2])).bind fun v_3 =>
    some (decide (0 ≤ v_3))
  else
  some false
theorem x0_is_up_down_ok (heights : (Int × Int) × (Int × Int)) (T : DT) {W : Bool} (H : x0_is_up_down heights = some W) : xe0_is_up_down ⟨[.val ((eP2 (eP2 eI eI) (eP2 eI eI)) heights)], T⟩ = .ok (eB W) ⟨[.val ((eP2 (eP2 eI eI) (eP2 eI eI)) heights)], T⟩ := by
  unfold x0_is_up_down at H
  obtain ⟨v_1, Hv_1, H⟩ := Option.bind_eq_some_iff.mp H
  have Kv_1 : maxA (.tup false [(.int heights.1.1), (.int heights.1.2)]) = some (.int v_1) := by
    have := maxA_U false ([heights.1.1, heights.1.2])
    rw [Hv_1] at this
    exact this
  rcases ite_inv H with ⟨C_2, H⟩ | ⟨C_2, H⟩
  · -- +
    replace C_2 := decide_eq_true C_2
    obtain ⟨v_3, Hv_3, H⟩ := Option.bind_eq_some_iff.mp H
    have Kv_3 : minA (.tup false [(.int heights.2.1), (.int heights.2.2)]) = some (.int v_3) := by
      have := minA_U false ([heights.2.1, heights.2.2])
      rw [Hv_3] at this
      exact this
    obtain rfl := Option.some.inj H
    (push_cast [xe0_is_up_down, Kv_1, C_2, Kv_3, Nat.reduceAdd, Nat.reduceSub, Nat.reduceLT, Nat.reduceLeDiff, Int.reduceLT, Int.reduceLE, Int.reduceNeg, Int.reducePow, Int.reduceToNat]; try with_reducible rfl)
  · -- -
    replace C_2 := decide_eq_false C_2
    obtain rfl := Option.some.inj H
    (push_cast [xe0_is_up_down, Kv_1, C_2, Nat.reduceAdd, Nat.reduceSub, Nat.reduceLT, Nat.reduceLeDiff, Int.reduceLT, Int.reduceLE, Int.reduceNeg, Int.reducePow, Int.reduceToNat]; try with_reducible rfl)
def m_is_up_down (heights : (Int × Int) × (Int × Int)) : Option Bool :=
  (x0_is_up_down heights).bind fun w_4 =>
  some w_4
theorem w_is_up_down (heights : (Int × Int) × (Int × Int)) (T : DT) {V : Bool} (H : m_is_up_down heights = some V) : F_is_up_down [(eP2 (eP2 eI eI) (eP2 eI eI)) heights] T = .ok (eB V) false T := by
  unfold m_is_up_down at H
  obtain ⟨w_4, Hw_4, H⟩ := Option.bind_eq_some_iff.mp H
  have Kw_4 := x0_is_up_down_ok heights T Hw_4
  try push_cast [DR.bind_ok] at Kw_4
  obtain rfl := Option.some.inj H
  (push_cast [F_is_up_down, b_is_up_down, Kw_4, Nat.reduceAdd, Nat.reduceSub, Nat.reduceLT, Nat.reduceLeDiff, Int.reduceLT, Int.reduceLE, Int.reduceNeg, Int.reducePow, Int.reduceToNat]; try with_reducible rfl)
def a0_around (cell : Int × Int) (Y0 : Int) : Option (Option (List Int)) :=
  some (some ([(-1), 0, 1]))
def b0_around (cell : Int × Int) (Y0 : Int) (Z0y : Int) : Option (Option (Int × Int)) :=
  if (Y0, Z0y) = (0, 0) then
    some none
  else
  some (some ((cell.1 + Y0), (cell.2 + Z0y)))
theorem c0_around_in (Z0 : Sl) (Z1 : Sl) (cell : Int × Int) (T : DT) (Y0 : Int) (Z0y : Int) {V : Option (Int × Int)} (H : b0_around cell Y0 Z0y = some V) : ItemOk (testE (binE (eqG true) (tupE (consA (nameE 4) (consA (nameE 5) nilA))) (tupE (consA (constE (.int 0)) (consA (constE (.int 0)) nilA))))) (tupE (consA (plainE (binO addO (ixN 2 (constE (.int 0))) (nameE 4))) (consA (plainE (binO addO (ixN 2 (constE (.int 1))) (nameE 5))) nilA))) [5] (wipeE [5] [Z0, Z1, .val ((eP2 eI eI) cell), .no, .val (eI Y0), .no, .no]) (eP2 eI eI) ⟨[Z0, Z1, .val ((eP2 eI eI) cell), .no, .val (eI Y0), .val (eI Z0y), .no], T⟩ T V := by
  unfold b0_around at H
  have K_1 : eqG true (.tup false [(.int Y0), (.int Z0y)]) (.tup false [(.int 0), (.int 0)]) = some (.bl (true != decide ((Y0, Z0y) = (0, 0)))) := eq_t true (eP2 eI eI) (Y0, Z0y) (0, 0) (by decide)
  rcases ite_inv H with ⟨C_2, H⟩ | ⟨C_2, H⟩
  · -- +
    replace C_2 := decide_eq_true C_2
    obtain rfl := Option.some.inj H
    refine ⟨⟨[Z0, Z1, .val ((eP2 eI eI) cell), .no, .val (eI Y0), .val (eI Z0y), .no], T⟩, ?_, rfl, rfl⟩
    (push_cast [K_1, C_2, Nat.reduceAdd, Nat.reduceSub, Nat.reduceLT, Nat.reduceLeDiff, Int.reduceLT, Int.reduceLE, Int.reduceNeg, Int.reducePow, Int.reduceToNat]; try with_reducible rfl)
  · -- -
    replace C_2 := decide_eq_false C_2
    obtain rfl := Option.some.inj H
    refine ⟨⟨[Z0, Z1, .val ((eP2 eI eI) cell), .no, .val (eI Y0), .val (eI Z0y), .no], T⟩, ⟨[Z0, Z1, .val ((eP2 eI eI) cell), .no, .val (eI Y0), .val (eI Z0y), .no], T⟩, ?_, ?_, rfl, rfl⟩
    · (push_cast [K_1, C_2, Nat.reduceAdd, Nat.reduceSub, Nat.reduceLT, Nat.reduceLeDiff, Int.reduceLT, Int.reduceLE, Int.reduceNeg, Int.reducePow, Int.reduceToNat]; try with_reducible rfl)
    · (push_cast [K_1, C_2, Nat.reduceAdd, Nat.reduceSub, Nat.reduceLT, Nat.reduceLeDiff, Int.reduceLT, Int.reduceLE, Int.reduceNeg, Int.reducePow, Int.reduceToNat]; try with_reducible rfl)
theorem c0_around_ok (Z0 : Sl) (Z1 : Sl) (cell : Int × Int) (T : DT) (XS : List Int) (HX : (seqI (tupE (consA (negE (constE (.int 1))) (consA (constE (.int 0)) (consA (constE (.int 1)) nilA))))) ⟨[Z0, Z1, .val ((eP2 eI eI) cell), .no, .no, .no, .no], T⟩ = .ok (XS.map eI) ⟨[Z0, Z1, .val ((eP2 eI eI) cell), .no, .no, .no, .no], T⟩) {Y : List (Int × Int)} (H : comp2O (a0_around cell) (b0_around cell) XS = some Y) : cp0_around ⟨[Z0, Z1, .val ((eP2 eI eI) cell), .no, .no, .no, .no], T⟩ = .ok (.lst (Y.map (eP2 eI eI)), true) ⟨[Z0, Z1, .val ((eP2 eI eI) cell), .no, .no, .no, .no], T⟩ := by
  refine (lc2O_O (E := eI) (E1 := eI) (F := (eP2 eI eI)) (c := a0_around cell) (f := b0_around cell) HX H (by decide) fun Y0 V H => ⟨[Z0, Z1, .val ((eP2 eI eI) cell), .no, .val (eI Y0), .no, .no], rfl, ?_⟩).trans (by rfl)
  unfold a0_around at H
  obtain rfl := Option.some.inj H
  refine ⟨⟨[Z0, Z1, .val ((eP2 eI eI) cell), .no, .val (eI Y0), .no, .no], T⟩, [Z0, Z1, .val ((eP2 eI eI) cell), .no, .val (eI Y0), .no, .no], ?_, ?_, rfl, fun Z0y V2 H => ?_⟩
  · (push_cast [bind_ok, Nat.reduceAdd, Nat.reduceSub, Nat.reduceLT, Nat.reduceLeDiff, Int.reduceLT, Int.reduceLE, Int.reduceNeg, Int.reducePow, Int.reduceToNat]; try with_reducible rfl)
  · (push_cast [bind_ok, Nat.reduceAdd, Nat.reduceSub, Nat.reduceLT, Nat.reduceLeDiff, Int.reduceLT, Int.reduceLE, Int.reduceNeg, Int.reducePow, Int.reduceToNat]; try with_reducible rfl)
  · exact ⟨[Z0, Z1, .val ((eP2 eI eI) cell), .no, .val (eI Y0), .val (eI Z0y), .no], rfl, c0_around_in Z0 Z1 cell T Y0 Z0y H⟩
theorem x1_around_ok (high : Int) (Z1 : Sl) (Z2 : Sl) (Z3 : Sl) (one : Int × Int) (T : DT) : xe0_around ⟨[.val (eI high), Z1, Z2, Z3, .no, .no, .val ((eP2 eI eI) one)], T⟩ = .ok (.bl ((decide (0 ≤ one.1)) && (decide (one.1 < high)))) ⟨[.val (eI high), Z1, Z2, Z3, .no, .no, .val ((eP2 eI eI) one)], T⟩ := by
  (push_cast [xe0_around, t_and, t_or, e_and, e_or, i_andT, i_orT, i_andE, i_orE, i_int, k_if, k_ch3, Nat.reduceAdd, Nat.reduceSub, Nat.reduceLT, Nat.reduceLeDiff, Int.reduceLT, Int.reduceLE, Int.reduceNeg, Int.reducePow, Int.reduceToNat]; try with_reducible rfl)
theorem x2_around_ok (Z0 : Sl) (wide : Int) (Z2 : Sl) (Z3 : Sl) (one : Int × Int) (T : DT) : xe1_around ⟨[Z0, .val (eI wide), Z2, Z3, .no, .no, .val ((eP2 eI eI) one)], T⟩ = .ok (.bl ((decide (0 ≤ one.2)) && (decide (one.2 < wide)))) ⟨[Z0, .val (eI wide), Z2, Z3, .no, .no, .val ((eP2 eI eI) one)], T⟩ := by
  (push_cast [xe1_around, t_and, t_or, e_and, e_or, i_andT, i_orT, i_andE, i_orE, i_int, k_if, k_ch3, Nat.reduceAdd, Nat.reduceSub, Nat.reduceLT, Nat.reduceLeDiff, Int.reduceLT, Int.reduceLE, Int.reduceNeg, Int.reducePow, Int.reduceToNat]; try with_reducible rfl)
theorem x0_around_ok (high : Int) (wide : Int) (Z2 : Sl) (Z3 : Sl) (one : Int × Int) (T : DT) : te0_around ⟨[.val (eI high), .val (eI wide), Z2, Z3, .no, .no, .val ((eP2 eI eI) one)], T⟩ = .ok (((decide (0 ≤ one.1)) && (decide (one.1 < high))) && ((decide (0 ≤ one.2)) && (decide (one.2 < wide)))) ⟨[.val (eI high), .val (eI wide), Z2, Z3, .no, .no, .val ((eP2 eI eI) one)], T⟩ := by
  have K_5 := x1_around_ok high (.val (eI wide)) Z2 Z3 one T
  try push_cast [DR.bind_ok] at K_5
  have K_6 := x2_around_ok (.val (eI high)) wide Z2 Z3 one T
  try push_cast [DR.bind_ok] at K_6
  (push_cast [te0_around, K_5, K_6, t_and, t_or, e_and, e_or, i_andT, i_orT, i_andE, i_orE, i_int, k_if, k_ch3, Nat.reduceAdd, Nat.reduceSub, Nat.reduceLT, Nat.reduceLeDiff, Int.reduceLT, Int.reduceLE, Int.reduceNeg, Int.reducePow, Int.reduceToNat]; try with_reducible rfl)
theorem c1_around_ok (high : Int) (wide : Int) (Z2 : Sl) (found : List (Int × Int)) (T : DT) (XS : List (Int × Int)) (HX : (seqI (nameE 3)) ⟨[.val (eI high), .val (eI wide), Z2, .val ((eL (eP2 eI eI)) found), .no, .no, .no], T⟩ = .ok (XS.map (eP2 eI eI)) ⟨[.val (eI high), .val (eI wide), Z2, .val ((eL (eP2 eI eI)) found), .no, .no, .no], T⟩) {Y : List (Int × Int)} (H : lenO ((XS.filter fun Y1 => (((decide (0 ≤ Y1.1)) && (decide (Y1.1 < high))) && ((decide (0 ≤ Y1.2)) && (decide (Y1.2 < wide))))).map fun Y1 => Y1) = some Y) : cp1_around ⟨[.val (eI high), .val (eI wide), Z2, .val ((eL (eP2 eI eI)) found), .no, .no, .no], T⟩ = .ok (.lst (Y.map (eP2 eI eI)), true) ⟨[.val (eI high), .val (eI wide), Z2, .val ((eL (eP2 eI eI)) found), .no, .no, .no], T⟩ := by
  refine (lcO_P (E := (eP2 eI eI)) (F := (eP2 eI eI)) (p := fun Y1 => (((decide (0 ≤ Y1.1)) && (decide (Y1.1 < high))) && ((decide (0 ≤ Y1.2)) && (decide (Y1.2 < wide))))) (g := fun Y1 => Y1) HX H fun Y1 => ⟨[.val (eI high), .val (eI wide), Z2, .val ((eL (eP2 eI eI)) found), .no, .no, .val ((eP2 eI eI) Y1)], rfl, ⟨[.val (eI high), .val (eI wide), Z2, .val ((eL (eP2 eI eI)) found), .no, .no, .val ((eP2 eI eI) Y1)], T⟩, ?_, fun _ => ⟨rfl, rfl⟩, fun HP => ⟨⟨[.val (eI high), .val (eI wide), Z2, .val ((eL (eP2 eI eI)) found), .no, .no, .val ((eP2 eI eI) Y1)], T⟩, ?_, rfl, rfl⟩⟩).trans (by rfl)
  · have K_7 := x0_around_ok high wide Z2 (.val ((eL (eP2 eI eI)) found)) Y1 T
    try push_cast [DR.bind_ok] at K_7
    (push_cast [K_7, t_and, t_or, e_and, e_or, i_andT, i_orT, i_andE, i_orE, i_int, k_if, k_ch3, Nat.reduceAdd, Nat.reduceSub, Nat.reduceLT, Nat.reduceLeDiff, Int.reduceLT, Int.reduceLE, Int.reduceNeg, Int.reducePow, Int.reduceToNat]; try with_reducible rfl)
  · have K_7 := x0_around_ok high wide Z2 (.val ((eL (eP2 eI eI)) found)) Y1 T
    try push_cast [DR.bind_ok] at K_7
    (push_cast [K_7, HP, t_and, t_or, e_and, e_or, i_andT, i_orT, i_andE, i_orE, i_int, k_if, k_ch3, Nat.reduceAdd, Nat.reduceSub, Nat.reduceLT, Nat.reduceLeDiff, Int.reduceLT, Int.reduceLE, Int.reduceNeg, Int.reducePow, Int.reduceToNat]; try with_reducible rfl)
def m_around (high : Int) (wide : Int) (cell : Int × Int) : Option (List (Int × Int)) :=
  (comp2O (a0_around cell) (b0_around cell) ([(-1), 0, 1])).bind fun y_3 =>
  (lenO ((y_3.filter fun Y1 => (((decide (0 ≤ Y1.1)) && (decide (Y1.1 < high))) && ((decide (0 ≤ Y1.2)) && (decide (Y1.2 < wide))))).map fun Y1 => Y1)).bind fun y_8 =>
  some y_8
theorem w_around (high : Int) (wide : Int) (cell : Int × Int) (T : DT) {V : (List (Int × Int))} (H : m_around high wide cell = some V) : F_around [eI high, eI wide, (eP2 eI eI) cell] T = .ok ((eL (eP2 eI eI)) V) true T := by
  unfold m_around at H
  obtain ⟨y_3, Hy_3, H⟩ := Option.bind_eq_some_iff.mp H
  have K_4 : (seqI (tupE (consA (negE (constE (.int 1))) (consA (constE (.int 0)) (consA (constE (.int 1)) nilA))))) ⟨[.val (eI high), .val (eI wide), .val ((eP2 eI eI) cell), .no, .no, .no, .no], T⟩ = .ok (([(-1), 0, 1]).map eI) ⟨[.val (eI high), .val (eI wide), .val ((eP2 eI eI) cell), .no, .no, .no, .no], T⟩ := by (push_cast [bind_ok, Nat.reduceAdd, Nat.reduceSub, Nat.reduceLT, Nat.reduceLeDiff, Int.reduceLT, Int.reduceLE, Int.reduceNeg, Int.reducePow, Int.reduceToNat]; try with_reducible rfl)
  have Ky_3 := c0_around_ok (.val (eI high)) (.val (eI wide)) cell T ([(-1), 0, 1]) K_4 Hy_3
  try push_cast [DR.bind_ok] at Ky_3
  obtain ⟨y_8, Hy_8, H⟩ := Option.bind_eq_some_iff.mp H
  have K_9 : (seqI (nameE 3)) ⟨[.val (eI high), .val (eI wide), .val ((eP2 eI eI) cell), .val ((eL (eP2 eI eI)) y_3), .no, .no, .no], T⟩ = .ok (y_3.map (eP2 eI eI)) ⟨[.val (eI high), .val (eI wide), .val ((eP2 eI eI) cell), .val ((eL (eP2 eI eI)) y_3), .no, .no, .no], T⟩ := by (push_cast [Ky_3, Nat.reduceAdd, Nat.reduceSub, Nat.reduceLT, Nat.reduceLeDiff, Int.reduceLT, Int.reduceLE, Int.reduceNeg, Int.reducePow, Int.reduceToNat]; try with_reducible rfl)
  have Ky_8 := c1_around_ok high wide (.val ((eP2 eI eI) cell)) y_3 T y_3 K_9 Hy_8
  try push_cast [DR.bind_ok] at Ky_8
  obtain rfl := Option.some.inj H
  (push_cast [F_around, b_around, Ky_3, Ky_8, Nat.reduceAdd, Nat.reduceSub, Nat.reduceLT, Nat.reduceLeDiff, Int.reduceLT, Int.reduceLE, Int.reduceNeg, Int.reducePow, Int.reduceToNat]; try with_reducible rfl)
def j0_line_of (heights : (Int × Int) × (Int × Int)) (ahead : List ((Int × Int) × (Option (Int × Int)))) (waiting : List (Int × Int)) (a : Int) : Option ((List ((Int × Int) × (Option (Int × Int)))) × (List (Int × Int))) :=
  (idx ([heights.1, heights.2]) a).bind fun v_2 =>
  if v_2.1 = 0 then
    (dputO ahead (a, 0) none).bind fun ahead_4 =>
    (snoc waiting (a, 0)).bind fun waiting_5 =>
    some (ahead_4, waiting_5)
  else
  some (ahead, waiting)
theorem j0_line_of_ok (heights : (Int × Int) × (Int × Int)) (Z1 : Sl) (Z2 : Sl) (ahead : List ((Int × Int) × (Option (Int × Int)))) (waiting : List (Int × Int)) (Z5 : Sl) (a : Int) (T : DT) {W : (List ((Int × Int) × (Option (Int × Int)))) × (List (Int × Int))} (H : j0_line_of heights ahead waiting a = some W) : jf0_line_of ⟨[.val ((eP2 (eP2 eI eI) (eP2 eI eI)) heights), Z1, Z2, .own ((eD2 (eO (eP2 eI eI))) ahead), .own ((eL (eP2 eI eI)) waiting), Z5, .val (eI a), .no, .no, .no], T⟩ = .ok .nx ⟨[.val ((eP2 (eP2 eI eI) (eP2 eI eI)) heights), Z1, Z2, .own ((eD2 (eO (eP2 eI eI))) W.1), .own ((eL (eP2 eI eI)) W.2), Z5, .val (eI a), .no, .no, .no], T⟩ := by
  unfold j0_line_of at H
  obtain ⟨v_2, Hv_2, H⟩ := Option.bind_eq_some_iff.mp H
  have Kv_2 : ixG (.tup false [(.tup false [(.int heights.1.1), (.int heights.1.2)]), (.tup false [(.int heights.2.1), (.int heights.2.2)])]) (.int a) = some (.tup false [(.int v_2.1), (.int v_2.2)]) := by
    have := ixG_U false (eP2 eI eI) ([heights.1, heights.2]) a
    rw [Hv_2] at this
    exact this
  rcases ite_inv H with ⟨C_3, H⟩ | ⟨C_3, H⟩
  · -- +
    replace C_3 := decide_eq_true C_3
    obtain ⟨ahead_4, Hahead_4, H⟩ := Option.bind_eq_some_iff.mp H
    have Kahead_4 : setU (.tup false [(.int a), (.int 0)]) .non ((eD2 (eO (eP2 eI eI))) ahead) = some (((eD2 (eO (eP2 eI eI))) ahead_4), .non) := by
      have := setD2 (eO (eP2 eI eI)) ahead a 0 none
      rw [show dputO ahead _ _ = _ from Hahead_4] at this
      exact this
    obtain ⟨waiting_5, Hwaiting_5, H⟩ := Option.bind_eq_some_iff.mp H
    have Kwaiting_5 : appU (.tup false [(.int a), (.int 0)]) (.lst (List.map (eP2 eI eI) waiting)) = some ((.lst (List.map (eP2 eI eI) waiting_5)), .non) := by
      have := appU_L (eP2 eI eI) waiting (a, 0)
      rw [Hwaiting_5] at this
      exact this
    obtain rfl := Option.some.inj H
    (push_cast [jf0_line_of, Kv_2, C_3, Kahead_4, Kwaiting_5, Nat.reduceAdd, Nat.reduceSub, Nat.reduceLT, Nat.reduceLeDiff, Int.reduceLT, Int.reduceLE, Int.reduceNeg, Int.reducePow, Int.reduceToNat]; try with_reducible rfl)
  · -- -
    replace C_3 := decide_eq_false C_3
    obtain rfl := Option.some.inj H
    (push_cast [jf0_line_of, Kv_2, C_3, Nat.reduceAdd, Nat.reduceSub, Nat.reduceLT, Nat.reduceLeDiff, Int.reduceLT, Int.reduceLE, Int.reduceNeg, Int.reducePow, Int.reduceToNat]; try with_reducible rfl)
def s0_line_of (heights : (Int × Int) × (Int × Int)) (ahead : List ((Int × Int) × (Option (Int × Int)))) (waiting : List (Int × Int)) (X0 : Int) : Option (((List ((Int × Int) × (Option (Int × Int)))) × (List (Int × Int)))) :=
  (j0_line_of heights ahead waiting X0).bind fun j_6 =>
  some (j_6.1, j_6.2)
def I0_line_of (heights : (Int × Int) × (Int × Int)) (Z1 : Sl) (Z2 : Sl) (Z5 : Sl) (T : DT) (Q : (List ((Int × Int) × (Option (Int × Int)))) × (List (Int × Int))) (E : DS) : Prop := ∃ D6, E = ⟨[.val ((eP2 (eP2 eI eI) (eP2 eI eI)) heights), Z1, Z2, .own ((eD2 (eO (eP2 eI eI))) Q.1), .own ((eL (eP2 eI eI)) Q.2), Z5, D6, .no, .no, .no], T⟩
theorem l0_line_of_bd (heights : (Int × Int) × (Int × Int)) (Z1 : Sl) (Z2 : Sl) (Z5 : Sl) (T : DT) (ahead : List ((Int × Int) × (Option (Int × Int)))) (waiting : List (Int × Int)) (X0 : Int) (E : DS) (HI : I0_line_of heights Z1 Z2 Z5 T (ahead, waiting) E) {O : ((List ((Int × Int) × (Option (Int × Int)))) × (List (Int × Int)))} (H : s0_line_of heights ahead waiting X0 = some O) : ∃ E1, asgT (.nm 6) (eI X0) E.e = some E1 ∧ ∃ E2, (bd0_line_of ⟨E1, E.t⟩ = .ok .nx E2 ∨ bd0_line_of ⟨E1, E.t⟩ = .ok .ct E2) ∧ I0_line_of heights Z1 Z2 Z5 T O E2 := by
  obtain ⟨D6, rfl⟩ := HI
  refine ⟨[.val ((eP2 (eP2 eI eI) (eP2 eI eI)) heights), Z1, Z2, .own ((eD2 (eO (eP2 eI eI))) ahead), .own ((eL (eP2 eI eI)) waiting), Z5, .val (eI X0), .no, .no, .no], rfl, ?_⟩
  unfold s0_line_of at H
  obtain ⟨j_6, Hj_6, H⟩ := Option.bind_eq_some_iff.mp H
  have Kj_6 := j0_line_of_ok heights Z1 Z2 ahead waiting Z5 X0 T Hj_6
  try push_cast [DR.bind_ok] at Kj_6
  obtain rfl := Option.some.inj H
  refine ⟨⟨[.val ((eP2 (eP2 eI eI) (eP2 eI eI)) heights), Z1, Z2, .own ((eD2 (eO (eP2 eI eI))) j_6.1), .own ((eL (eP2 eI eI)) j_6.2), Z5, .val (eI X0), .no, .no, .no], T⟩, .inl ?_, ⟨.val (eI X0), rfl⟩⟩
  (push_cast [bd0_line_of, Kj_6, Nat.reduceAdd, Nat.reduceSub, Nat.reduceLT, Nat.reduceLeDiff, Int.reduceLT, Int.reduceLE, Int.reduceNeg, Int.reducePow, Int.reduceToNat]; try with_reducible rfl)
def s2_line_of (ahead : List ((Int × Int) × (Option (Int × Int)))) (here : Option (Int × Int)) (found : List (Int × Int)) : Option (Fw ((Option (Int × Int)) × (List (Int × Int))) (Option (List (Int × Int)))) :=
  optM here
    (none)
    (fun here_15 =>
      (snoc found here_15).bind fun found_16 =>
      (dlook ahead here_15).bind fun v_17 =>
      some (.nx (v_17, found_16)))
def I2_line_of (Z0 : Sl) (Z1 : Sl) (Z2 : Sl) (ahead : List ((Int × Int) × (Option (Int × Int)))) (Z4 : Sl) (Z5 : Sl) (Z6 : Sl) (Z9 : Sl) (T : DT) (Q : (Option (Int × Int)) × (List (Int × Int))) (E : DS) : Prop := E = ⟨[Z0, Z1, Z2, .own ((eD2 (eO (eP2 eI eI))) ahead), Z4, Z5, Z6, .val ((eO (eP2 eI eI)) Q.1), .own ((eL (eP2 eI eI)) Q.2), Z9], T⟩
theorem l2_line_of_bd (Z0 : Sl) (Z1 : Sl) (Z2 : Sl) (ahead : List ((Int × Int) × (Option (Int × Int)))) (Z4 : Sl) (Z5 : Sl) (Z6 : Sl) (Z9 : Sl) (T : DT) (here : Option (Int × Int)) (found : List (Int × Int)) (E : DS) (HI : I2_line_of Z0 Z1 Z2 ahead Z4 Z5 Z6 Z9 T (here, found) E) {O : Fw ((Option (Int × Int)) × (List (Int × Int))) (Option (List (Int × Int)))} (H : s2_line_of ahead here found = some O) : BodyOk bd1_line_of E (I2_line_of Z0 Z1 Z2 ahead Z4 Z5 Z6 Z9 T) (fun V : (Option (List (Int × Int))) => ((eO (eL (eP2 eI eI))) V, false)) (fun _ E => E.t = T) O := by
  subst HI
  unfold s2_line_of at H
  rcases optM_inv H with ⟨Hhere_15, H⟩ | ⟨here_15, Hhere_15, H⟩
  · -- none
    cases H
  · -- some
    obtain ⟨found_16, Hfound_16, H⟩ := Option.bind_eq_some_iff.mp H
    have Kfound_16 : appU (.tup false [(.int here_15.1), (.int here_15.2)]) (.lst (List.map (eP2 eI eI) found)) = some ((.lst (List.map (eP2 eI eI) found_16)), .non) := by
      have := appU_L (eP2 eI eI) found here_15
      rw [Hfound_16] at this
      exact this
    obtain ⟨v_17, Hv_17, H⟩ := Option.bind_eq_some_iff.mp H
    have Kv_17 : ixG ((eD2 (eO (eP2 eI eI))) ahead) (.tup false [(.int here_15.1), (.int here_15.2)]) = some ((eO (eP2 eI eI)) v_17) := by
      have := ixD2 (eO (eP2 eI eI)) ahead false here_15.1 here_15.2
      rw [show dlook ahead _ = _ from Hv_17] at this
      exact this
    obtain rfl := Option.some.inj H
    refine ⟨⟨[Z0, Z1, Z2, .own ((eD2 (eO (eP2 eI eI))) ahead), Z4, Z5, Z6, .val ((eO (eP2 eI eI)) v_17), .own ((eL (eP2 eI eI)) found_16), Z9], T⟩, .inl ?_, rfl⟩
    (push_cast [bd1_line_of, Hhere_15, Kfound_16, Kv_17, Nat.reduceAdd, Nat.reduceSub, Nat.reduceLT, Nat.reduceLeDiff, Int.reduceLT, Int.reduceLE, Int.reduceNeg, Int.reducePow, Int.reduceToNat]; try with_reducible rfl)
theorem l2_line_of_ts (Z0 : Sl) (Z1 : Sl) (Z2 : Sl) (ahead : List ((Int × Int) × (Option (Int × Int)))) (Z4 : Sl) (Z5 : Sl) (Z6 : Sl) (Z9 : Sl) (T : DT) (here : Option (Int × Int)) (found : List (Int × Int)) (E : DS) (HI : I2_line_of Z0 Z1 Z2 ahead Z4 Z5 Z6 Z9 T (here, found) E) : ts0_line_of E = .ok here.isSome E := by
  subst HI
  have K_14 := isO_t (eP2 eI eI) here
  (push_cast [ts0_line_of, K_14, t_and, t_or, e_and, e_or, i_andT, i_orT, i_andE, i_orE, i_int, k_if, k_ch3, Nat.reduceAdd, Nat.reduceSub, Nat.reduceLT, Nat.reduceLeDiff, Int.reduceLT, Int.reduceLE, Int.reduceNeg, Int.reducePow, Int.reduceToNat]; try with_reducible rfl)
def c2_line_of (ahead : List ((Int × Int) × (Option (Int × Int)))) (here : Option (Int × Int)) (found : List (Int × Int)) : Option Bool := some here.isSome
def x0_line_of (heights : (Int × Int) × (Int × Int)) (ahead : List ((Int × Int) × (Option (Int × Int)))) (cell : Int × Int) : Option Bool :=
  if (!((dlook ahead cell).isSome)) = true then
    (idx ([heights.1, heights.2]) cell.1).bind fun v_27 =>
    (idx ([v_27.1, v_27.2]) cell.2).bind fun v_28 =>
    some (decide (v_28 = 0))
  else
  some false
theorem x0_line_of_ok (heights : (Int × Int) × (Int × Int)) (Z1 : Sl) (Z2 : Sl) (ahead : List ((Int × Int) × (Option (Int × Int)))) (Z4 : Sl) (Z5 : Sl) (Z6 : Sl) (Z7 : Sl) (Z8 : Sl) (cell : Int × Int) (T : DT) {W : Bool} (H : x0_line_of heights ahead cell = some W) : te0_line_of ⟨[.val ((eP2 (eP2 eI eI) (eP2 eI eI)) heights), Z1, Z2, .own ((eD2 (eO (eP2 eI eI))) ahead), Z4, Z5, Z6, Z7, Z8, .val ((eP2 eI eI) cell)], T⟩ = .ok W ⟨[.val ((eP2 (eP2 eI eI) (eP2 eI eI)) heights), Z1, Z2, .own ((eD2 (eO (eP2 eI eI))) ahead), Z4, Z5, Z6, Z7, Z8, .val ((eP2 eI eI) cell)], T⟩ := by
  unfold x0_line_of at H
  have K_25 : inG true (.tup false [(.int cell.1), (.int cell.2)]) ((eD2 (eO (eP2 eI eI))) ahead) = some (.bl (true != (dlook ahead cell).isSome)) := inD2 true (eO (eP2 eI eI)) ahead false cell.1 cell.2
  rcases iteB_inv H with ⟨C_26, H⟩ | ⟨C_26, H⟩
  · -- +
    obtain ⟨v_27, Hv_27, H⟩ := Option.bind_eq_some_iff.mp H
    have Kv_27 : ixG (.tup false [(.tup false [(.int heights.1.1), (.int heights.1.2)]), (.tup false [(.int heights.2.1), (.int heights.2.2)])]) (.int cell.1) = some (.tup false [(.int v_27.1), (.int v_27.2)]) := by
      have := ixG_U false (eP2 eI eI) ([heights.1, heights.2]) cell.1
      rw [Hv_27] at this
      exact this
    obtain ⟨v_28, Hv_28, H⟩ := Option.bind_eq_some_iff.mp H
    have Kv_28 : ixG (.tup false [(.int v_27.1), (.int v_27.2)]) (.int cell.2) = some (.int v_28) := by
      have := ixG_U false eI ([v_27.1, v_27.2]) cell.2
      rw [Hv_28] at this
      exact this
    obtain rfl := Option.some.inj H
    (push_cast [te0_line_of, K_25, C_26, Kv_27, Kv_28, Nat.reduceAdd, Nat.reduceSub, Nat.reduceLT, Nat.reduceLeDiff, Int.reduceLT, Int.reduceLE, Int.reduceNeg, Int.reducePow, Int.reduceToNat]; try with_reducible rfl)
  · -- -
    obtain rfl := Option.some.inj H
    (push_cast [te0_line_of, K_25, C_26, Nat.reduceAdd, Nat.reduceSub, Nat.reduceLT, Nat.reduceLeDiff, Int.reduceLT, Int.reduceLE, Int.reduceNeg, Int.reducePow, Int.reduceToNat]; try with_reducible rfl)
def j1_line_of (heights : (Int × Int) × (Int × Int)) (ahead : List ((Int × Int) × (Option (Int × Int)))) (waiting : List (Int × Int)) (here : Int × Int) (cell : Int × Int) : Option ((List ((Int × Int) × (Option (Int × Int)))) × (List (Int × Int))) :=
  (x0_line_of heights ahead cell).bind fun w_29 =>
  if w_29 = true then
    (dputO ahead cell (some here)).bind fun ahead_31 =>
    (snoc waiting cell).bind fun waiting_32 =>
    some (ahead_31, waiting_32)
  else
  some (ahead, waiting)
theorem j1_line_of_ok (heights : (Int × Int) × (Int × Int)) (Z1 : Sl) (Z2 : Sl) (ahead : List ((Int × Int) × (Option (Int × Int)))) (waiting : List (Int × Int)) (Z5 : Sl) (Z6 : Sl) (here : Int × Int) (Z8 : Sl) (cell : Int × Int) (T : DT) {W : (List ((Int × Int) × (Option (Int × Int)))) × (List (Int × Int))} (H : j1_line_of heights ahead waiting here cell = some W) : jf1_line_of ⟨[.val ((eP2 (eP2 eI eI) (eP2 eI eI)) heights), Z1, Z2, .own ((eD2 (eO (eP2 eI eI))) ahead), .own ((eL (eP2 eI eI)) waiting), Z5, Z6, .val ((eP2 eI eI) here), Z8, .val ((eP2 eI eI) cell)], T⟩ = .ok .nx ⟨[.val ((eP2 (eP2 eI eI) (eP2 eI eI)) heights), Z1, Z2, .own ((eD2 (eO (eP2 eI eI))) W.1), .own ((eL (eP2 eI eI)) W.2), Z5, Z6, .val ((eP2 eI eI) here), Z8, .val ((eP2 eI eI) cell)], T⟩ := by
  unfold j1_line_of at H
  obtain ⟨w_29, Hw_29, H⟩ := Option.bind_eq_some_iff.mp H
  have Kw_29 := x0_line_of_ok heights Z1 Z2 ahead (.own ((eL (eP2 eI eI)) waiting)) Z5 Z6 (.val ((eP2 eI eI) here)) Z8 cell T Hw_29
  try push_cast [DR.bind_ok] at Kw_29
  rcases iteB_inv H with ⟨C_30, H⟩ | ⟨C_30, H⟩
  · -- +
    obtain ⟨ahead_31, Hahead_31, H⟩ := Option.bind_eq_some_iff.mp H
    have Kahead_31 : setU (.tup false [(.int cell.1), (.int cell.2)]) (.tup false [(.int here.1), (.int here.2)]) ((eD2 (eO (eP2 eI eI))) ahead) = some (((eD2 (eO (eP2 eI eI))) ahead_31), .non) := by
      have := setD2 (eO (eP2 eI eI)) ahead cell.1 cell.2 (some here)
      rw [show dputO ahead _ _ = _ from Hahead_31] at this
      exact this
    obtain ⟨waiting_32, Hwaiting_32, H⟩ := Option.bind_eq_some_iff.mp H
    have Kwaiting_32 : appU (.tup false [(.int cell.1), (.int cell.2)]) (.lst (List.map (eP2 eI eI) waiting)) = some ((.lst (List.map (eP2 eI eI) waiting_32)), .non) := by
      have := appU_L (eP2 eI eI) waiting cell
      rw [Hwaiting_32] at this
      exact this
    obtain rfl := Option.some.inj H
    (push_cast [jf1_line_of, Kw_29, C_30, Kahead_31, Kwaiting_32, Nat.reduceAdd, Nat.reduceSub, Nat.reduceLT, Nat.reduceLeDiff, Int.reduceLT, Int.reduceLE, Int.reduceNeg, Int.reducePow, Int.reduceToNat]; try with_reducible rfl)
  · -- -
    obtain rfl := Option.some.inj H
    (push_cast [jf1_line_of, Kw_29, C_30, Nat.reduceAdd, Nat.reduceSub, Nat.reduceLT, Nat.reduceLeDiff, Int.reduceLT, Int.reduceLE, Int.reduceNeg, Int.reducePow, Int.reduceToNat]; try with_reducible rfl)
def s3_line_of (heights : (Int × Int) × (Int × Int)) (here : Int × Int) (ahead : List ((Int × Int) × (Option (Int × Int)))) (waiting : List (Int × Int)) (X3 : Int × Int) : Option (((List ((Int × Int) × (Option (Int × Int)))) × (List (Int × Int)))) :=
  (j1_line_of heights ahead waiting here X3).bind fun j_33 =>
  some (j_33.1, j_33.2)
def I3_line_of (heights : (Int × Int) × (Int × Int)) (Z1 : Sl) (Z2 : Sl) (Z5 : Sl) (Z6 : Sl) (here : Int × Int) (Z8 : Sl) (T : DT) (Q : (List ((Int × Int) × (Option (Int × Int)))) × (List (Int × Int))) (E : DS) : Prop := ∃ D9, E = ⟨[.val ((eP2 (eP2 eI eI) (eP2 eI eI)) heights), Z1, Z2, .own ((eD2 (eO (eP2 eI eI))) Q.1), .own ((eL (eP2 eI eI)) Q.2), Z5, Z6, .val ((eP2 eI eI) here), Z8, D9], T⟩
theorem l3_line_of_bd (heights : (Int × Int) × (Int × Int)) (Z1 : Sl) (Z2 : Sl) (Z5 : Sl) (Z6 : Sl) (here : Int × Int) (Z8 : Sl) (T : DT) (ahead : List ((Int × Int) × (Option (Int × Int)))) (waiting : List (Int × Int)) (X3 : Int × Int) (E : DS) (HI : I3_line_of heights Z1 Z2 Z5 Z6 here Z8 T (ahead, waiting) E) {O : ((List ((Int × Int) × (Option (Int × Int)))) × (List (Int × Int)))} (H : s3_line_of heights here ahead waiting X3 = some O) : ∃ E1, asgT (.nm 9) ((eP2 eI eI) X3) E.e = some E1 ∧ ∃ E2, (bd2_line_of ⟨E1, E.t⟩ = .ok .nx E2 ∨ bd2_line_of ⟨E1, E.t⟩ = .ok .ct E2) ∧ I3_line_of heights Z1 Z2 Z5 Z6 here Z8 T O E2 := by
  obtain ⟨D9, rfl⟩ := HI
  refine ⟨[.val ((eP2 (eP2 eI eI) (eP2 eI eI)) heights), Z1, Z2, .own ((eD2 (eO (eP2 eI eI))) ahead), .own ((eL (eP2 eI eI)) waiting), Z5, Z6, .val ((eP2 eI eI) here), Z8, .val ((eP2 eI eI) X3)], rfl, ?_⟩
  unfold s3_line_of at H
  obtain ⟨j_33, Hj_33, H⟩ := Option.bind_eq_some_iff.mp H
  have Kj_33 := j1_line_of_ok heights Z1 Z2 ahead waiting Z5 Z6 here Z8 X3 T Hj_33
  try push_cast [DR.bind_ok] at Kj_33
  obtain rfl := Option.some.inj H
  refine ⟨⟨[.val ((eP2 (eP2 eI eI) (eP2 eI eI)) heights), Z1, Z2, .own ((eD2 (eO (eP2 eI eI))) j_33.1), .own ((eL (eP2 eI eI)) j_33.2), Z5, Z6, .val ((eP2 eI eI) here), Z8, .val ((eP2 eI eI) X3)], T⟩, .inl ?_, ⟨.val ((eP2 eI eI) X3), rfl⟩⟩
  (push_cast [bd2_line_of, Kj_33, Nat.reduceAdd, Nat.reduceSub, Nat.reduceLT, Nat.reduceLeDiff, Int.reduceLT, Int.reduceLE, Int.reduceNeg, Int.reducePow, Int.reduceToNat]; try with_reducible rfl)
def s1_line_of (heights : (Int × Int) × (Int × Int)) (high : Int) (wide : Int) (ahead : List ((Int × Int) × (Option (Int × Int)))) (waiting : List (Int × Int)) (at_ : Int) : Option (Fw ((List ((Int × Int) × (Option (Int × Int)))) × (List (Int × Int)) × Int) (Option (List (Int × Int)))) :=
  (idx waiting at_).bind fun v_12 =>
  if v_12.2 = (wide - 1) then
    (whileO (fun Q => c2_line_of ahead Q.1 Q.2) (fun Q => s2_line_of ahead Q.1 Q.2) fuel ((some v_12), ([] : List (Int × Int)))).bind fun l_18 =>
    sumM l_18 (fun s_20 =>
      some (.rt (some s_20.2.reverse)))
      (fun r_21 => none)
  else
  (m_around high wide v_12).bind fun r_24 =>
  (foldO (fun Q X3 => s3_line_of heights v_12 Q.1 Q.2 X3) r_24 (ahead, waiting)).bind fun l_34 =>
  some (.nx (l_34.1, l_34.2, (at_ + 1)))
def I1_line_of (heights : (Int × Int) × (Int × Int)) (high : Int) (wide : Int) (Z6 : Sl) (T : DT) (Q : (List ((Int × Int) × (Option (Int × Int)))) × (List (Int × Int)) × Int) (E : DS) : Prop := ∃ D7 D8 D9, E = ⟨[.val ((eP2 (eP2 eI eI) (eP2 eI eI)) heights), .val (eI high), .val (eI wide), .own ((eD2 (eO (eP2 eI eI))) Q.1), .own ((eL (eP2 eI eI)) Q.2.1), .val (eI Q.2.2), Z6, D7, D8, D9], T⟩
theorem l1_line_of_bd (heights : (Int × Int) × (Int × Int)) (high : Int) (wide : Int) (Z6 : Sl) (T : DT) (ahead : List ((Int × Int) × (Option (Int × Int)))) (waiting : List (Int × Int)) (at_ : Int) (E : DS) (HI : I1_line_of heights high wide Z6 T (ahead, waiting, at_) E) {O : Fw ((List ((Int × Int) × (Option (Int × Int)))) × (List (Int × Int)) × Int) (Option (List (Int × Int)))} (H : s1_line_of heights high wide ahead waiting at_ = some O) : BodyOk bd3_line_of E (I1_line_of heights high wide Z6 T) (fun V : (Option (List (Int × Int))) => ((eO (eL (eP2 eI eI))) V, false)) (fun _ E => E.t = T) O := by
  obtain ⟨D7, D8, D9, rfl⟩ := HI
  unfold s1_line_of at H
  obtain ⟨v_12, Hv_12, H⟩ := Option.bind_eq_some_iff.mp H
  have Kv_12 : ixG (.lst (List.map (eP2 eI eI) waiting)) (.int at_) = some (.tup false [(.int v_12.1), (.int v_12.2)]) := by
    have := ixG_L (eP2 eI eI) waiting at_
    rw [Hv_12] at this
    exact this
  rcases ite_inv H with ⟨C_13, H⟩ | ⟨C_13, H⟩
  · -- +
    replace C_13 := decide_eq_true C_13
    obtain ⟨l_18, Hl_18, H⟩ := Option.bind_eq_some_iff.mp H
    have Kl_18 := while_sim (I := I2_line_of (.val ((eP2 (eP2 eI eI) (eP2 eI eI)) heights)) (.val (eI high)) (.val (eI wide)) ahead (.own ((eL (eP2 eI eI)) waiting)) (.val (eI (at_ + 1))) Z6 D9 T) (R := (fun V : (Option (List (Int × Int))) => ((eO (eL (eP2 eI eI))) V, false))) (J := (fun _ E => E.t = T)) (tt := ts0_line_of) (b := bd1_line_of) (fun Q E W HI H => by cases H; exact l2_line_of_ts (.val ((eP2 (eP2 eI eI) (eP2 eI eI)) heights)) (.val (eI high)) (.val (eI wide)) ahead (.own ((eL (eP2 eI eI)) waiting)) (.val (eI (at_ + 1))) Z6 D9 T Q.1 Q.2 E HI) (fun Q E O HI _ H => l2_line_of_bd (.val ((eP2 (eP2 eI eI) (eP2 eI eI)) heights)) (.val (eI high)) (.val (eI wide)) ahead (.own ((eL (eP2 eI eI)) waiting)) (.val (eI (at_ + 1))) Z6 D9 T Q.1 Q.2 E HI H) fuel ((some v_12), ([] : List (Int × Int))) ⟨[.val ((eP2 (eP2 eI eI) (eP2 eI eI)) heights), .val (eI high), .val (eI wide), .own ((eD2 (eO (eP2 eI eI))) ahead), .own ((eL (eP2 eI eI)) waiting), .val (eI (at_ + 1)), Z6, .val ((eP2 eI eI) v_12), .own ((eL (eP2 eI eI)) ([] : List (Int × Int))), D9], T⟩ _ rfl Hl_18
    rcases sumM_inv H with ⟨s_20, HO, H⟩ | ⟨r_21, HO, H⟩
    · subst HO
      obtain ⟨E_19, Kl_18, rfl⟩ := Kl_18
      have K_22 : wl0_line_of ⟨[.val ((eP2 (eP2 eI eI) (eP2 eI eI)) heights), .val (eI high), .val (eI wide), .own ((eD2 (eO (eP2 eI eI))) ahead), .own ((eL (eP2 eI eI)) waiting), .val (eI (at_ + 1)), Z6, .val ((eP2 eI eI) v_12), .own ((eL (eP2 eI eI)) ([] : List (Int × Int))), D9], T⟩ = .ok .nx ⟨[.val ((eP2 (eP2 eI eI) (eP2 eI eI)) heights), .val (eI high), .val (eI wide), .own ((eD2 (eO (eP2 eI eI))) ahead), .own ((eL (eP2 eI eI)) waiting), .val (eI (at_ + 1)), Z6, .val ((eO (eP2 eI eI)) s_20.1), .own ((eL (eP2 eI eI)) s_20.2), D9], T⟩ := by
        exact Kl_18
      try push_cast [DR.bind_ok] at K_22
      obtain rfl := Option.some.inj H
      refine ⟨⟨[.val ((eP2 (eP2 eI eI) (eP2 eI eI)) heights), .val (eI high), .val (eI wide), .own ((eD2 (eO (eP2 eI eI))) ahead), .own ((eL (eP2 eI eI)) waiting), .val (eI (at_ + 1)), Z6, .val ((eO (eP2 eI eI)) s_20.1), .own ((eL (eP2 eI eI)) s_20.2), D9], T⟩, ?_, rfl⟩
      (push_cast [bd3_line_of, Kv_12, C_13, K_22, Nat.reduceAdd, Nat.reduceSub, Nat.reduceLT, Nat.reduceLeDiff, Int.reduceLT, Int.reduceLE, Int.reduceNeg, Int.reducePow, Int.reduceToNat]; try with_reducible rfl)
    · subst HO
      cases H
  · -- -
    replace C_13 := decide_eq_false C_13
    obtain ⟨r_24, Hr_24, H⟩ := Option.bind_eq_some_iff.mp H
    have Kr_24 : F_around [(.int high), (.int wide), (.tup false [(.int v_12.1), (.int v_12.2)])] T = .ok (.lst (List.map (eP2 eI eI) r_24)) true T := w_around high wide v_12 T Hr_24
    obtain ⟨l_34, Hl_34, H⟩ := Option.bind_eq_some_iff.mp H
    have K_35 : it1_line_of ⟨[.val ((eP2 (eP2 eI eI) (eP2 eI eI)) heights), .val (eI high), .val (eI wide), .own ((eD2 (eO (eP2 eI eI))) ahead), .own ((eL (eP2 eI eI)) waiting), .val (eI (at_ + 1)), Z6, .val ((eP2 eI eI) v_12), D8, D9], T⟩ = .ok (r_24.map (eP2 eI eI)) ⟨[.val ((eP2 (eP2 eI eI) (eP2 eI eI)) heights), .val (eI high), .val (eI wide), .own ((eD2 (eO (eP2 eI eI))) ahead), .own ((eL (eP2 eI eI)) waiting), .val (eI (at_ + 1)), Z6, .val ((eP2 eI eI) v_12), D8, D9], T⟩ := by (push_cast [it1_line_of, Kv_12, C_13, Kr_24, Nat.reduceAdd, Nat.reduceSub, Nat.reduceLT, Nat.reduceLeDiff, Int.reduceLT, Int.reduceLE, Int.reduceNeg, Int.reducePow, Int.reduceToNat]; try with_reducible rfl)
    have Kl_34 := for_fold (I := I3_line_of heights (.val (eI high)) (.val (eI wide)) (.val (eI (at_ + 1))) Z6 v_12 D8 T) (tg := (.nm 9)) (b := bd2_line_of) (E := (eP2 eI eI)) (fun Q E X3 O HI H => l3_line_of_bd heights (.val (eI high)) (.val (eI wide)) (.val (eI (at_ + 1))) Z6 v_12 D8 T Q.1 Q.2 X3 E HI H) r_24 (ahead, waiting) ⟨[.val ((eP2 (eP2 eI eI) (eP2 eI eI)) heights), .val (eI high), .val (eI wide), .own ((eD2 (eO (eP2 eI eI))) ahead), .own ((eL (eP2 eI eI)) waiting), .val (eI (at_ + 1)), Z6, .val ((eP2 eI eI) v_12), D8, D9], T⟩ _ ⟨D9, rfl⟩ Hl_34
    obtain ⟨E_37, Kl_34, ⟨D_36, rfl⟩⟩ := Kl_34
    have K_38 : lp1_line_of ⟨[.val ((eP2 (eP2 eI eI) (eP2 eI eI)) heights), .val (eI high), .val (eI wide), .own ((eD2 (eO (eP2 eI eI))) ahead), .own ((eL (eP2 eI eI)) waiting), .val (eI (at_ + 1)), Z6, .val ((eP2 eI eI) v_12), D8, D9], T⟩ = .ok .nx ⟨[.val ((eP2 (eP2 eI eI) (eP2 eI eI)) heights), .val (eI high), .val (eI wide), .own ((eD2 (eO (eP2 eI eI))) l_34.1), .own ((eL (eP2 eI eI)) l_34.2), .val (eI (at_ + 1)), Z6, .val ((eP2 eI eI) v_12), D8, D_36], T⟩ := by
      show forS _ _ _ _ = _
      rw [forS_ap, K_35, bind_ok]; exact Kl_34
    try push_cast [DR.bind_ok] at K_38
    obtain rfl := Option.some.inj H
    refine ⟨⟨[.val ((eP2 (eP2 eI eI) (eP2 eI eI)) heights), .val (eI high), .val (eI wide), .own ((eD2 (eO (eP2 eI eI))) l_34.1), .own ((eL (eP2 eI eI)) l_34.2), .val (eI (at_ + 1)), Z6, .val ((eP2 eI eI) v_12), D8, D_36], T⟩, .inl ?_, ⟨.val ((eP2 eI eI) v_12), D8, D_36, rfl⟩⟩
    (push_cast [bd3_line_of, Kv_12, C_13, Kr_24, K_38, Nat.reduceAdd, Nat.reduceSub, Nat.reduceLT, Nat.reduceLeDiff, Int.reduceLT, Int.reduceLE, Int.reduceNeg, Int.reducePow, Int.reduceToNat]; try with_reducible rfl)
theorem l1_line_of_ts (heights : (Int × Int) × (Int × Int)) (high : Int) (wide : Int) (Z6 : Sl) (T : DT) (ahead : List ((Int × Int) × (Option (Int × Int)))) (waiting : List (Int × Int)) (at_ : Int) (E : DS) (HI : I1_line_of heights high wide Z6 T (ahead, waiting, at_) E) : ts1_line_of E = .ok (decide (at_ < (waiting.length : Int))) E := by
  obtain ⟨D7, D8, D9, rfl⟩ := HI
  (push_cast [ts1_line_of, t_and, t_or, e_and, e_or, i_andT, i_orT, i_andE, i_orE, i_int, k_if, k_ch3, Nat.reduceAdd, Nat.reduceSub, Nat.reduceLT, Nat.reduceLeDiff, Int.reduceLT, Int.reduceLE, Int.reduceNeg, Int.reducePow, Int.reduceToNat]; try with_reducible rfl)
def c1_line_of (heights : (Int × Int) × (Int × Int)) (high : Int) (wide : Int) (ahead : List ((Int × Int) × (Option (Int × Int)))) (waiting : List (Int × Int)) (at_ : Int) : Option Bool := some (decide (at_ < (waiting.length : Int)))
def m_line_of (heights : (Int × Int) × (Int × Int)) : Option (Option (List (Int × Int))) :=
  (rngO 0 2).bind fun g_1 =>
  (foldO (fun Q X0 => s0_line_of heights Q.1 Q.2 X0) g_1 ([], ([] : List (Int × Int)))).bind fun l_7 =>
  (whileO (fun Q => c1_line_of heights 2 2 Q.1 Q.2.1 Q.2.2) (fun Q => s1_line_of heights 2 2 Q.1 Q.2.1 Q.2.2) fuel (l_7.1, l_7.2, 0)).bind fun l_39 =>
  sumM l_39 (fun s_44 =>
    some none)
    (fun r_45 => some r_45)
theorem w_line_of (heights : (Int × Int) × (Int × Int)) (T : DT) {V : (Option (List (Int × Int)))} (H : m_line_of heights = some V) : F_line_of [(eP2 (eP2 eI eI) (eP2 eI eI)) heights] T = .ok ((eO (eL (eP2 eI eI))) V) false T := by
  unfold m_line_of at H
  obtain ⟨g_1, Hg_1, H⟩ := Option.bind_eq_some_iff.mp H
  obtain ⟨l_7, Hl_7, H⟩ := Option.bind_eq_some_iff.mp H
  have K_8 : it0_line_of ⟨[.val ((eP2 (eP2 eI eI) (eP2 eI eI)) heights), .val (eI 2), .val (eI 2), .own ((eD2 (eO (eP2 eI eI))) ([])), .own ((eL (eP2 eI eI)) ([] : List (Int × Int))), .val (eI 0), .no, .no, .no, .no], T⟩ = .ok (g_1.map eI) ⟨[.val ((eP2 (eP2 eI eI) (eP2 eI eI)) heights), .val (eI 2), .val (eI 2), .own ((eD2 (eO (eP2 eI eI))) ([])), .own ((eL (eP2 eI eI)) ([] : List (Int × Int))), .val (eI 0), .no, .no, .no, .no], T⟩ := by (push_cast [it0_line_of, newD2 (eO (eP2 eI eI)), Hg_1, Nat.reduceAdd, Nat.reduceSub, Nat.reduceLT, Nat.reduceLeDiff, Int.reduceLT, Int.reduceLE, Int.reduceNeg, Int.reducePow, Int.reduceToNat]; try with_reducible rfl)
  have Kl_7 := for_fold (I := I0_line_of heights (.val (eI 2)) (.val (eI 2)) (.val (eI 0)) T) (tg := (.nm 6)) (b := bd0_line_of) (E := eI) (fun Q E X0 O HI H => l0_line_of_bd heights (.val (eI 2)) (.val (eI 2)) (.val (eI 0)) T Q.1 Q.2 X0 E HI H) g_1 ([], ([] : List (Int × Int))) ⟨[.val ((eP2 (eP2 eI eI) (eP2 eI eI)) heights), .val (eI 2), .val (eI 2), .own ((eD2 (eO (eP2 eI eI))) ([])), .own ((eL (eP2 eI eI)) ([] : List (Int × Int))), .val (eI 0), .no, .no, .no, .no], T⟩ _ ⟨.no, rfl⟩ Hl_7
  obtain ⟨E_10, Kl_7, ⟨D_9, rfl⟩⟩ := Kl_7
  have K_11 : lp0_line_of ⟨[.val ((eP2 (eP2 eI eI) (eP2 eI eI)) heights), .val (eI 2), .val (eI 2), .own ((eD2 (eO (eP2 eI eI))) ([])), .own ((eL (eP2 eI eI)) ([] : List (Int × Int))), .val (eI 0), .no, .no, .no, .no], T⟩ = .ok .nx ⟨[.val ((eP2 (eP2 eI eI) (eP2 eI eI)) heights), .val (eI 2), .val (eI 2), .own ((eD2 (eO (eP2 eI eI))) l_7.1), .own ((eL (eP2 eI eI)) l_7.2), .val (eI 0), D_9, .no, .no, .no], T⟩ := by
    show forS _ _ _ _ = _
    rw [forS_ap, K_8, bind_ok]; exact Kl_7
  try push_cast [DR.bind_ok] at K_11
  obtain ⟨l_39, Hl_39, H⟩ := Option.bind_eq_some_iff.mp H
  have Kl_39 := while_sim (I := I1_line_of heights 2 2 D_9 T) (R := (fun V : (Option (List (Int × Int))) => ((eO (eL (eP2 eI eI))) V, false))) (J := (fun _ E => E.t = T)) (tt := ts1_line_of) (b := bd3_line_of) (fun Q E W HI H => by cases H; exact l1_line_of_ts heights 2 2 D_9 T Q.1 Q.2.1 Q.2.2 E HI) (fun Q E O HI _ H => l1_line_of_bd heights 2 2 D_9 T Q.1 Q.2.1 Q.2.2 E HI H) fuel (l_7.1, l_7.2, 0) ⟨[.val ((eP2 (eP2 eI eI) (eP2 eI eI)) heights), .val (eI 2), .val (eI 2), .own ((eD2 (eO (eP2 eI eI))) l_7.1), .own ((eL (eP2 eI eI)) l_7.2), .val (eI 0), D_9, .no, .no, .no], T⟩ _ ⟨.no, .no, .no, rfl⟩ Hl_39
  rcases sumM_inv H with ⟨s_44, HO, H⟩ | ⟨r_45, HO, H⟩
  · subst HO
    obtain ⟨E_43, Kl_39, ⟨D_40, D_41, D_42, rfl⟩⟩ := Kl_39
    have K_46 : wl1_line_of ⟨[.val ((eP2 (eP2 eI eI) (eP2 eI eI)) heights), .val (eI 2), .val (eI 2), .own ((eD2 (eO (eP2 eI eI))) l_7.1), .own ((eL (eP2 eI eI)) l_7.2), .val (eI 0), D_9, .no, .no, .no], T⟩ = .ok .nx ⟨[.val ((eP2 (eP2 eI eI) (eP2 eI eI)) heights), .val (eI 2), .val (eI 2), .own ((eD2 (eO (eP2 eI eI))) s_44.1), .own ((eL (eP2 eI eI)) s_44.2.1), .val (eI s_44.2.2), D_9, D_40, D_41, D_42], T⟩ := by
      exact Kl_39
    try push_cast [DR.bind_ok] at K_46
    obtain rfl := Option.some.inj H
    (push_cast [F_line_of, b_line_of, newD2 (eO (eP2 eI eI)), Hg_1, K_11, K_46, Nat.reduceAdd, Nat.reduceSub, Nat.reduceLT, Nat.reduceLeDiff, Int.reduceLT, Int.reduceLE, Int.reduceNeg, Int.reducePow, Int.reduceToNat]; try with_reducible rfl)
  · subst HO
    obtain ⟨⟨E_47, E_47t⟩, Kl_39, HT⟩ := Kl_39
    replace HT : E_47t = T := HT
    rw [HT] at Kl_39
    have K_46 : wl1_line_of ⟨[.val ((eP2 (eP2 eI eI) (eP2 eI eI)) heights), .val (eI 2), .val (eI 2), .own ((eD2 (eO (eP2 eI eI))) l_7.1), .own ((eL (eP2 eI eI)) l_7.2), .val (eI 0), D_9, .no, .no, .no], T⟩ = .ok (.rt ((eO (eL (eP2 eI eI))) r_45) false) ⟨E_47, T⟩ := by
      exact Kl_39
    try push_cast [DR.bind_ok] at K_46
    obtain rfl := Option.some.inj H
    (push_cast [F_line_of, b_line_of, newD2 (eO (eP2 eI eI)), Hg_1, K_11, K_46, Nat.reduceAdd, Nat.reduceSub, Nat.reduceLT, Nat.reduceLeDiff, Int.reduceLT, Int.reduceLE, Int.reduceNeg, Int.reducePow, Int.reduceToNat]; try with_reducible rfl)
def m_line_told (high : Int) (wide : Int) (heights : (Int × Int) × (Int × Int)) : Option (List (Int × Int)) :=
  (m_check_heights high wide heights).bind fun r_1 =>
  (m_is_up_down heights).bind fun r_2 =>
  if (!r_2) = true then
    none
  else
  (m_line_of heights).bind fun r_4 =>
  (r_4).bind fun u_5 =>
  some u_5
theorem w_line_told (high : Int) (wide : Int) (heights : (Int × Int) × (Int × Int)) (T : DT) {V : (List (Int × Int))} (H : m_line_told high wide heights = some V) : F_line_told [eI high, eI wide, (eP2 (eP2 eI eI) (eP2 eI eI)) heights] T = .ok ((eU (eP2 eI eI)) V) false T := by
  unfold m_line_told at H
  obtain ⟨r_1, Hr_1, H⟩ := Option.bind_eq_some_iff.mp H
  have Kr_1 : F_check_heights [(.int high), (.int wide), (.tup false [(.tup false [(.int heights.1.1), (.int heights.1.2)]), (.tup false [(.int heights.2.1), (.int heights.2.2)])])] T = .ok .non false T := w_check_heights high wide heights T Hr_1
  obtain ⟨r_2, Hr_2, H⟩ := Option.bind_eq_some_iff.mp H
  have Kr_2 : F_is_up_down [(.tup false [(.tup false [(.int heights.1.1), (.int heights.1.2)]), (.tup false [(.int heights.2.1), (.int heights.2.2)])])] T = .ok (.bl r_2) false T := w_is_up_down heights T Hr_2
  rcases iteB_inv H with ⟨C_3, H⟩ | ⟨C_3, H⟩
  · -- +
    cases H
  · -- -
    obtain ⟨r_4, Hr_4, H⟩ := Option.bind_eq_some_iff.mp H
    have Kr_4 : F_line_of [(.tup false [(.tup false [(.int heights.1.1), (.int heights.1.2)]), (.tup false [(.int heights.2.1), (.int heights.2.2)])])] T = .ok ((eO (eL (eP2 eI eI))) r_4) false T := w_line_of heights T Hr_4
    obtain ⟨u_5, Hu_5, H⟩ := Option.bind_eq_some_iff.mp H
    obtain rfl := Option.some.inj H
    (push_cast [F_line_told, b_line_told, Kr_1, Kr_2, C_3, Kr_4, Hu_5, Nat.reduceAdd, Nat.reduceSub, Nat.reduceLT, Nat.reduceLeDiff, Int.reduceLT, Int.reduceLE, Int.reduceNeg, Int.reducePow, Int.reduceToNat]; try with_reducible rfl)
def m_check_number (number : Int) : Option Unit :=
  if (!(m_is_within number 0 1000000000000000000000000000000000000000000000000000000000000)) = true then
    none
  else
  some ()
theorem w_check_number (number : Int) (T : DT) {V : Unit} (H : m_check_number number = some V) : F_check_number [eI number] T = .ok (eN V) false T := by
  unfold m_check_number at H
  have K_1 : F_is_within [(.int number), (.int 0), (.int 1000000000000000000000000000000000000000000000000000000000000)] T = .ok (.bl (m_is_within number 0 1000000000000000000000000000000000000000000000000000000000000)) false T := w_is_within number 0 1000000000000000000000000000000000000000000000000000000000000 T rfl
  rcases iteB_inv H with ⟨C_2, H⟩ | ⟨C_2, H⟩
  · -- +
    cases H
  · -- -
    obtain rfl := Option.some.inj H
    (push_cast [F_check_number, b_check_number, K_1, C_2, Nat.reduceAdd, Nat.reduceSub, Nat.reduceLT, Nat.reduceLeDiff, Int.reduceLT, Int.reduceLE, Int.reduceNeg, Int.reducePow, Int.reduceToNat]; try with_reducible rfl)
def s0_digits (base : Int) (number : Int) (found : List Int) (X0 : Int) : Option ((Int × (List Int))) :=
  (modO number base).bind fun v_2 =>
  (snoc found v_2).bind fun found_3 =>
  (divO number base).bind fun v_4 =>
  some (v_4, found_3)
def I0_digits (Z1 : Sl) (base : Int) (T : DT) (Q : Int × (List Int)) (E : DS) : Prop := ∃ D4, E = ⟨[.val (eI Q.1), Z1, .val (eI base), .own ((eL eI) Q.2), D4], T⟩
theorem l0_digits_bd (Z1 : Sl) (base : Int) (T : DT) (number : Int) (found : List Int) (X0 : Int) (E : DS) (HI : I0_digits Z1 base T (number, found) E) {O : (Int × (List Int))} (H : s0_digits base number found X0 = some O) : ∃ E1, asgT (.nm 4) (eI X0) E.e = some E1 ∧ ∃ E2, (bd0_digits ⟨E1, E.t⟩ = .ok .nx E2 ∨ bd0_digits ⟨E1, E.t⟩ = .ok .ct E2) ∧ I0_digits Z1 base T O E2 := by
  obtain ⟨D4, rfl⟩ := HI
  refine ⟨[.val (eI number), Z1, .val (eI base), .own ((eL eI) found), .val (eI X0)], rfl, ?_⟩
  unfold s0_digits at H
  obtain ⟨v_2, Hv_2, H⟩ := Option.bind_eq_some_iff.mp H
  obtain ⟨found_3, Hfound_3, H⟩ := Option.bind_eq_some_iff.mp H
  have Kfound_3 : appU (.int v_2) (.lst (List.map eI found)) = some ((.lst (List.map eI found_3)), .non) := by
    have := appU_L eI found v_2
    rw [Hfound_3] at this
    exact this
  obtain ⟨v_4, Hv_4, H⟩ := Option.bind_eq_some_iff.mp H
  obtain rfl := Option.some.inj H
  refine ⟨⟨[.val (eI v_4), Z1, .val (eI base), .own ((eL eI) found_3), .val (eI X0)], T⟩, .inl ?_, ⟨.val (eI X0), rfl⟩⟩
  (push_cast [bd0_digits, Hv_2, Kfound_3, Hv_4, Nat.reduceAdd, Nat.reduceSub, Nat.reduceLT, Nat.reduceLeDiff, Int.reduceLT, Int.reduceLE, Int.reduceNeg, Int.reducePow, Int.reduceToNat]; try with_reducible rfl)
def m_digits (number : Int) (many : Int) (base : Int) : Option (List Int) :=
  (rngO 0 many).bind fun g_1 =>
  (foldO (fun Q X0 => s0_digits base Q.1 Q.2 X0) g_1 (number, ([] : List Int))).bind fun l_5 =>
  some l_5.2
theorem w_digits (number : Int) (many : Int) (base : Int) (T : DT) {V : (List Int)} (H : m_digits number many base = some V) : F_digits [eI number, eI many, eI base] T = .ok ((eL eI) V) false T := by
  unfold m_digits at H
  obtain ⟨g_1, Hg_1, H⟩ := Option.bind_eq_some_iff.mp H
  obtain ⟨l_5, Hl_5, H⟩ := Option.bind_eq_some_iff.mp H
  have K_6 : it0_digits ⟨[.val (eI number), .val (eI many), .val (eI base), .own ((eL eI) ([] : List Int)), .no], T⟩ = .ok (g_1.map eI) ⟨[.val (eI number), .val (eI many), .val (eI base), .own ((eL eI) ([] : List Int)), .no], T⟩ := by (push_cast [it0_digits, Hg_1, Nat.reduceAdd, Nat.reduceSub, Nat.reduceLT, Nat.reduceLeDiff, Int.reduceLT, Int.reduceLE, Int.reduceNeg, Int.reducePow, Int.reduceToNat]; try with_reducible rfl)
  have Kl_5 := for_fold (I := I0_digits (.val (eI many)) base T) (tg := (.nm 4)) (b := bd0_digits) (E := eI) (fun Q E X0 O HI H => l0_digits_bd (.val (eI many)) base T Q.1 Q.2 X0 E HI H) g_1 (number, ([] : List Int)) ⟨[.val (eI number), .val (eI many), .val (eI base), .own ((eL eI) ([] : List Int)), .no], T⟩ _ ⟨.no, rfl⟩ Hl_5
  obtain ⟨E_8, Kl_5, ⟨D_7, rfl⟩⟩ := Kl_5
  have K_9 : lp0_digits ⟨[.val (eI number), .val (eI many), .val (eI base), .own ((eL eI) ([] : List Int)), .no], T⟩ = .ok .nx ⟨[.val (eI l_5.1), .val (eI many), .val (eI base), .own ((eL eI) l_5.2), D_7], T⟩ := by
    show forS _ _ _ _ = _
    rw [forS_ap, K_6, bind_ok]; exact Kl_5
  try push_cast [DR.bind_ok] at K_9
  obtain rfl := Option.some.inj H
  (push_cast [F_digits, b_digits, Hg_1, K_9, Nat.reduceAdd, Nat.reduceSub, Nat.reduceLT, Nat.reduceLeDiff, Int.reduceLT, Int.reduceLE, Int.reduceNeg, Int.reducePow, Int.reduceToNat]; try with_reducible rfl)
theorem x0_drawn_heights_ok (high : Int) (wide : Int) (Z2 : Sl) (T : DT) : te0_drawn_heights ⟨[.val (eI high), .val (eI wide), Z2, .no, .no, .no, .no, .no], T⟩ = .ok ((!(m_is_within high 2 8)) || (!(m_is_within wide 2 8))) ⟨[.val (eI high), .val (eI wide), Z2, .no, .no, .no, .no, .no], T⟩ := by
  have K_2 : F_is_within [(.int high), (.int 2), (.int 8)] T = .ok (.bl (m_is_within high 2 8)) false T := w_is_within high 2 8 T rfl
  have K_3 : F_is_within [(.int wide), (.int 2), (.int 8)] T = .ok (.bl (m_is_within wide 2 8)) false T := w_is_within wide 2 8 T rfl
  (push_cast [te0_drawn_heights, K_2, K_3, t_and, t_or, e_and, e_or, i_andT, i_orT, i_andE, i_orE, i_int, k_if, k_ch3, Nat.reduceAdd, Nat.reduceSub, Nat.reduceLT, Nat.reduceLeDiff, Int.reduceLT, Int.reduceLE, Int.reduceNeg, Int.reducePow, Int.reduceToNat]; try with_reducible rfl)
theorem c0_drawn_heights_ok (high : Int) (wide : Int) (number : Int) (T : DT) (XS : List Int) (HX : (seqI (plainE (callO F_digits (consA (nameE 2) (consA (binE subI (plainE (binO addO (nameE 0) (nameE 1))) (constE (.int 2))) (consA (constE (.int 3)) nilA)))))) ⟨[.val (eI high), .val (eI wide), .val (eI number), .no, .no, .no, .no, .no], T⟩ = .ok (XS.map eI) ⟨[.val (eI high), .val (eI wide), .val (eI number), .no, .no, .no, .no, .no], T⟩) {Y : List Int} (H : lenO (XS.map fun Y0 => (Y0 - 1)) = some Y) : cp0_drawn_heights ⟨[.val (eI high), .val (eI wide), .val (eI number), .no, .no, .no, .no, .no], T⟩ = .ok (.lst (Y.map eI), true) ⟨[.val (eI high), .val (eI wide), .val (eI number), .no, .no, .no, .no, .no], T⟩ := by
  refine (lcO_Q (E := eI) (F := eI) (g := fun Y0 => (Y0 - 1)) HX H fun Y0 => ⟨[.val (eI high), .val (eI wide), .val (eI number), .no, .no, .no, .val (eI Y0), .no], rfl, ⟨[.val (eI high), .val (eI wide), .val (eI number), .no, .no, .no, .val (eI Y0), .no], T⟩, ?_, rfl, rfl⟩).trans (by rfl)
  (push_cast [bind_ok, t_and, t_or, e_and, e_or, i_andT, i_orT, i_andE, i_orE, i_int, k_if, k_ch3, Nat.reduceAdd, Nat.reduceSub, Nat.reduceLT, Nat.reduceLeDiff, Int.reduceLT, Int.reduceLE, Int.reduceNeg, Int.reducePow, Int.reduceToNat]; try with_reducible rfl)
def s0_drawn_heights  (down : List Int) (X0 : Int) : Option (((List Int))) :=
  (idx down (-1)).bind fun v_10 =>
  (snoc down (v_10 + X0)).bind fun down_11 =>
  some down_11
def I0_drawn_heights (Z0 : Sl) (Z1 : Sl) (Z2 : Sl) (Z3 : Sl) (Z5 : Sl) (T : DT) (Q : (List Int)) (E : DS) : Prop := ∃ D6, E = ⟨[Z0, Z1, Z2, Z3, .own ((eL eI) Q), Z5, D6, .no], T⟩
theorem l0_drawn_heights_bd (Z0 : Sl) (Z1 : Sl) (Z2 : Sl) (Z3 : Sl) (Z5 : Sl) (T : DT) (down : List Int) (X0 : Int) (E : DS) (HI : I0_drawn_heights Z0 Z1 Z2 Z3 Z5 T down E) {O : ((List Int))} (H : s0_drawn_heights  down X0 = some O) : ∃ E1, asgT (.nm 6) (eI X0) E.e = some E1 ∧ ∃ E2, (bd0_drawn_heights ⟨E1, E.t⟩ = .ok .nx E2 ∨ bd0_drawn_heights ⟨E1, E.t⟩ = .ok .ct E2) ∧ I0_drawn_heights Z0 Z1 Z2 Z3 Z5 T O E2 := by
  obtain ⟨D6, rfl⟩ := HI
  refine ⟨[Z0, Z1, Z2, Z3, .own ((eL eI) down), Z5, .val (eI X0), .no], rfl, ?_⟩
  unfold s0_drawn_heights at H
  obtain ⟨v_10, Hv_10, H⟩ := Option.bind_eq_some_iff.mp H
  have Kv_10 : ixG (.lst (List.map eI down)) (.int (-1)) = some (.int v_10) := by
    have := ixG_L eI down (-1)
    rw [Hv_10] at this
    exact this
  obtain ⟨down_11, Hdown_11, H⟩ := Option.bind_eq_some_iff.mp H
  have Kdown_11 : appU (.int (v_10 + X0)) (.lst (List.map eI down)) = some ((.lst (List.map eI down_11)), .non) := by
    have := appU_L eI down (v_10 + X0)
    rw [Hdown_11] at this
    exact this
  obtain rfl := Option.some.inj H
  refine ⟨⟨[Z0, Z1, Z2, Z3, .own ((eL eI) down_11), Z5, .val (eI X0), .no], T⟩, .inl ?_, ⟨.val (eI X0), rfl⟩⟩
  (push_cast [bd0_drawn_heights, Kv_10, Kdown_11, Nat.reduceAdd, Nat.reduceSub, Nat.reduceLT, Nat.reduceLeDiff, Int.reduceLT, Int.reduceLE, Int.reduceNeg, Int.reducePow, Int.reduceToNat]; try with_reducible rfl)
def s1_drawn_heights  (across : List Int) (X1 : Int) : Option (((List Int))) :=
  (idx across (-1)).bind fun v_18 =>
  (snoc across (v_18 + X1)).bind fun across_19 =>
  some across_19
def I1_drawn_heights (Z0 : Sl) (Z1 : Sl) (Z2 : Sl) (Z3 : Sl) (Z4 : Sl) (T : DT) (Q : (List Int)) (E : DS) : Prop := ∃ D6, E = ⟨[Z0, Z1, Z2, Z3, Z4, .own ((eL eI) Q), D6, .no], T⟩
theorem l1_drawn_heights_bd (Z0 : Sl) (Z1 : Sl) (Z2 : Sl) (Z3 : Sl) (Z4 : Sl) (T : DT) (across : List Int) (X1 : Int) (E : DS) (HI : I1_drawn_heights Z0 Z1 Z2 Z3 Z4 T across E) {O : ((List Int))} (H : s1_drawn_heights  across X1 = some O) : ∃ E1, asgT (.nm 6) (eI X1) E.e = some E1 ∧ ∃ E2, (bd1_drawn_heights ⟨E1, E.t⟩ = .ok .nx E2 ∨ bd1_drawn_heights ⟨E1, E.t⟩ = .ok .ct E2) ∧ I1_drawn_heights Z0 Z1 Z2 Z3 Z4 T O E2 := by
  obtain ⟨D6, rfl⟩ := HI
  refine ⟨[Z0, Z1, Z2, Z3, Z4, .own ((eL eI) across), .val (eI X1), .no], rfl, ?_⟩
  unfold s1_drawn_heights at H
  obtain ⟨v_18, Hv_18, H⟩ := Option.bind_eq_some_iff.mp H
  have Kv_18 : ixG (.lst (List.map eI across)) (.int (-1)) = some (.int v_18) := by
    have := ixG_L eI across (-1)
    rw [Hv_18] at this
    exact this
  obtain ⟨across_19, Hacross_19, H⟩ := Option.bind_eq_some_iff.mp H
  have Kacross_19 : appU (.int (v_18 + X1)) (.lst (List.map eI across)) = some ((.lst (List.map eI across_19)), .non) := by
    have := appU_L eI across (v_18 + X1)
    rw [Hacross_19] at this
    exact this
  obtain rfl := Option.some.inj H
  refine ⟨⟨[Z0, Z1, Z2, Z3, Z4, .own ((eL eI) across_19), .val (eI X1), .no], T⟩, .inl ?_, ⟨.val (eI X1), rfl⟩⟩
  (push_cast [bd1_drawn_heights, Kv_18, Kacross_19, Nat.reduceAdd, Nat.reduceSub, Nat.reduceLT, Nat.reduceLeDiff, Int.reduceLT, Int.reduceLE, Int.reduceNeg, Int.reducePow, Int.reduceToNat]; try with_reducible rfl)
theorem c2_drawn_heights_ok (Z0 : Sl) (Z1 : Sl) (Z2 : Sl) (Z3 : Sl) (Z4 : Sl) (across : List Int) (one : Int) (T : DT) (XS : List Int) (HX : (seqI (nameE 5)) ⟨[Z0, Z1, Z2, Z3, Z4, .val ((eL eI) across), .val (eI one), .no], T⟩ = .ok (XS.map eI) ⟨[Z0, Z1, Z2, Z3, Z4, .val ((eL eI) across), .val (eI one), .no], T⟩) {Y : List Int} (H : lenO (XS.map fun Y2 => (max one Y2)) = some Y) : cp1_drawn_heights ⟨[Z0, Z1, Z2, Z3, Z4, .val ((eL eI) across), .val (eI one), .no], T⟩ = .ok (.lst (Y.map eI), true) ⟨[Z0, Z1, Z2, Z3, Z4, .val ((eL eI) across), .val (eI one), .no], T⟩ := by
  refine (lcO_Q (E := eI) (F := eI) (g := fun Y2 => (max one Y2)) HX H fun Y2 => ⟨[Z0, Z1, Z2, Z3, Z4, .val ((eL eI) across), .val (eI one), .val (eI Y2)], rfl, ⟨[Z0, Z1, Z2, Z3, Z4, .val ((eL eI) across), .val (eI one), .val (eI Y2)], T⟩, ?_, rfl, rfl⟩).trans (by rfl)
  (push_cast [bind_ok, t_and, t_or, e_and, e_or, i_andT, i_orT, i_andE, i_orE, i_int, k_if, k_ch3, Nat.reduceAdd, Nat.reduceSub, Nat.reduceLT, Nat.reduceLeDiff, Int.reduceLT, Int.reduceLE, Int.reduceNeg, Int.reducePow, Int.reduceToNat]; try with_reducible rfl)
def b1_drawn_heights (down : List Int) (across : List Int) (Y1 : Int) : Option (List Int) :=
  (lenO (across.map fun Y2 => (max Y1 Y2))).bind fun y_25 =>
  some y_25
theorem c1_drawn_heights_ok (Z0 : Sl) (Z1 : Sl) (Z2 : Sl) (Z3 : Sl) (down : List Int) (across : List Int) (Z6 : Sl) (T : DT) (XS : List Int) (HX : (seqI (nameE 4)) ⟨[Z0, Z1, Z2, Z3, .own ((eL eI) down), .val ((eL eI) across), Z6, .no], T⟩ = .ok (XS.map eI) ⟨[Z0, Z1, Z2, Z3, .val ((eL eI) down), .val ((eL eI) across), Z6, .no], T⟩) {Y : List (List Int)} (H : compM (b1_drawn_heights down across) XS = some Y) : cp2_drawn_heights ⟨[Z0, Z1, Z2, Z3, .own ((eL eI) down), .val ((eL eI) across), Z6, .no], T⟩ = .ok (.lst (Y.map (eU eI)), true) ⟨[Z0, Z1, Z2, Z3, .val ((eL eI) down), .val ((eL eI) across), (rest1 Z6), .no], T⟩ := by
  refine (lcO_M (E := eI) (F := (eU eI)) (f := b1_drawn_heights down across) HX H fun Y1 V H => ⟨[Z0, Z1, Z2, Z3, .val ((eL eI) down), .val ((eL eI) across), .val (eI Y1), .no], rfl, ?_⟩).trans (by rfl)
  unfold b1_drawn_heights at H
  obtain ⟨y_25, Hy_25, H⟩ := Option.bind_eq_some_iff.mp H
  have K_26 : (seqI (nameE 5)) ⟨[Z0, Z1, Z2, Z3, .val ((eL eI) down), .val ((eL eI) across), .val (eI Y1), .no], T⟩ = .ok (across.map eI) ⟨[Z0, Z1, Z2, Z3, .val ((eL eI) down), .val ((eL eI) across), .val (eI Y1), .no], T⟩ := by (push_cast [bind_ok, Nat.reduceAdd, Nat.reduceSub, Nat.reduceLT, Nat.reduceLeDiff, Int.reduceLT, Int.reduceLE, Int.reduceNeg, Int.reducePow, Int.reduceToNat]; try with_reducible rfl)
  have Ky_25 := c2_drawn_heights_ok Z0 Z1 Z2 Z3 (.val ((eL eI) down)) across Y1 T across K_26 Hy_25
  try push_cast [DR.bind_ok] at Ky_25
  obtain rfl := Option.some.inj H
  refine ⟨⟨[Z0, Z1, Z2, Z3, .val ((eL eI) down), .val ((eL eI) across), .val (eI Y1), .no], T⟩, ?_, rfl, rfl⟩
  (push_cast [Ky_25, Nat.reduceAdd, Nat.reduceSub, Nat.reduceLT, Nat.reduceLeDiff, Int.reduceLT, Int.reduceLE, Int.reduceNeg, Int.reducePow, Int.reduceToNat]; try with_reducible rfl)
def m_drawn_heights (high : Int) (wide : Int) (number : Int) : Option (List (List Int)) :=
  (m_check_number number).bind fun r_1 =>
  if ((!(m_is_within high 2 8)) || (!(m_is_within wide 2 8))) = true then
    none
  else
  (m_digits number ((high + wide) - 2) 3).bind fun r_6 =>
  (lenO (r_6.map fun Y0 => (Y0 - 1))).bind fun y_7 =>
  (foldO (fun Q X0 => s0_drawn_heights  Q X0) (cutT y_7 none (some (high - 1))) ([0])).bind fun l_12 =>
  (foldO (fun Q X1 => s1_drawn_heights  Q X1) (cutT y_7 (some (high - 1)) none) ([0])).bind fun l_20 =>
  (compM (b1_drawn_heights l_12 l_20) l_12).bind fun y_27 =>
  some y_27
theorem w_drawn_heights (high : Int) (wide : Int) (number : Int) (T : DT) {V : (List (List Int))} (H : m_drawn_heights high wide number = some V) : F_drawn_heights [eI high, eI wide, eI number] T = .ok ((eU (eU eI)) V) false T := by
  unfold m_drawn_heights at H
  obtain ⟨r_1, Hr_1, H⟩ := Option.bind_eq_some_iff.mp H
  have Kr_1 : F_check_number [(.int number)] T = .ok .non false T := w_check_number number T Hr_1
  have K_4 := x0_drawn_heights_ok high wide (.val (eI number)) T
  try push_cast [DR.bind_ok] at K_4
  rcases iteB_inv H with ⟨C_5, H⟩ | ⟨C_5, H⟩
  · -- +
    cases H
  · -- -
    obtain ⟨r_6, Hr_6, H⟩ := Option.bind_eq_some_iff.mp H
    have Kr_6 : F_digits [(.int number), (.int ((high + wide) - 2)), (.int 3)] T = .ok (.lst (List.map eI r_6)) false T := w_digits number ((high + wide) - 2) 3 T Hr_6
    obtain ⟨y_7, Hy_7, H⟩ := Option.bind_eq_some_iff.mp H
    have K_8 : (seqI (plainE (callO F_digits (consA (nameE 2) (consA (binE subI (plainE (binO addO (nameE 0) (nameE 1))) (constE (.int 2))) (consA (constE (.int 3)) nilA)))))) ⟨[.val (eI high), .val (eI wide), .val (eI number), .no, .no, .no, .no, .no], T⟩ = .ok (r_6.map eI) ⟨[.val (eI high), .val (eI wide), .val (eI number), .no, .no, .no, .no, .no], T⟩ := by (push_cast [Kr_1, K_4, C_5, Kr_6, Nat.reduceAdd, Nat.reduceSub, Nat.reduceLT, Nat.reduceLeDiff, Int.reduceLT, Int.reduceLE, Int.reduceNeg, Int.reducePow, Int.reduceToNat]; try with_reducible rfl)
    have Ky_7 := c0_drawn_heights_ok high wide number T r_6 K_8 Hy_7
    try push_cast [DR.bind_ok] at Ky_7
    have K_9 : cutG (.lst (List.map eI y_7)) none (some (high - 1)) = some ((.lst (List.map eI (cutT y_7 none (some (high - 1))))), true) := cutG_L eI y_7 _ _
    obtain ⟨l_12, Hl_12, H⟩ := Option.bind_eq_some_iff.mp H
    have K_13 : it0_drawn_heights ⟨[.val (eI high), .val (eI wide), .val (eI number), .val ((eL eI) y_7), .own ((eL eI) ([0])), .own ((eL eI) ([0])), .no, .no], T⟩ = .ok ((cutT y_7 none (some (high - 1))).map eI) ⟨[.val (eI high), .val (eI wide), .val (eI number), .val ((eL eI) y_7), .own ((eL eI) ([0])), .own ((eL eI) ([0])), .no, .no], T⟩ := by (push_cast [it0_drawn_heights, Kr_1, K_4, C_5, Kr_6, Ky_7, K_9, Nat.reduceAdd, Nat.reduceSub, Nat.reduceLT, Nat.reduceLeDiff, Int.reduceLT, Int.reduceLE, Int.reduceNeg, Int.reducePow, Int.reduceToNat]; try with_reducible rfl)
    have Kl_12 := for_fold (I := I0_drawn_heights (.val (eI high)) (.val (eI wide)) (.val (eI number)) (.val ((eL eI) y_7)) (.own ((eL eI) ([0]))) T) (tg := (.nm 6)) (b := bd0_drawn_heights) (E := eI) (fun Q E X0 O HI H => l0_drawn_heights_bd (.val (eI high)) (.val (eI wide)) (.val (eI number)) (.val ((eL eI) y_7)) (.own ((eL eI) ([0]))) T Q X0 E HI H) (cutT y_7 none (some (high - 1))) ([0]) ⟨[.val (eI high), .val (eI wide), .val (eI number), .val ((eL eI) y_7), .own ((eL eI) ([0])), .own ((eL eI) ([0])), .no, .no], T⟩ _ ⟨.no, rfl⟩ Hl_12
    obtain ⟨E_15, Kl_12, ⟨D_14, rfl⟩⟩ := Kl_12
    have K_16 : lp0_drawn_heights ⟨[.val (eI high), .val (eI wide), .val (eI number), .val ((eL eI) y_7), .own ((eL eI) ([0])), .own ((eL eI) ([0])), .no, .no], T⟩ = .ok .nx ⟨[.val (eI high), .val (eI wide), .val (eI number), .val ((eL eI) y_7), .own ((eL eI) l_12), .own ((eL eI) ([0])), D_14, .no], T⟩ := by
      show forS _ _ _ _ = _
      rw [forS_ap, K_13, bind_ok]; exact Kl_12
    try push_cast [DR.bind_ok] at K_16
    have K_17 : cutG (.lst (List.map eI y_7)) (some (high - 1)) none = some ((.lst (List.map eI (cutT y_7 (some (high - 1)) none))), true) := cutG_L eI y_7 _ _
    obtain ⟨l_20, Hl_20, H⟩ := Option.bind_eq_some_iff.mp H
    have K_21 : it1_drawn_heights ⟨[.val (eI high), .val (eI wide), .val (eI number), .val ((eL eI) y_7), .own ((eL eI) l_12), .own ((eL eI) ([0])), D_14, .no], T⟩ = .ok ((cutT y_7 (some (high - 1)) none).map eI) ⟨[.val (eI high), .val (eI wide), .val (eI number), .val ((eL eI) y_7), .own ((eL eI) l_12), .own ((eL eI) ([0])), D_14, .no], T⟩ := by (push_cast [it1_drawn_heights, Kr_1, K_4, C_5, Kr_6, Ky_7, K_9, K_16, K_17, Nat.reduceAdd, Nat.reduceSub, Nat.reduceLT, Nat.reduceLeDiff, Int.reduceLT, Int.reduceLE, Int.reduceNeg, Int.reducePow, Int.reduceToNat]; try with_reducible rfl)
    have Kl_20 := for_fold (I := I1_drawn_heights (.val (eI high)) (.val (eI wide)) (.val (eI number)) (.val ((eL eI) y_7)) (.own ((eL eI) l_12)) T) (tg := (.nm 6)) (b := bd1_drawn_heights) (E := eI) (fun Q E X1 O HI H => l1_drawn_heights_bd (.val (eI high)) (.val (eI wide)) (.val (eI number)) (.val ((eL eI) y_7)) (.own ((eL eI) l_12)) T Q X1 E HI H) (cutT y_7 (some (high - 1)) none) ([0]) ⟨[.val (eI high), .val (eI wide), .val (eI number), .val ((eL eI) y_7), .own ((eL eI) l_12), .own ((eL eI) ([0])), D_14, .no], T⟩ _ ⟨D_14, rfl⟩ Hl_20
    obtain ⟨E_23, Kl_20, ⟨D_22, rfl⟩⟩ := Kl_20
    have K_24 : lp1_drawn_heights ⟨[.val (eI high), .val (eI wide), .val (eI number), .val ((eL eI) y_7), .own ((eL eI) l_12), .own ((eL eI) ([0])), D_14, .no], T⟩ = .ok .nx ⟨[.val (eI high), .val (eI wide), .val (eI number), .val ((eL eI) y_7), .own ((eL eI) l_12), .own ((eL eI) l_20), D_22, .no], T⟩ := by
      show forS _ _ _ _ = _
      rw [forS_ap, K_21, bind_ok]; exact Kl_20
    try push_cast [DR.bind_ok] at K_24
    obtain ⟨y_27, Hy_27, H⟩ := Option.bind_eq_some_iff.mp H
    have K_28 : (seqI (nameE 4)) ⟨[.val (eI high), .val (eI wide), .val (eI number), .val ((eL eI) y_7), .own ((eL eI) l_12), .val ((eL eI) l_20), D_22, .no], T⟩ = .ok (l_12.map eI) ⟨[.val (eI high), .val (eI wide), .val (eI number), .val ((eL eI) y_7), .val ((eL eI) l_12), .val ((eL eI) l_20), D_22, .no], T⟩ := by (push_cast [Kr_1, K_4, C_5, Kr_6, Ky_7, K_9, K_16, K_17, K_24, Nat.reduceAdd, Nat.reduceSub, Nat.reduceLT, Nat.reduceLeDiff, Int.reduceLT, Int.reduceLE, Int.reduceNeg, Int.reducePow, Int.reduceToNat]; try with_reducible rfl)
    have Ky_27 := c1_drawn_heights_ok (.val (eI high)) (.val (eI wide)) (.val (eI number)) (.val ((eL eI) y_7)) l_12 l_20 D_22 T l_12 K_28 Hy_27
    try push_cast [DR.bind_ok] at Ky_27
    obtain rfl := Option.some.inj H
    (push_cast [F_drawn_heights, b_drawn_heights, Kr_1, K_4, C_5, Kr_6, Ky_7, K_9, K_16, K_17, K_24, Ky_27, Nat.reduceAdd, Nat.reduceSub, Nat.reduceLT, Nat.reduceLeDiff, Int.reduceLT, Int.reduceLE, Int.reduceNeg, Int.reducePow, Int.reduceToNat]; try with_reducible rfl)
theorem x1_is_tuple_2_ok (thing : List (List Int)) (least : Int) (most : Int) (T : DT) : xe0_is_tuple ⟨[.val ((eU (eU eI)) thing), .val (eI least), .val (eI most)], T⟩ = .ok (.bl ((decide (least ≤ (thing.length : Int))) && (decide ((thing.length : Int) ≤ most)))) ⟨[.val ((eU (eU eI)) thing), .val (eI least), .val (eI most)], T⟩ := by
  (push_cast [xe0_is_tuple, t_and, t_or, e_and, e_or, i_andT, i_orT, i_andE, i_orE, i_int, k_if, k_ch3, Nat.reduceAdd, Nat.reduceSub, Nat.reduceLT, Nat.reduceLeDiff, Int.reduceLT, Int.reduceLE, Int.reduceNeg, Int.reducePow, Int.reduceToNat]; try with_reducible rfl)
theorem x0_is_tuple_2_ok (thing : List (List Int)) (least : Int) (most : Int) (T : DT) : xe1_is_tuple ⟨[.val ((eU (eU eI)) thing), .val (eI least), .val (eI most)], T⟩ = .ok (.bl ((decide (least ≤ (thing.length : Int))) && (decide ((thing.length : Int) ≤ most)))) ⟨[.val ((eU (eU eI)) thing), .val (eI least), .val (eI most)], T⟩ := by
  have K_1 := x1_is_tuple_2_ok thing least most T
  try push_cast [DR.bind_ok] at K_1
  (push_cast [xe1_is_tuple, K_1, t_and, t_or, e_and, e_or, i_andT, i_orT, i_andE, i_orE, i_int, k_if, k_ch3, Nat.reduceAdd, Nat.reduceSub, Nat.reduceLT, Nat.reduceLeDiff, Int.reduceLT, Int.reduceLE, Int.reduceNeg, Int.reducePow, Int.reduceToNat]; try with_reducible rfl)
def m_is_tuple_2 (thing : List (List Int)) (least : Int) (most : Int) : Bool :=
  ((decide (least ≤ (thing.length : Int))) && (decide ((thing.length : Int) ≤ most)))
theorem w_is_tuple_2 (thing : List (List Int)) (least : Int) (most : Int) (T : DT) {V : Bool} (H : m_is_tuple_2 thing least most = V) : F_is_tuple [(eU (eU eI)) thing, eI least, eI most] T = .ok (eB V) false T := by
  unfold m_is_tuple_2 at H
  have K_2 := x0_is_tuple_2_ok thing least most T
  try push_cast [DR.bind_ok] at K_2
  subst H
  (push_cast [F_is_tuple, b_is_tuple, K_2, Nat.reduceAdd, Nat.reduceSub, Nat.reduceLT, Nat.reduceLeDiff, Int.reduceLT, Int.reduceLE, Int.reduceNeg, Int.reducePow, Int.reduceToNat]; try with_reducible rfl)
theorem x1_is_tuple_3_ok (thing : List Int) (least : Int) (most : Int) (T : DT) : xe0_is_tuple ⟨[.val ((eU eI) thing), .val (eI least), .val (eI most)], T⟩ = .ok (.bl ((decide (least ≤ (thing.length : Int))) && (decide ((thing.length : Int) ≤ most)))) ⟨[.val ((eU eI) thing), .val (eI least), .val (eI most)], T⟩ := by
  (push_cast [xe0_is_tuple, t_and, t_or, e_and, e_or, i_andT, i_orT, i_andE, i_orE, i_int, k_if, k_ch3, Nat.reduceAdd, Nat.reduceSub, Nat.reduceLT, Nat.reduceLeDiff, Int.reduceLT, Int.reduceLE, Int.reduceNeg, Int.reducePow, Int.reduceToNat]; try with_reducible rfl)
theorem x0_is_tuple_3_ok (thing : List Int) (least : Int) (most : Int) (T : DT) : xe1_is_tuple ⟨[.val ((eU eI) thing), .val (eI least), .val (eI most)], T⟩ = .ok (.bl ((decide (least ≤ (thing.length : Int))) && (decide ((thing.length : Int) ≤ most)))) ⟨[.val ((eU eI) thing), .val (eI least), .val (eI most)], T⟩ := by
  have K_1 := x1_is_tuple_3_ok thing least most T
  try push_cast [DR.bind_ok] at K_1
  (push_cast [xe1_is_tuple, K_1, t_and, t_or, e_and, e_or, i_andT, i_orT, i_andE, i_orE, i_int, k_if, k_ch3, Nat.reduceAdd, Nat.reduceSub, Nat.reduceLT, Nat.reduceLeDiff, Int.reduceLT, Int.reduceLE, Int.reduceNeg, Int.reducePow, Int.reduceToNat]; try with_reducible rfl)
def m_is_tuple_3 (thing : List Int) (least : Int) (most : Int) : Bool :=
  ((decide (least ≤ (thing.length : Int))) && (decide ((thing.length : Int) ≤ most)))
theorem w_is_tuple_3 (thing : List Int) (least : Int) (most : Int) (T : DT) {V : Bool} (H : m_is_tuple_3 thing least most = V) : F_is_tuple [(eU eI) thing, eI least, eI most] T = .ok (eB V) false T := by
  unfold m_is_tuple_3 at H
  have K_2 := x0_is_tuple_3_ok thing least most T
  try push_cast [DR.bind_ok] at K_2
  subst H
  (push_cast [F_is_tuple, b_is_tuple, K_2, Nat.reduceAdd, Nat.reduceSub, Nat.reduceLT, Nat.reduceLeDiff, Int.reduceLT, Int.reduceLE, Int.reduceNeg, Int.reducePow, Int.reduceToNat]; try with_reducible rfl)
theorem c0_is_heights_1_ok (Z0 : Sl) (wide : Int) (thing : List (List Int)) (T : DT) (XS : List (List Int)) (HX : (seqI (nameE 2)) ⟨[Z0, .val (eI wide), .val ((eU (eU eI)) thing), .no, .no, .no, .no, .no, .no], T⟩ = .ok (XS.map (eU eI)) ⟨[Z0, .val (eI wide), .val ((eU (eU eI)) thing), .no, .no, .no, .no, .no, .no], T⟩) {Y : List Bool} (H : lenO (XS.map fun Y0 => (m_is_tuple_3 Y0 wide wide)) = some Y) : cp0_is_heights ⟨[Z0, .val (eI wide), .val ((eU (eU eI)) thing), .no, .no, .no, .no, .no, .no], T⟩ = .ok (.lst (Y.map eB), true) ⟨[Z0, .val (eI wide), .val ((eU (eU eI)) thing), .no, .no, .no, .no, .no, .no], T⟩ := by
  refine (lcO_Q (E := (eU eI)) (F := eB) (g := fun Y0 => (m_is_tuple_3 Y0 wide wide)) HX H fun Y0 => ⟨[Z0, .val (eI wide), .val ((eU (eU eI)) thing), .no, .no, .no, .no, .val ((eU eI) Y0), .no], rfl, ⟨[Z0, .val (eI wide), .val ((eU (eU eI)) thing), .no, .no, .no, .no, .val ((eU eI) Y0), .no], T⟩, ?_, rfl, rfl⟩).trans (by rfl)
  have K_4 : F_is_tuple [(.tup false (List.map eI Y0)), (.int wide), (.int wide)] T = .ok (.bl (m_is_tuple_3 Y0 wide wide)) false T := w_is_tuple_3 Y0 wide wide T rfl
  (push_cast [K_4, t_and, t_or, e_and, e_or, i_andT, i_orT, i_andE, i_orE, i_int, k_if, k_ch3, Nat.reduceAdd, Nat.reduceSub, Nat.reduceLT, Nat.reduceLeDiff, Int.reduceLT, Int.reduceLE, Int.reduceNeg, Int.reducePow, Int.reduceToNat]; try with_reducible rfl)
def x0_is_heights_1 (high : Int) (wide : Int) (thing : List (List Int)) : Option Bool :=
  if (!(m_is_tuple_2 thing high high)) = true then
    some true
  else
  (lenO (thing.map fun Y0 => (m_is_tuple_3 Y0 wide wide))).bind fun y_5 =>
  some (!(y_5.all id))
theorem x0_is_heights_1_ok (high : Int) (wide : Int) (thing : List (List Int)) (T : DT) {W : Bool} (H : x0_is_heights_1 high wide thing = some W) : te0_is_heights ⟨[.val (eI high), .val (eI wide), .val ((eU (eU eI)) thing), .no, .no, .no, .no, .no, .no], T⟩ = .ok W ⟨[.val (eI high), .val (eI wide), .val ((eU (eU eI)) thing), .no, .no, .no, .no, .no, .no], T⟩ := by
  unfold x0_is_heights_1 at H
  have K_2 : F_is_tuple [(.tup false (List.map (eU eI) thing)), (.int high), (.int high)] T = .ok (.bl (m_is_tuple_2 thing high high)) false T := w_is_tuple_2 thing high high T rfl
  rcases iteB_inv H with ⟨C_3, H⟩ | ⟨C_3, H⟩
  · -- +
    obtain rfl := Option.some.inj H
    (push_cast [te0_is_heights, K_2, C_3, Nat.reduceAdd, Nat.reduceSub, Nat.reduceLT, Nat.reduceLeDiff, Int.reduceLT, Int.reduceLE, Int.reduceNeg, Int.reducePow, Int.reduceToNat]; try with_reducible rfl)
  · -- -
    obtain ⟨y_5, Hy_5, H⟩ := Option.bind_eq_some_iff.mp H
    have K_6 : (seqI (nameE 2)) ⟨[.val (eI high), .val (eI wide), .val ((eU (eU eI)) thing), .no, .no, .no, .no, .no, .no], T⟩ = .ok (thing.map (eU eI)) ⟨[.val (eI high), .val (eI wide), .val ((eU (eU eI)) thing), .no, .no, .no, .no, .no, .no], T⟩ := by (push_cast [K_2, C_3, Nat.reduceAdd, Nat.reduceSub, Nat.reduceLT, Nat.reduceLeDiff, Int.reduceLT, Int.reduceLE, Int.reduceNeg, Int.reducePow, Int.reduceToNat]; try with_reducible rfl)
    have Ky_5 := c0_is_heights_1_ok (.val (eI high)) wide thing T thing K_6 Hy_5
    try push_cast [DR.bind_ok] at Ky_5
    obtain rfl := Option.some.inj H
    (push_cast [te0_is_heights, K_2, C_3, Ky_5, Nat.reduceAdd, Nat.reduceSub, Nat.reduceLT, Nat.reduceLeDiff, Int.reduceLT, Int.reduceLE, Int.reduceNeg, Int.reducePow, Int.reduceToNat]; try with_reducible rfl)
def a1_is_heights_1 (thing : List (List Int)) (Y1 : List Int) : Option (Option (List Int)) :=
  some (some Y1)
def b1_is_heights_1 (thing : List (List Int)) (Y1 : List Int) (Z1y : Int) : Option (Option Bool) :=
  some (some (m_is_within Z1y (-100) 100))
theorem c1_is_heights_1_in (Z0 : Sl) (Z1 : Sl) (thing : List (List Int)) (T : DT) (Y1 : List Int) (Z1y : Int) {V : Option Bool} (H : b1_is_heights_1 thing Y1 Z1y = some V) : ItemOk yesT (plainE (callO F_is_within (consA (nameE 8) (consA (negE (constE (.int 100))) (consA (constE (.int 100)) nilA))))) [8] (wipeE [8] [Z0, Z1, .val ((eU (eU eI)) thing), .no, .no, .no, .no, .val ((eU eI) Y1), .no]) eB ⟨[Z0, Z1, .val ((eU (eU eI)) thing), .no, .no, .no, .no, .val ((eU eI) Y1), .val (eI Z1y)], T⟩ T V := by
  unfold b1_is_heights_1 at H
  have K_9 : F_is_within [(.int Z1y), (.int (-100)), (.int 100)] T = .ok (.bl (m_is_within Z1y (-100) 100)) false T := w_is_within Z1y (-100) 100 T rfl
  obtain rfl := Option.some.inj H
  refine ⟨⟨[Z0, Z1, .val ((eU (eU eI)) thing), .no, .no, .no, .no, .val ((eU eI) Y1), .val (eI Z1y)], T⟩, ⟨[Z0, Z1, .val ((eU (eU eI)) thing), .no, .no, .no, .no, .val ((eU eI) Y1), .val (eI Z1y)], T⟩, ?_, ?_, rfl, rfl⟩
  · (push_cast [K_9, Nat.reduceAdd, Nat.reduceSub, Nat.reduceLT, Nat.reduceLeDiff, Int.reduceLT, Int.reduceLE, Int.reduceNeg, Int.reducePow, Int.reduceToNat]; try with_reducible rfl)
  · (push_cast [K_9, Nat.reduceAdd, Nat.reduceSub, Nat.reduceLT, Nat.reduceLeDiff, Int.reduceLT, Int.reduceLE, Int.reduceNeg, Int.reducePow, Int.reduceToNat]; try with_reducible rfl)
theorem c1_is_heights_1_ok (Z0 : Sl) (Z1 : Sl) (thing : List (List Int)) (T : DT) (XS : List (List Int)) (HX : (seqI (nameE 2)) ⟨[Z0, Z1, .val ((eU (eU eI)) thing), .no, .no, .no, .no, .no, .no], T⟩ = .ok (XS.map (eU eI)) ⟨[Z0, Z1, .val ((eU (eU eI)) thing), .no, .no, .no, .no, .no, .no], T⟩) {Y : List Bool} (H : comp2O (a1_is_heights_1 thing) (b1_is_heights_1 thing) XS = some Y) : cp1_is_heights ⟨[Z0, Z1, .val ((eU (eU eI)) thing), .no, .no, .no, .no, .no, .no], T⟩ = .ok (.lst (Y.map eB), true) ⟨[Z0, Z1, .val ((eU (eU eI)) thing), .no, .no, .no, .no, .no, .no], T⟩ := by
  refine (lc2O_O (E := (eU eI)) (E1 := eI) (F := eB) (c := a1_is_heights_1 thing) (f := b1_is_heights_1 thing) HX H (by decide) fun Y1 V H => ⟨[Z0, Z1, .val ((eU (eU eI)) thing), .no, .no, .no, .no, .val ((eU eI) Y1), .no], rfl, ?_⟩).trans (by rfl)
  unfold a1_is_heights_1 at H
  obtain rfl := Option.some.inj H
  refine ⟨⟨[Z0, Z1, .val ((eU (eU eI)) thing), .no, .no, .no, .no, .val ((eU eI) Y1), .no], T⟩, [Z0, Z1, .val ((eU (eU eI)) thing), .no, .no, .no, .no, .val ((eU eI) Y1), .no], ?_, ?_, rfl, fun Z1y V2 H => ?_⟩
  · (push_cast [bind_ok, Nat.reduceAdd, Nat.reduceSub, Nat.reduceLT, Nat.reduceLeDiff, Int.reduceLT, Int.reduceLE, Int.reduceNeg, Int.reducePow, Int.reduceToNat]; try with_reducible rfl)
  · (push_cast [bind_ok, Nat.reduceAdd, Nat.reduceSub, Nat.reduceLT, Nat.reduceLeDiff, Int.reduceLT, Int.reduceLE, Int.reduceNeg, Int.reducePow, Int.reduceToNat]; try with_reducible rfl)
  · exact ⟨[Z0, Z1, .val ((eU (eU eI)) thing), .no, .no, .no, .no, .val ((eU eI) Y1), .val (eI Z1y)], rfl, c1_is_heights_1_in Z0 Z1 thing T Y1 Z1y H⟩
theorem x2_is_heights_1_ok (Z0 : Sl) (wide : Int) (Z2 : Sl) (Z3 : Sl) (b : Int) (Z5 : Sl) (y : Int) (T : DT) : xe0_is_heights ⟨[Z0, .val (eI wide), Z2, Z3, .val (eI b), Z5, .val (eI y), .no, .no], T⟩ = .ok (.bl ((decide (0 ≤ (b + y))) && (decide ((b + y) < wide)))) ⟨[Z0, .val (eI wide), Z2, Z3, .val (eI b), Z5, .val (eI y), .no, .no], T⟩ := by
  (push_cast [xe0_is_heights, t_and, t_or, e_and, e_or, i_andT, i_orT, i_andE, i_orE, i_int, k_if, k_ch3, Nat.reduceAdd, Nat.reduceSub, Nat.reduceLT, Nat.reduceLeDiff, Int.reduceLT, Int.reduceLE, Int.reduceNeg, Int.reducePow, Int.reduceToNat]; try with_reducible rfl)
def x1_is_heights_1 (high : Int) (wide : Int) (thing : List (List Int)) (a : Int) (b : Int) (x : Int) (y : Int) : Option Bool :=
  if (a + x) < high then
    if ((decide (0 ≤ (b + y))) && (decide ((b + y) < wide))) = true then
      (idx thing a).bind fun v_18 =>
      (idx v_18 b).bind fun v_19 =>
      (idx thing (a + x)).bind fun v_20 =>
      (idx v_20 (b + y)).bind fun v_21 =>
      some (decide (1 < (iabs (v_19 - v_21))))
    else
    some false
  else
  some false
theorem x1_is_heights_1_ok (high : Int) (wide : Int) (thing : List (List Int)) (a : Int) (b : Int) (x : Int) (y : Int) (T : DT) {W : Bool} (H : x1_is_heights_1 high wide thing a b x y = some W) : te1_is_heights ⟨[.val (eI high), .val (eI wide), .val ((eU (eU eI)) thing), .val (eI a), .val (eI b), .val (eI x), .val (eI y), .no, .no], T⟩ = .ok W ⟨[.val (eI high), .val (eI wide), .val ((eU (eU eI)) thing), .val (eI a), .val (eI b), .val (eI x), .val (eI y), .no, .no], T⟩ := by
  unfold x1_is_heights_1 at H
  rcases ite_inv H with ⟨C_15, H⟩ | ⟨C_15, H⟩
  · -- +
    replace C_15 := decide_eq_true C_15
    have K_16 := x2_is_heights_1_ok (.val (eI high)) wide (.val ((eU (eU eI)) thing)) (.val (eI a)) b (.val (eI x)) y T
    try push_cast [DR.bind_ok] at K_16
    rcases iteB_inv H with ⟨C_17, H⟩ | ⟨C_17, H⟩
    · -- +
      obtain ⟨v_18, Hv_18, H⟩ := Option.bind_eq_some_iff.mp H
      have Kv_18 : ixG (.tup false (List.map (eU eI) thing)) (.int a) = some (.tup false (List.map eI v_18)) := by
        have := ixG_U false (eU eI) thing a
        rw [Hv_18] at this
        exact this
      obtain ⟨v_19, Hv_19, H⟩ := Option.bind_eq_some_iff.mp H
      have Kv_19 : ixG (.tup false (List.map eI v_18)) (.int b) = some (.int v_19) := by
        have := ixG_U false eI v_18 b
        rw [Hv_19] at this
        exact this
      obtain ⟨v_20, Hv_20, H⟩ := Option.bind_eq_some_iff.mp H
      have Kv_20 : ixG (.tup false (List.map (eU eI) thing)) (.int (a + x)) = some (.tup false (List.map eI v_20)) := by
        have := ixG_U false (eU eI) thing (a + x)
        rw [Hv_20] at this
        exact this
      obtain ⟨v_21, Hv_21, H⟩ := Option.bind_eq_some_iff.mp H
      have Kv_21 : ixG (.tup false (List.map eI v_20)) (.int (b + y)) = some (.int v_21) := by
        have := ixG_U false eI v_20 (b + y)
        rw [Hv_21] at this
        exact this
      obtain rfl := Option.some.inj H
      (push_cast [te1_is_heights, C_15, K_16, C_17, Kv_18, Kv_19, Kv_20, Kv_21, Nat.reduceAdd, Nat.reduceSub, Nat.reduceLT, Nat.reduceLeDiff, Int.reduceLT, Int.reduceLE, Int.reduceNeg, Int.reducePow, Int.reduceToNat]; try with_reducible rfl)
    · -- -
      obtain rfl := Option.some.inj H
      (push_cast [te1_is_heights, C_15, K_16, C_17, Nat.reduceAdd, Nat.reduceSub, Nat.reduceLT, Nat.reduceLeDiff, Int.reduceLT, Int.reduceLE, Int.reduceNeg, Int.reducePow, Int.reduceToNat]; try with_reducible rfl)
  · -- -
    replace C_15 := decide_eq_false C_15
    obtain rfl := Option.some.inj H
    (push_cast [te1_is_heights, C_15, Nat.reduceAdd, Nat.reduceSub, Nat.reduceLT, Nat.reduceLeDiff, Int.reduceLT, Int.reduceLE, Int.reduceNeg, Int.reducePow, Int.reduceToNat]; try with_reducible rfl)
def s2_is_heights_1 (high : Int) (wide : Int) (thing : List (List Int)) (a : Int) (b : Int)  (X2 : Int × Int) : Option (Fw (Unit) Bool) :=
  (x1_is_heights_1 high wide thing a b X2.1 X2.2).bind fun w_22 =>
  if w_22 = true then
    some (.rt false)
  else
  some (.nx ())
def I2_is_heights_1 (high : Int) (wide : Int) (thing : List (List Int)) (a : Int) (b : Int) (T : DT) (Q : Unit) (E : DS) : Prop := ∃ D5 D6, E = ⟨[.val (eI high), .val (eI wide), .val ((eU (eU eI)) thing), .val (eI a), .val (eI b), D5, D6, .no, .no], T⟩
theorem l2_is_heights_1_bd (high : Int) (wide : Int) (thing : List (List Int)) (a : Int) (b : Int) (T : DT)  (X2 : Int × Int) (E : DS) (HI : I2_is_heights_1 high wide thing a b T () E) {O : Fw (Unit) Bool} (H : s2_is_heights_1 high wide thing a b  X2 = some O) : ∃ E1, asgT (.tp [(.nm 5), (.nm 6)]) ((eP2 eI eI) X2) E.e = some E1 ∧ BodyOk bd0_is_heights ⟨E1, E.t⟩ (I2_is_heights_1 high wide thing a b T) (fun V : Bool => (eB V, false)) (fun _ E => E.t = T) O := by
  obtain ⟨D5, D6, rfl⟩ := HI
  refine ⟨[.val (eI high), .val (eI wide), .val ((eU (eU eI)) thing), .val (eI a), .val (eI b), .val (eI X2.1), .val (eI X2.2), .no, .no], rfl, ?_⟩
  unfold s2_is_heights_1 at H
  obtain ⟨w_22, Hw_22, H⟩ := Option.bind_eq_some_iff.mp H
  have Kw_22 := x1_is_heights_1_ok high wide thing a b X2.1 X2.2 T Hw_22
  try push_cast [DR.bind_ok] at Kw_22
  rcases iteB_inv H with ⟨C_23, H⟩ | ⟨C_23, H⟩
  · -- +
    obtain rfl := Option.some.inj H
    refine ⟨⟨[.val (eI high), .val (eI wide), .val ((eU (eU eI)) thing), .val (eI a), .val (eI b), .val (eI X2.1), .val (eI X2.2), .no, .no], T⟩, ?_, rfl⟩
    (push_cast [bd0_is_heights, Kw_22, C_23, Nat.reduceAdd, Nat.reduceSub, Nat.reduceLT, Nat.reduceLeDiff, Int.reduceLT, Int.reduceLE, Int.reduceNeg, Int.reducePow, Int.reduceToNat]; try with_reducible rfl)
  · -- -
    obtain rfl := Option.some.inj H
    refine ⟨⟨[.val (eI high), .val (eI wide), .val ((eU (eU eI)) thing), .val (eI a), .val (eI b), .val (eI X2.1), .val (eI X2.2), .no, .no], T⟩, .inl ?_, ⟨.val (eI X2.1), .val (eI X2.2), rfl⟩⟩
    (push_cast [bd0_is_heights, Kw_22, C_23, Nat.reduceAdd, Nat.reduceSub, Nat.reduceLT, Nat.reduceLeDiff, Int.reduceLT, Int.reduceLE, Int.reduceNeg, Int.reducePow, Int.reduceToNat]; try with_reducible rfl)
def s1_is_heights_1 (high : Int) (wide : Int) (thing : List (List Int)) (a : Int)  (X1 : Int) : Option (Fw (Unit) Bool) :=
  (forO (fun Q X2 => s2_is_heights_1 high wide thing a X1  X2) ([(0, 1), (1, (-1)), (1, 0), (1, 1)]) ()).bind fun l_24 =>
  sumM l_24 (fun s_29 =>
    some (.nx ()))
    (fun r_30 => some (.rt r_30))
def I1_is_heights_1 (high : Int) (wide : Int) (thing : List (List Int)) (a : Int) (T : DT) (Q : Unit) (E : DS) : Prop := ∃ D4 D5 D6, E = ⟨[.val (eI high), .val (eI wide), .val ((eU (eU eI)) thing), .val (eI a), D4, D5, D6, .no, .no], T⟩
theorem l1_is_heights_1_bd (high : Int) (wide : Int) (thing : List (List Int)) (a : Int) (T : DT)  (X1 : Int) (E : DS) (HI : I1_is_heights_1 high wide thing a T () E) {O : Fw (Unit) Bool} (H : s1_is_heights_1 high wide thing a  X1 = some O) : ∃ E1, asgT (.nm 4) (eI X1) E.e = some E1 ∧ BodyOk bd1_is_heights ⟨E1, E.t⟩ (I1_is_heights_1 high wide thing a T) (fun V : Bool => (eB V, false)) (fun _ E => E.t = T) O := by
  obtain ⟨D4, D5, D6, rfl⟩ := HI
  refine ⟨[.val (eI high), .val (eI wide), .val ((eU (eU eI)) thing), .val (eI a), .val (eI X1), D5, D6, .no, .no], rfl, ?_⟩
  unfold s1_is_heights_1 at H
  obtain ⟨l_24, Hl_24, H⟩ := Option.bind_eq_some_iff.mp H
  have K_25 : it0_is_heights ⟨[.val (eI high), .val (eI wide), .val ((eU (eU eI)) thing), .val (eI a), .val (eI X1), D5, D6, .no, .no], T⟩ = .ok (([(0, 1), (1, (-1)), (1, 0), (1, 1)]).map (eP2 eI eI)) ⟨[.val (eI high), .val (eI wide), .val ((eU (eU eI)) thing), .val (eI a), .val (eI X1), D5, D6, .no, .no], T⟩ := by (push_cast [it0_is_heights, Nat.reduceAdd, Nat.reduceSub, Nat.reduceLT, Nat.reduceLeDiff, Int.reduceLT, Int.reduceLE, Int.reduceNeg, Int.reducePow, Int.reduceToNat]; try with_reducible rfl)
  have Kl_24 := for_for (I := I2_is_heights_1 high wide thing a X1 T) (R := (fun V : Bool => (eB V, false))) (J := (fun _ E => E.t = T)) (tg := (.tp [(.nm 5), (.nm 6)])) (b := bd0_is_heights) (E := (eP2 eI eI)) (fun Q E X2 O HI H => l2_is_heights_1_bd high wide thing a X1 T  X2 E HI H) ([(0, 1), (1, (-1)), (1, 0), (1, 1)]) () ⟨[.val (eI high), .val (eI wide), .val ((eU (eU eI)) thing), .val (eI a), .val (eI X1), D5, D6, .no, .no], T⟩ _ ⟨D5, D6, rfl⟩ Hl_24
  rcases sumM_inv H with ⟨s_29, HO, H⟩ | ⟨r_30, HO, H⟩
  · subst HO
    obtain ⟨E_28, Kl_24, ⟨D_26, D_27, rfl⟩⟩ := Kl_24
    have K_31 : lp0_is_heights ⟨[.val (eI high), .val (eI wide), .val ((eU (eU eI)) thing), .val (eI a), .val (eI X1), D5, D6, .no, .no], T⟩ = .ok .nx ⟨[.val (eI high), .val (eI wide), .val ((eU (eU eI)) thing), .val (eI a), .val (eI X1), D_26, D_27, .no, .no], T⟩ := by
      show forS _ _ _ _ = _
      rw [forS_ap, K_25, bind_ok]; exact Kl_24
    try push_cast [DR.bind_ok] at K_31
    obtain rfl := Option.some.inj H
    refine ⟨⟨[.val (eI high), .val (eI wide), .val ((eU (eU eI)) thing), .val (eI a), .val (eI X1), D_26, D_27, .no, .no], T⟩, .inl ?_, ⟨.val (eI X1), D_26, D_27, rfl⟩⟩
    (push_cast [bd1_is_heights, K_31, Nat.reduceAdd, Nat.reduceSub, Nat.reduceLT, Nat.reduceLeDiff, Int.reduceLT, Int.reduceLE, Int.reduceNeg, Int.reducePow, Int.reduceToNat]; try with_reducible rfl)
  · subst HO
    obtain ⟨⟨E_32, E_32t⟩, Kl_24, HT⟩ := Kl_24
    replace HT : E_32t = T := HT
    rw [HT] at Kl_24
    have K_31 : lp0_is_heights ⟨[.val (eI high), .val (eI wide), .val ((eU (eU eI)) thing), .val (eI a), .val (eI X1), D5, D6, .no, .no], T⟩ = .ok (.rt (eB r_30) false) ⟨E_32, T⟩ := by
      show forS _ _ _ _ = _
      rw [forS_ap, K_25, bind_ok]; exact Kl_24
    try push_cast [DR.bind_ok] at K_31
    obtain rfl := Option.some.inj H
    refine ⟨⟨E_32, T⟩, ?_, rfl⟩
    (push_cast [bd1_is_heights, K_31, Nat.reduceAdd, Nat.reduceSub, Nat.reduceLT, Nat.reduceLeDiff, Int.reduceLT, Int.reduceLE, Int.reduceNeg, Int.reducePow, Int.reduceToNat]; try with_reducible rfl)
def s0_is_heights_1 (high : Int) (wide : Int) (thing : List (List Int))  (X0 : Int) : Option (Fw (Unit) Bool) :=
  (rngO 0 wide).bind fun g_14 =>
  (forO (fun Q X1 => s1_is_heights_1 high wide thing X0  X1) g_14 ()).bind fun l_33 =>
  sumM l_33 (fun s_39 =>
    some (.nx ()))
    (fun r_40 => some (.rt r_40))
def I0_is_heights_1 (high : Int) (wide : Int) (thing : List (List Int)) (T : DT) (Q : Unit) (E : DS) : Prop := ∃ D3 D4 D5 D6, E = ⟨[.val (eI high), .val (eI wide), .val ((eU (eU eI)) thing), D3, D4, D5, D6, .no, .no], T⟩
theorem l0_is_heights_1_bd (high : Int) (wide : Int) (thing : List (List Int)) (T : DT)  (X0 : Int) (E : DS) (HI : I0_is_heights_1 high wide thing T () E) {O : Fw (Unit) Bool} (H : s0_is_heights_1 high wide thing  X0 = some O) : ∃ E1, asgT (.nm 3) (eI X0) E.e = some E1 ∧ BodyOk bd2_is_heights ⟨E1, E.t⟩ (I0_is_heights_1 high wide thing T) (fun V : Bool => (eB V, false)) (fun _ E => E.t = T) O := by
  obtain ⟨D3, D4, D5, D6, rfl⟩ := HI
  refine ⟨[.val (eI high), .val (eI wide), .val ((eU (eU eI)) thing), .val (eI X0), D4, D5, D6, .no, .no], rfl, ?_⟩
  unfold s0_is_heights_1 at H
  obtain ⟨g_14, Hg_14, H⟩ := Option.bind_eq_some_iff.mp H
  obtain ⟨l_33, Hl_33, H⟩ := Option.bind_eq_some_iff.mp H
  have K_34 : it1_is_heights ⟨[.val (eI high), .val (eI wide), .val ((eU (eU eI)) thing), .val (eI X0), D4, D5, D6, .no, .no], T⟩ = .ok (g_14.map eI) ⟨[.val (eI high), .val (eI wide), .val ((eU (eU eI)) thing), .val (eI X0), D4, D5, D6, .no, .no], T⟩ := by (push_cast [it1_is_heights, Hg_14, Nat.reduceAdd, Nat.reduceSub, Nat.reduceLT, Nat.reduceLeDiff, Int.reduceLT, Int.reduceLE, Int.reduceNeg, Int.reducePow, Int.reduceToNat]; try with_reducible rfl)
  have Kl_33 := for_for (I := I1_is_heights_1 high wide thing X0 T) (R := (fun V : Bool => (eB V, false))) (J := (fun _ E => E.t = T)) (tg := (.nm 4)) (b := bd1_is_heights) (E := eI) (fun Q E X1 O HI H => l1_is_heights_1_bd high wide thing X0 T  X1 E HI H) g_14 () ⟨[.val (eI high), .val (eI wide), .val ((eU (eU eI)) thing), .val (eI X0), D4, D5, D6, .no, .no], T⟩ _ ⟨D4, D5, D6, rfl⟩ Hl_33
  rcases sumM_inv H with ⟨s_39, HO, H⟩ | ⟨r_40, HO, H⟩
  · subst HO
    obtain ⟨E_38, Kl_33, ⟨D_35, D_36, D_37, rfl⟩⟩ := Kl_33
    have K_41 : lp1_is_heights ⟨[.val (eI high), .val (eI wide), .val ((eU (eU eI)) thing), .val (eI X0), D4, D5, D6, .no, .no], T⟩ = .ok .nx ⟨[.val (eI high), .val (eI wide), .val ((eU (eU eI)) thing), .val (eI X0), D_35, D_36, D_37, .no, .no], T⟩ := by
      show forS _ _ _ _ = _
      rw [forS_ap, K_34, bind_ok]; exact Kl_33
    try push_cast [DR.bind_ok] at K_41
    obtain rfl := Option.some.inj H
    refine ⟨⟨[.val (eI high), .val (eI wide), .val ((eU (eU eI)) thing), .val (eI X0), D_35, D_36, D_37, .no, .no], T⟩, .inl ?_, ⟨.val (eI X0), D_35, D_36, D_37, rfl⟩⟩
    (push_cast [bd2_is_heights, Hg_14, K_41, Nat.reduceAdd, Nat.reduceSub, Nat.reduceLT, Nat.reduceLeDiff, Int.reduceLT, Int.reduceLE, Int.reduceNeg, Int.reducePow, Int.reduceToNat]; try with_reducible rfl)
  · subst HO
    obtain ⟨⟨E_42, E_42t⟩, Kl_33, HT⟩ := Kl_33
    replace HT : E_42t = T := HT
    rw [HT] at Kl_33
    have K_41 : lp1_is_heights ⟨[.val (eI high), .val (eI wide), .val ((eU (eU eI)) thing), .val (eI X0), D4, D5, D6, .no, .no], T⟩ = .ok (.rt (eB r_40) false) ⟨E_42, T⟩ := by
      show forS _ _ _ _ = _
      rw [forS_ap, K_34, bind_ok]; exact Kl_33
    try push_cast [DR.bind_ok] at K_41
    obtain rfl := Option.some.inj H
    refine ⟨⟨E_42, T⟩, ?_, rfl⟩
    (push_cast [bd2_is_heights, Hg_14, K_41, Nat.reduceAdd, Nat.reduceSub, Nat.reduceLT, Nat.reduceLeDiff, Int.reduceLT, Int.reduceLE, Int.reduceNeg, Int.reducePow, Int.reduceToNat]; try with_reducible rfl)
def m_is_heights_1 (high : Int) (wide : Int) (thing : List (List Int)) : Option Bool :=
  (m_check_sides high wide).bind fun r_1 =>
  (x0_is_heights_1 high wide thing).bind fun w_7 =>
  if w_7 = true then
    some false
  else
  (comp2O (a1_is_heights_1 thing) (b1_is_heights_1 thing) thing).bind fun y_10 =>
  if (!(y_10.all id)) = true then
    some false
  else
  (rngO 0 high).bind fun g_13 =>
  (forO (fun Q X0 => s0_is_heights_1 high wide thing  X0) g_13 ()).bind fun l_43 =>
  sumM l_43 (fun s_50 =>
    some true)
    (fun r_51 => some r_51)
theorem w_is_heights_1 (high : Int) (wide : Int) (thing : List (List Int)) (T : DT) {V : Bool} (H : m_is_heights_1 high wide thing = some V) : F_is_heights [eI high, eI wide, (eU (eU eI)) thing] T = .ok (eB V) false T := by
  unfold m_is_heights_1 at H
  obtain ⟨r_1, Hr_1, H⟩ := Option.bind_eq_some_iff.mp H
  have Kr_1 : F_check_sides [(.int high), (.int wide)] T = .ok .non false T := w_check_sides high wide T Hr_1
  obtain ⟨w_7, Hw_7, H⟩ := Option.bind_eq_some_iff.mp H
  have Kw_7 := x0_is_heights_1_ok high wide thing T Hw_7
  try push_cast [DR.bind_ok] at Kw_7
  rcases iteB_inv H with ⟨C_8, H⟩ | ⟨C_8, H⟩
  · -- +
    obtain rfl := Option.some.inj H
    (push_cast [F_is_heights, b_is_heights, Kr_1, Kw_7, C_8, Nat.reduceAdd, Nat.reduceSub, Nat.reduceLT, Nat.reduceLeDiff, Int.reduceLT, Int.reduceLE, Int.reduceNeg, Int.reducePow, Int.reduceToNat]; try with_reducible rfl)
  · -- -
    obtain ⟨y_10, Hy_10, H⟩ := Option.bind_eq_some_iff.mp H
    have K_11 : (seqI (nameE 2)) ⟨[.val (eI high), .val (eI wide), .val ((eU (eU eI)) thing), .no, .no, .no, .no, .no, .no], T⟩ = .ok (thing.map (eU eI)) ⟨[.val (eI high), .val (eI wide), .val ((eU (eU eI)) thing), .no, .no, .no, .no, .no, .no], T⟩ := by (push_cast [Kr_1, Kw_7, C_8, Nat.reduceAdd, Nat.reduceSub, Nat.reduceLT, Nat.reduceLeDiff, Int.reduceLT, Int.reduceLE, Int.reduceNeg, Int.reducePow, Int.reduceToNat]; try with_reducible rfl)
    have Ky_10 := c1_is_heights_1_ok (.val (eI high)) (.val (eI wide)) thing T thing K_11 Hy_10
    try push_cast [DR.bind_ok] at Ky_10
    rcases iteB_inv H with ⟨C_12, H⟩ | ⟨C_12, H⟩
    · -- +
      obtain rfl := Option.some.inj H
      (push_cast [F_is_heights, b_is_heights, Kr_1, Kw_7, C_8, Ky_10, C_12, Nat.reduceAdd, Nat.reduceSub, Nat.reduceLT, Nat.reduceLeDiff, Int.reduceLT, Int.reduceLE, Int.reduceNeg, Int.reducePow, Int.reduceToNat]; try with_reducible rfl)
    · -- -
      obtain ⟨g_13, Hg_13, H⟩ := Option.bind_eq_some_iff.mp H
      obtain ⟨l_43, Hl_43, H⟩ := Option.bind_eq_some_iff.mp H
      have K_44 : it2_is_heights ⟨[.val (eI high), .val (eI wide), .val ((eU (eU eI)) thing), .no, .no, .no, .no, .no, .no], T⟩ = .ok (g_13.map eI) ⟨[.val (eI high), .val (eI wide), .val ((eU (eU eI)) thing), .no, .no, .no, .no, .no, .no], T⟩ := by (push_cast [it2_is_heights, Kr_1, Kw_7, C_8, Ky_10, C_12, Hg_13, Nat.reduceAdd, Nat.reduceSub, Nat.reduceLT, Nat.reduceLeDiff, Int.reduceLT, Int.reduceLE, Int.reduceNeg, Int.reducePow, Int.reduceToNat]; try with_reducible rfl)
      have Kl_43 := for_for (I := I0_is_heights_1 high wide thing T) (R := (fun V : Bool => (eB V, false))) (J := (fun _ E => E.t = T)) (tg := (.nm 3)) (b := bd2_is_heights) (E := eI) (fun Q E X0 O HI H => l0_is_heights_1_bd high wide thing T  X0 E HI H) g_13 () ⟨[.val (eI high), .val (eI wide), .val ((eU (eU eI)) thing), .no, .no, .no, .no, .no, .no], T⟩ _ ⟨.no, .no, .no, .no, rfl⟩ Hl_43
      rcases sumM_inv H with ⟨s_50, HO, H⟩ | ⟨r_51, HO, H⟩
      · subst HO
        obtain ⟨E_49, Kl_43, ⟨D_45, D_46, D_47, D_48, rfl⟩⟩ := Kl_43
        have K_52 : lp2_is_heights ⟨[.val (eI high), .val (eI wide), .val ((eU (eU eI)) thing), .no, .no, .no, .no, .no, .no], T⟩ = .ok .nx ⟨[.val (eI high), .val (eI wide), .val ((eU (eU eI)) thing), D_45, D_46, D_47, D_48, .no, .no], T⟩ := by
          show forS _ _ _ _ = _
          rw [forS_ap, K_44, bind_ok]; exact Kl_43
        try push_cast [DR.bind_ok] at K_52
        obtain rfl := Option.some.inj H
        (push_cast [F_is_heights, b_is_heights, Kr_1, Kw_7, C_8, Ky_10, C_12, Hg_13, K_52, Nat.reduceAdd, Nat.reduceSub, Nat.reduceLT, Nat.reduceLeDiff, Int.reduceLT, Int.reduceLE, Int.reduceNeg, Int.reducePow, Int.reduceToNat]; try with_reducible rfl)
      · subst HO
        obtain ⟨⟨E_53, E_53t⟩, Kl_43, HT⟩ := Kl_43
        replace HT : E_53t = T := HT
        rw [HT] at Kl_43
        have K_52 : lp2_is_heights ⟨[.val (eI high), .val (eI wide), .val ((eU (eU eI)) thing), .no, .no, .no, .no, .no, .no], T⟩ = .ok (.rt (eB r_51) false) ⟨E_53, T⟩ := by
          show forS _ _ _ _ = _
          rw [forS_ap, K_44, bind_ok]; exact Kl_43
        try push_cast [DR.bind_ok] at K_52
        obtain rfl := Option.some.inj H
        (push_cast [F_is_heights, b_is_heights, Kr_1, Kw_7, C_8, Ky_10, C_12, Hg_13, K_52, Nat.reduceAdd, Nat.reduceSub, Nat.reduceLT, Nat.reduceLeDiff, Int.reduceLT, Int.reduceLE, Int.reduceNeg, Int.reducePow, Int.reduceToNat]; try with_reducible rfl)
def m_check_heights_1 (high : Int) (wide : Int) (thing : List (List Int)) : Option Unit :=
  (m_is_heights_1 high wide thing).bind fun r_1 =>
  if (!r_1) = true then
    none
  else
  some ()
theorem w_check_heights_1 (high : Int) (wide : Int) (thing : List (List Int)) (T : DT) {V : Unit} (H : m_check_heights_1 high wide thing = some V) : F_check_heights [eI high, eI wide, (eU (eU eI)) thing] T = .ok (eN V) false T := by
  unfold m_check_heights_1 at H
  obtain ⟨r_1, Hr_1, H⟩ := Option.bind_eq_some_iff.mp H
  have Kr_1 : F_is_heights [(.int high), (.int wide), (.tup false (List.map (eU eI) thing))] T = .ok (.bl r_1) false T := w_is_heights_1 high wide thing T Hr_1
  rcases iteB_inv H with ⟨C_2, H⟩ | ⟨C_2, H⟩
  · -- +
    cases H
  · -- -
    obtain rfl := Option.some.inj H
    (push_cast [F_check_heights, b_check_heights, Kr_1, C_2, Nat.reduceAdd, Nat.reduceSub, Nat.reduceLT, Nat.reduceLeDiff, Int.reduceLT, Int.reduceLE, Int.reduceNeg, Int.reducePow, Int.reduceToNat]; try with_reducible rfl)
def a0_noughts (high : Int) (wide : Int) (heights : List (List Int)) (Y0 : Int) : Option (Option (List Int)) :=
  (rngO 0 wide).bind fun g_3 =>
  some (some g_3)
def b0_noughts (high : Int) (wide : Int) (heights : List (List Int)) (Y0 : Int) (Z0y : Int) : Option (Option (Int × Int)) :=
  (idx heights Y0).bind fun v_4 =>
  (idx v_4 Z0y).bind fun v_5 =>
  if v_5 = 0 then
    some (some (Y0, Z0y))
  else
  some none
theorem c0_noughts_in (high : Int) (wide : Int) (heights : List (List Int)) (T : DT) (Y0 : Int) (Z0y : Int) {V : Option (Int × Int)} (H : b0_noughts high wide heights Y0 Z0y = some V) : ItemOk (testE (binE (eqG false) (ixE (ixN 2 (nameE 3)) (nameE 4)) (constE (.int 0)))) (tupE (consA (nameE 3) (consA (nameE 4) nilA))) [4] (wipeE [4] [.val (eI high), .val (eI wide), .val ((eU (eU eI)) heights), .val (eI Y0), .no]) (eP2 eI eI) ⟨[.val (eI high), .val (eI wide), .val ((eU (eU eI)) heights), .val (eI Y0), .val (eI Z0y)], T⟩ T V := by
  unfold b0_noughts at H
  obtain ⟨v_4, Hv_4, H⟩ := Option.bind_eq_some_iff.mp H
  have Kv_4 : ixG (.tup false (List.map (eU eI) heights)) (.int Y0) = some (.tup false (List.map eI v_4)) := by
    have := ixG_U false (eU eI) heights Y0
    rw [Hv_4] at this
    exact this
  obtain ⟨v_5, Hv_5, H⟩ := Option.bind_eq_some_iff.mp H
  have Kv_5 : ixG (.tup false (List.map eI v_4)) (.int Z0y) = some (.int v_5) := by
    have := ixG_U false eI v_4 Z0y
    rw [Hv_5] at this
    exact this
  rcases ite_inv H with ⟨C_6, H⟩ | ⟨C_6, H⟩
  · -- +
    replace C_6 := decide_eq_true C_6
    obtain rfl := Option.some.inj H
    refine ⟨⟨[.val (eI high), .val (eI wide), .val ((eU (eU eI)) heights), .val (eI Y0), .val (eI Z0y)], T⟩, ⟨[.val (eI high), .val (eI wide), .val ((eU (eU eI)) heights), .val (eI Y0), .val (eI Z0y)], T⟩, ?_, ?_, rfl, rfl⟩
    · (push_cast [Kv_4, Kv_5, C_6, Nat.reduceAdd, Nat.reduceSub, Nat.reduceLT, Nat.reduceLeDiff, Int.reduceLT, Int.reduceLE, Int.reduceNeg, Int.reducePow, Int.reduceToNat]; try with_reducible rfl)
    · (push_cast [Kv_4, Kv_5, C_6, Nat.reduceAdd, Nat.reduceSub, Nat.reduceLT, Nat.reduceLeDiff, Int.reduceLT, Int.reduceLE, Int.reduceNeg, Int.reducePow, Int.reduceToNat]; try with_reducible rfl)
  · -- -
    replace C_6 := decide_eq_false C_6
    obtain rfl := Option.some.inj H
    refine ⟨⟨[.val (eI high), .val (eI wide), .val ((eU (eU eI)) heights), .val (eI Y0), .val (eI Z0y)], T⟩, ?_, rfl, rfl⟩
    (push_cast [Kv_4, Kv_5, C_6, Nat.reduceAdd, Nat.reduceSub, Nat.reduceLT, Nat.reduceLeDiff, Int.reduceLT, Int.reduceLE, Int.reduceNeg, Int.reducePow, Int.reduceToNat]; try with_reducible rfl)
theorem c0_noughts_ok (high : Int) (wide : Int) (heights : List (List Int)) (T : DT) (XS : List Int) (HX : (range1I (nameE 0)) ⟨[.val (eI high), .val (eI wide), .val ((eU (eU eI)) heights), .no, .no], T⟩ = .ok (XS.map eI) ⟨[.val (eI high), .val (eI wide), .val ((eU (eU eI)) heights), .no, .no], T⟩) {Y : List (Int × Int)} (H : comp2O (a0_noughts high wide heights) (b0_noughts high wide heights) XS = some Y) : cp0_noughts ⟨[.val (eI high), .val (eI wide), .val ((eU (eU eI)) heights), .no, .no], T⟩ = .ok (.lst (Y.map (eP2 eI eI)), true) ⟨[.val (eI high), .val (eI wide), .val ((eU (eU eI)) heights), .no, .no], T⟩ := by
  refine (lc2O_O (E := eI) (E1 := eI) (F := (eP2 eI eI)) (c := a0_noughts high wide heights) (f := b0_noughts high wide heights) HX H (by decide) fun Y0 V H => ⟨[.val (eI high), .val (eI wide), .val ((eU (eU eI)) heights), .val (eI Y0), .no], rfl, ?_⟩).trans (by rfl)
  unfold a0_noughts at H
  obtain ⟨g_3, Hg_3, H⟩ := Option.bind_eq_some_iff.mp H
  obtain rfl := Option.some.inj H
  refine ⟨⟨[.val (eI high), .val (eI wide), .val ((eU (eU eI)) heights), .val (eI Y0), .no], T⟩, [.val (eI high), .val (eI wide), .val ((eU (eU eI)) heights), .val (eI Y0), .no], ?_, ?_, rfl, fun Z0y V2 H => ?_⟩
  · (push_cast [Hg_3, Nat.reduceAdd, Nat.reduceSub, Nat.reduceLT, Nat.reduceLeDiff, Int.reduceLT, Int.reduceLE, Int.reduceNeg, Int.reducePow, Int.reduceToNat]; try with_reducible rfl)
  · (push_cast [Hg_3, Nat.reduceAdd, Nat.reduceSub, Nat.reduceLT, Nat.reduceLeDiff, Int.reduceLT, Int.reduceLE, Int.reduceNeg, Int.reducePow, Int.reduceToNat]; try with_reducible rfl)
  · exact ⟨[.val (eI high), .val (eI wide), .val ((eU (eU eI)) heights), .val (eI Y0), .val (eI Z0y)], rfl, c0_noughts_in high wide heights T Y0 Z0y H⟩
def m_noughts (high : Int) (wide : Int) (heights : List (List Int)) : Option (List (Int × Int)) :=
  (m_check_heights_1 high wide heights).bind fun r_1 =>
  (rngO 0 high).bind fun g_2 =>
  (comp2O (a0_noughts high wide heights) (b0_noughts high wide heights) g_2).bind fun y_7 =>
  some y_7
theorem w_noughts (high : Int) (wide : Int) (heights : List (List Int)) (T : DT) {V : (List (Int × Int))} (H : m_noughts high wide heights = some V) : F_noughts [eI high, eI wide, (eU (eU eI)) heights] T = .ok ((eL (eP2 eI eI)) V) true T := by
  unfold m_noughts at H
  obtain ⟨r_1, Hr_1, H⟩ := Option.bind_eq_some_iff.mp H
  have Kr_1 : F_check_heights [(.int high), (.int wide), (.tup false (List.map (eU eI) heights))] T = .ok .non false T := w_check_heights_1 high wide heights T Hr_1
  obtain ⟨g_2, Hg_2, H⟩ := Option.bind_eq_some_iff.mp H
  obtain ⟨y_7, Hy_7, H⟩ := Option.bind_eq_some_iff.mp H
  have K_8 : (range1I (nameE 0)) ⟨[.val (eI high), .val (eI wide), .val ((eU (eU eI)) heights), .no, .no], T⟩ = .ok (g_2.map eI) ⟨[.val (eI high), .val (eI wide), .val ((eU (eU eI)) heights), .no, .no], T⟩ := by (push_cast [Kr_1, Hg_2, Nat.reduceAdd, Nat.reduceSub, Nat.reduceLT, Nat.reduceLeDiff, Int.reduceLT, Int.reduceLE, Int.reduceNeg, Int.reducePow, Int.reduceToNat]; try with_reducible rfl)
  have Ky_7 := c0_noughts_ok high wide heights T g_2 K_8 Hy_7
  try push_cast [DR.bind_ok] at Ky_7
  obtain rfl := Option.some.inj H
  (push_cast [F_noughts, b_noughts, Kr_1, Hg_2, Ky_7, Nat.reduceAdd, Nat.reduceSub, Nat.reduceLT, Nat.reduceLeDiff, Int.reduceLT, Int.reduceLE, Int.reduceNeg, Int.reducePow, Int.reduceToNat]; try with_reducible rfl)
def x0_is_up_down_1 (heights : List (List Int)) : Option Bool :=
  (idx heights 0).bind fun v_1 =>
  (maxL v_1).bind fun v_2 =>
  if v_2 ≤ 0 then
    (idx heights (-1)).bind fun v_4 =>
    (minL v_4).bind fun v_5 =>
    some (decide (0 ≤ v_5))
  else
  some false
theorem x0_is_up_down_1_ok (heights : List (List Int)) (T : DT) {W : Bool} (H : x0_is_up_down_1 heights = some W) : xe0_is_up_down ⟨[.val ((eU (eU eI)) heights)], T⟩ = .ok (eB W) ⟨[.val ((eU (eU eI)) heights)], T⟩ := by
  unfold x0_is_up_down_1 at H
  obtain ⟨v_1, Hv_1, H⟩ := Option.bind_eq_some_iff.mp H
  have Kv_1 : ixG (.tup false (List.map (eU eI) heights)) (.int 0) = some (.tup false (List.map eI v_1)) := by
    have := ixG_U false (eU eI) heights 0
    rw [Hv_1] at this
    exact this
  obtain ⟨v_2, Hv_2, H⟩ := Option.bind_eq_some_iff.mp H
  have Kv_2 : maxA (.tup false (List.map eI v_1)) = some (.int v_2) := by
    have := maxA_U false v_1
    rw [Hv_2] at this
    exact this
  rcases ite_inv H with ⟨C_3, H⟩ | ⟨C_3, H⟩
  · -- +
    replace C_3 := decide_eq_true C_3
    obtain ⟨v_4, Hv_4, H⟩ := Option.bind_eq_some_iff.mp H
    have Kv_4 : ixG (.tup false (List.map (eU eI) heights)) (.int (-1)) = some (.tup false (List.map eI v_4)) := by
      have := ixG_U false (eU eI) heights (-1)
      rw [Hv_4] at this
      exact this
    obtain ⟨v_5, Hv_5, H⟩ := Option.bind_eq_some_iff.mp H
    have Kv_5 : minA (.tup false (List.map eI v_4)) = some (.int v_5) := by
      have := minA_U false v_4
      rw [Hv_5] at this
      exact this
    obtain rfl := Option.some.inj H
    (push_cast [xe0_is_up_down, Kv_1, Kv_2, C_3, Kv_4, Kv_5, Nat.reduceAdd, Nat.reduceSub, Nat.reduceLT, Nat.reduceLeDiff, Int.reduceLT, Int.reduceLE, Int.reduceNeg, Int.reducePow, Int.reduceToNat]; try with_reducible rfl)
  · -- -
    replace C_3 := decide_eq_false C_3
    obtain rfl := Option.some.inj H
    (push_cast [xe0_is_up_down, Kv_1, Kv_2, C_3, Nat.reduceAdd, Nat.reduceSub, Nat.reduceLT, Nat.reduceLeDiff, Int.reduceLT, Int.reduceLE, Int.reduceNeg, Int.reducePow, Int.reduceToNat]; try with_reducible rfl)
def m_is_up_down_1 (heights : List (List Int)) : Option Bool :=
  (x0_is_up_down_1 heights).bind fun w_6 =>
  some w_6
theorem w_is_up_down_1 (heights : List (List Int)) (T : DT) {V : Bool} (H : m_is_up_down_1 heights = some V) : F_is_up_down [(eU (eU eI)) heights] T = .ok (eB V) false T := by
  unfold m_is_up_down_1 at H
  obtain ⟨w_6, Hw_6, H⟩ := Option.bind_eq_some_iff.mp H
  have Kw_6 := x0_is_up_down_1_ok heights T Hw_6
  try push_cast [DR.bind_ok] at Kw_6
  obtain rfl := Option.some.inj H
  (push_cast [F_is_up_down, b_is_up_down, Kw_6, Nat.reduceAdd, Nat.reduceSub, Nat.reduceLT, Nat.reduceLeDiff, Int.reduceLT, Int.reduceLE, Int.reduceNeg, Int.reducePow, Int.reduceToNat]; try with_reducible rfl)
def b1_turned (heights : List (List Int)) (at_ : Int) (Y1 : List Int) : Option Int :=
  (idx Y1 at_).bind fun v_3 =>
  some v_3
theorem c1_turned_ok (Z0 : Sl) (Z1 : Sl) (heights : List (List Int)) (at_ : Int) (T : DT) (XS : List (List Int)) (HX : (seqI (nameE 2)) ⟨[Z0, Z1, .val ((eU (eU eI)) heights), .val (eI at_), .no], T⟩ = .ok (XS.map (eU eI)) ⟨[Z0, Z1, .val ((eU (eU eI)) heights), .val (eI at_), .no], T⟩) {Y : List Int} (H : compM (b1_turned heights at_) XS = some Y) : cp0_turned ⟨[Z0, Z1, .val ((eU (eU eI)) heights), .val (eI at_), .no], T⟩ = .ok (.lst (Y.map eI), true) ⟨[Z0, Z1, .val ((eU (eU eI)) heights), .val (eI at_), .no], T⟩ := by
  refine (lcO_M (E := (eU eI)) (F := eI) (f := b1_turned heights at_) HX H fun Y1 V H => ⟨[Z0, Z1, .val ((eU (eU eI)) heights), .val (eI at_), .val ((eU eI) Y1)], rfl, ?_⟩).trans (by rfl)
  unfold b1_turned at H
  obtain ⟨v_3, Hv_3, H⟩ := Option.bind_eq_some_iff.mp H
  have Kv_3 : ixG (.tup false (List.map eI Y1)) (.int at_) = some (.int v_3) := by
    have := ixG_U false eI Y1 at_
    rw [Hv_3] at this
    exact this
  obtain rfl := Option.some.inj H
  refine ⟨⟨[Z0, Z1, .val ((eU (eU eI)) heights), .val (eI at_), .val ((eU eI) Y1)], T⟩, ?_, rfl, rfl⟩
  (push_cast [Kv_3, Nat.reduceAdd, Nat.reduceSub, Nat.reduceLT, Nat.reduceLeDiff, Int.reduceLT, Int.reduceLE, Int.reduceNeg, Int.reducePow, Int.reduceToNat]; try with_reducible rfl)
def b0_turned (wide : Int) (heights : List (List Int)) (Y0 : Int) : Option (List Int) :=
  (compM (b1_turned heights Y0) heights).bind fun y_4 =>
  some y_4
theorem c0_turned_ok (Z0 : Sl) (wide : Int) (heights : List (List Int)) (T : DT) (XS : List Int) (HX : (range1I (nameE 1)) ⟨[Z0, .val (eI wide), .val ((eU (eU eI)) heights), .no, .no], T⟩ = .ok (XS.map eI) ⟨[Z0, .val (eI wide), .val ((eU (eU eI)) heights), .no, .no], T⟩) {Y : List (List Int)} (H : compM (b0_turned wide heights) XS = some Y) : cp1_turned ⟨[Z0, .val (eI wide), .val ((eU (eU eI)) heights), .no, .no], T⟩ = .ok (.lst (Y.map (eU eI)), true) ⟨[Z0, .val (eI wide), .val ((eU (eU eI)) heights), .no, .no], T⟩ := by
  refine (lcO_M (E := eI) (F := (eU eI)) (f := b0_turned wide heights) HX H fun Y0 V H => ⟨[Z0, .val (eI wide), .val ((eU (eU eI)) heights), .val (eI Y0), .no], rfl, ?_⟩).trans (by rfl)
  unfold b0_turned at H
  obtain ⟨y_4, Hy_4, H⟩ := Option.bind_eq_some_iff.mp H
  have K_5 : (seqI (nameE 2)) ⟨[Z0, .val (eI wide), .val ((eU (eU eI)) heights), .val (eI Y0), .no], T⟩ = .ok (heights.map (eU eI)) ⟨[Z0, .val (eI wide), .val ((eU (eU eI)) heights), .val (eI Y0), .no], T⟩ := by (push_cast [bind_ok, Nat.reduceAdd, Nat.reduceSub, Nat.reduceLT, Nat.reduceLeDiff, Int.reduceLT, Int.reduceLE, Int.reduceNeg, Int.reducePow, Int.reduceToNat]; try with_reducible rfl)
  have Ky_4 := c1_turned_ok Z0 (.val (eI wide)) heights Y0 T heights K_5 Hy_4
  try push_cast [DR.bind_ok] at Ky_4
  obtain rfl := Option.some.inj H
  refine ⟨⟨[Z0, .val (eI wide), .val ((eU (eU eI)) heights), .val (eI Y0), .no], T⟩, ?_, rfl, rfl⟩
  (push_cast [Ky_4, Nat.reduceAdd, Nat.reduceSub, Nat.reduceLT, Nat.reduceLeDiff, Int.reduceLT, Int.reduceLE, Int.reduceNeg, Int.reducePow, Int.reduceToNat]; try with_reducible rfl)
def m_turned (high : Int) (wide : Int) (heights : List (List Int)) : Option (List (List Int)) :=
  (m_check_heights_1 high wide heights).bind fun r_1 =>
  (rngO 0 wide).bind fun g_2 =>
  (compM (b0_turned wide heights) g_2).bind fun y_6 =>
  some y_6
theorem w_turned (high : Int) (wide : Int) (heights : List (List Int)) (T : DT) {V : (List (List Int))} (H : m_turned high wide heights = some V) : F_turned [eI high, eI wide, (eU (eU eI)) heights] T = .ok ((eU (eU eI)) V) false T := by
  unfold m_turned at H
  obtain ⟨r_1, Hr_1, H⟩ := Option.bind_eq_some_iff.mp H
  have Kr_1 : F_check_heights [(.int high), (.int wide), (.tup false (List.map (eU eI) heights))] T = .ok .non false T := w_check_heights_1 high wide heights T Hr_1
  obtain ⟨g_2, Hg_2, H⟩ := Option.bind_eq_some_iff.mp H
  obtain ⟨y_6, Hy_6, H⟩ := Option.bind_eq_some_iff.mp H
  have K_7 : (range1I (nameE 1)) ⟨[.val (eI high), .val (eI wide), .val ((eU (eU eI)) heights), .no, .no], T⟩ = .ok (g_2.map eI) ⟨[.val (eI high), .val (eI wide), .val ((eU (eU eI)) heights), .no, .no], T⟩ := by (push_cast [Kr_1, Hg_2, Nat.reduceAdd, Nat.reduceSub, Nat.reduceLT, Nat.reduceLeDiff, Int.reduceLT, Int.reduceLE, Int.reduceNeg, Int.reducePow, Int.reduceToNat]; try with_reducible rfl)
  have Ky_6 := c0_turned_ok (.val (eI high)) wide heights T g_2 K_7 Hy_6
  try push_cast [DR.bind_ok] at Ky_6
  obtain rfl := Option.some.inj H
  (push_cast [F_turned, b_turned, Kr_1, Hg_2, Ky_6, Nat.reduceAdd, Nat.reduceSub, Nat.reduceLT, Nat.reduceLeDiff, Int.reduceLT, Int.reduceLE, Int.reduceNeg, Int.reducePow, Int.reduceToNat]; try with_reducible rfl)
def b0_is_left_right (heights : List (List Int)) (Y0 : List Int) : Option Int :=
  (idx Y0 0).bind fun v_1 =>
  some v_1
theorem c0_is_left_right_ok (heights : List (List Int)) (T : DT) (XS : List (List Int)) (HX : (seqI (nameE 0)) ⟨[.val ((eU (eU eI)) heights), .no], T⟩ = .ok (XS.map (eU eI)) ⟨[.val ((eU (eU eI)) heights), .no], T⟩) {Y : List Int} (H : compM (b0_is_left_right heights) XS = some Y) : cp0_is_left_right ⟨[.val ((eU (eU eI)) heights), .no], T⟩ = .ok (.lst (Y.map eI), true) ⟨[.val ((eU (eU eI)) heights), .no], T⟩ := by
  refine (lcO_M (E := (eU eI)) (F := eI) (f := b0_is_left_right heights) HX H fun Y0 V H => ⟨[.val ((eU (eU eI)) heights), .val ((eU eI) Y0)], rfl, ?_⟩).trans (by rfl)
  unfold b0_is_left_right at H
  obtain ⟨v_1, Hv_1, H⟩ := Option.bind_eq_some_iff.mp H
  have Kv_1 : ixG (.tup false (List.map eI Y0)) (.int 0) = some (.int v_1) := by
    have := ixG_U false eI Y0 0
    rw [Hv_1] at this
    exact this
  obtain rfl := Option.some.inj H
  refine ⟨⟨[.val ((eU (eU eI)) heights), .val ((eU eI) Y0)], T⟩, ?_, rfl, rfl⟩
  (push_cast [Kv_1, Nat.reduceAdd, Nat.reduceSub, Nat.reduceLT, Nat.reduceLeDiff, Int.reduceLT, Int.reduceLE, Int.reduceNeg, Int.reducePow, Int.reduceToNat]; try with_reducible rfl)
def b1_is_left_right (heights : List (List Int)) (Y1 : List Int) : Option Int :=
  (idx Y1 (-1)).bind fun v_6 =>
  some v_6
theorem c1_is_left_right_ok (heights : List (List Int)) (T : DT) (XS : List (List Int)) (HX : (seqI (nameE 0)) ⟨[.val ((eU (eU eI)) heights), .no], T⟩ = .ok (XS.map (eU eI)) ⟨[.val ((eU (eU eI)) heights), .no], T⟩) {Y : List Int} (H : compM (b1_is_left_right heights) XS = some Y) : cp1_is_left_right ⟨[.val ((eU (eU eI)) heights), .no], T⟩ = .ok (.lst (Y.map eI), true) ⟨[.val ((eU (eU eI)) heights), .no], T⟩ := by
  refine (lcO_M (E := (eU eI)) (F := eI) (f := b1_is_left_right heights) HX H fun Y1 V H => ⟨[.val ((eU (eU eI)) heights), .val ((eU eI) Y1)], rfl, ?_⟩).trans (by rfl)
  unfold b1_is_left_right at H
  obtain ⟨v_6, Hv_6, H⟩ := Option.bind_eq_some_iff.mp H
  have Kv_6 : ixG (.tup false (List.map eI Y1)) (.int (-1)) = some (.int v_6) := by
    have := ixG_U false eI Y1 (-1)
    rw [Hv_6] at this
    exact this
  obtain rfl := Option.some.inj H
  refine ⟨⟨[.val ((eU (eU eI)) heights), .val ((eU eI) Y1)], T⟩, ?_, rfl, rfl⟩
  (push_cast [Kv_6, Nat.reduceAdd, Nat.reduceSub, Nat.reduceLT, Nat.reduceLeDiff, Int.reduceLT, Int.reduceLE, Int.reduceNeg, Int.reducePow, Int.reduceToNat]; try with_reducible rfl)
def x0_is_left_right (heights : List (List Int)) : Option Bool :=
  (compM (b0_is_left_right heights) heights).bind fun y_2 =>
  (maxL y_2).bind fun v_4 =>
  if v_4 ≤ 0 then
    (compM (b1_is_left_right heights) heights).bind fun y_7 =>
    (minL y_7).bind fun v_9 =>
    some (decide (0 ≤ v_9))
  else
  some false
theorem x0_is_left_right_ok (heights : List (List Int)) (T : DT) {W : Bool} (H : x0_is_left_right heights = some W) : xe0_is_left_right ⟨[.val ((eU (eU eI)) heights), .no], T⟩ = .ok (eB W) ⟨[.val ((eU (eU eI)) heights), .no], T⟩ := by
  unfold x0_is_left_right at H
  obtain ⟨y_2, Hy_2, H⟩ := Option.bind_eq_some_iff.mp H
  have K_3 : (seqI (nameE 0)) ⟨[.val ((eU (eU eI)) heights), .no], T⟩ = .ok (heights.map (eU eI)) ⟨[.val ((eU (eU eI)) heights), .no], T⟩ := by (push_cast [bind_ok, Nat.reduceAdd, Nat.reduceSub, Nat.reduceLT, Nat.reduceLeDiff, Int.reduceLT, Int.reduceLE, Int.reduceNeg, Int.reducePow, Int.reduceToNat]; try with_reducible rfl)
  have Ky_2 := c0_is_left_right_ok heights T heights K_3 Hy_2
  try push_cast [DR.bind_ok] at Ky_2
  obtain ⟨v_4, Hv_4, H⟩ := Option.bind_eq_some_iff.mp H
  have Kv_4 : maxA (.lst (List.map eI y_2)) = some (.int v_4) := by
    have := maxA_L y_2
    rw [Hv_4] at this
    exact this
  rcases ite_inv H with ⟨C_5, H⟩ | ⟨C_5, H⟩
  · -- +
    replace C_5 := decide_eq_true C_5
    obtain ⟨y_7, Hy_7, H⟩ := Option.bind_eq_some_iff.mp H
    have K_8 : (seqI (nameE 0)) ⟨[.val ((eU (eU eI)) heights), .no], T⟩ = .ok (heights.map (eU eI)) ⟨[.val ((eU (eU eI)) heights), .no], T⟩ := by (push_cast [Ky_2, Kv_4, C_5, Nat.reduceAdd, Nat.reduceSub, Nat.reduceLT, Nat.reduceLeDiff, Int.reduceLT, Int.reduceLE, Int.reduceNeg, Int.reducePow, Int.reduceToNat]; try with_reducible rfl)
    have Ky_7 := c1_is_left_right_ok heights T heights K_8 Hy_7
    try push_cast [DR.bind_ok] at Ky_7
    obtain ⟨v_9, Hv_9, H⟩ := Option.bind_eq_some_iff.mp H
    have Kv_9 : minA (.lst (List.map eI y_7)) = some (.int v_9) := by
      have := minA_L y_7
      rw [Hv_9] at this
      exact this
    obtain rfl := Option.some.inj H
    (push_cast [xe0_is_left_right, Ky_2, Kv_4, C_5, Ky_7, Kv_9, Nat.reduceAdd, Nat.reduceSub, Nat.reduceLT, Nat.reduceLeDiff, Int.reduceLT, Int.reduceLE, Int.reduceNeg, Int.reducePow, Int.reduceToNat]; try with_reducible rfl)
  · -- -
    replace C_5 := decide_eq_false C_5
    obtain rfl := Option.some.inj H
    (push_cast [xe0_is_left_right, Ky_2, Kv_4, C_5, Nat.reduceAdd, Nat.reduceSub, Nat.reduceLT, Nat.reduceLeDiff, Int.reduceLT, Int.reduceLE, Int.reduceNeg, Int.reducePow, Int.reduceToNat]; try with_reducible rfl)
def m_is_left_right (heights : List (List Int)) : Option Bool :=
  (x0_is_left_right heights).bind fun w_10 =>
  some w_10
theorem w_is_left_right (heights : List (List Int)) (T : DT) {V : Bool} (H : m_is_left_right heights = some V) : F_is_left_right [(eU (eU eI)) heights] T = .ok (eB V) false T := by
  unfold m_is_left_right at H
  obtain ⟨w_10, Hw_10, H⟩ := Option.bind_eq_some_iff.mp H
  have Kw_10 := x0_is_left_right_ok heights T Hw_10
  try push_cast [DR.bind_ok] at Kw_10
  obtain rfl := Option.some.inj H
  (push_cast [F_is_left_right, b_is_left_right, Kw_10, Nat.reduceAdd, Nat.reduceSub, Nat.reduceLT, Nat.reduceLeDiff, Int.reduceLT, Int.reduceLE, Int.reduceNeg, Int.reducePow, Int.reduceToNat]; try with_reducible rfl)
theorem c0__law_plain_right_ok (Z1 : Sl) (Z2 : Sl) (Z3 : Sl) (Z4 : Sl) (a : Int) (row : List Int) (T : DT) (XS : List (Int × Int)) (HX : (enumAI (nameE 6)) ⟨[.val (.cell 0), Z1, Z2, Z3, Z4, .val (eI a), .val ((eU eI) row), .no, .no, .no], T⟩ = .ok (XS.map (eP2 eI eI)) ⟨[.val (.cell 0), Z1, Z2, Z3, Z4, .val (eI a), .val ((eU eI) row), .no, .no, .no], T⟩) {Y : List (Int × Int)} (H : lenO ((XS.filter fun Y0 => (decide (Y0.2 = 0))).map fun Y0 => (a, Y0.1)) = some Y) : cp0__law_plain_right ⟨[.val (.cell 0), Z1, Z2, Z3, Z4, .val (eI a), .val ((eU eI) row), .no, .no, .no], T⟩ = .ok (.lst (Y.map (eP2 eI eI)), true) ⟨[.val (.cell 0), Z1, Z2, Z3, Z4, .val (eI a), .val ((eU eI) row), .no, .no, .no], T⟩ := by
  refine (lcO_P (E := (eP2 eI eI)) (F := (eP2 eI eI)) (p := fun Y0 => (decide (Y0.2 = 0))) (g := fun Y0 => (a, Y0.1)) HX H fun Y0 => ⟨[.val (.cell 0), Z1, Z2, Z3, Z4, .val (eI a), .val ((eU eI) row), .no, .val (eI Y0.1), .val (eI Y0.2)], rfl, ⟨[.val (.cell 0), Z1, Z2, Z3, Z4, .val (eI a), .val ((eU eI) row), .no, .val (eI Y0.1), .val (eI Y0.2)], T⟩, ?_, fun _ => ⟨rfl, rfl⟩, fun HP => ⟨⟨[.val (.cell 0), Z1, Z2, Z3, Z4, .val (eI a), .val ((eU eI) row), .no, .val (eI Y0.1), .val (eI Y0.2)], T⟩, ?_, rfl, rfl⟩⟩).trans (by rfl)
  · (push_cast [bind_ok, t_and, t_or, e_and, e_or, i_andT, i_orT, i_andE, i_orE, i_int, k_if, k_ch3, Nat.reduceAdd, Nat.reduceSub, Nat.reduceLT, Nat.reduceLeDiff, Int.reduceLT, Int.reduceLE, Int.reduceNeg, Int.reducePow, Int.reduceToNat]; try with_reducible rfl)
  · have HP : decide (Y0.2 = 0) = true := by simpa using HP
    (push_cast [HP, t_and, t_or, e_and, e_or, i_andT, i_orT, i_andE, i_orE, i_int, k_if, k_ch3, Nat.reduceAdd, Nat.reduceSub, Nat.reduceLT, Nat.reduceLeDiff, Int.reduceLT, Int.reduceLE, Int.reduceNeg, Int.reducePow, Int.reduceToNat]; try with_reducible rfl)
def s0__law_plain_right  (own : List (Int × Int)) (X0 : Int × (List Int)) : Option (((List (Int × Int)))) :=
  (lenO (((enumT 0 X0.2).filter fun Y0 => (decide (Y0.2 = 0))).map fun Y0 => (X0.1, Y0.1))).bind fun y_10 =>
  (appO own y_10).bind fun own_12 =>
  some own_12
def I0__law_plain_right (Z1 : Sl) (Z2 : Sl) (Z3 : Sl) (T : DT) (Q : (List (Int × Int))) (E : DS) : Prop := ∃ D5 D6, E = ⟨[.val (.cell 0), Z1, Z2, Z3, .own ((eL (eP2 eI eI)) Q), D5, D6, .no, .no, .no], T⟩
theorem l0__law_plain_right_bd (Z1 : Sl) (Z2 : Sl) (Z3 : Sl) (T : DT) (own : List (Int × Int)) (X0 : Int × (List Int)) (E : DS) (HI : I0__law_plain_right Z1 Z2 Z3 T own E) {O : ((List (Int × Int)))} (H : s0__law_plain_right  own X0 = some O) : ∃ E1, asgT (.tp [(.nm 5), (.nm 6)]) ((eP2 eI (eU eI)) X0) E.e = some E1 ∧ ∃ E2, (bd0__law_plain_right ⟨E1, E.t⟩ = .ok .nx E2 ∨ bd0__law_plain_right ⟨E1, E.t⟩ = .ok .ct E2) ∧ I0__law_plain_right Z1 Z2 Z3 T O E2 := by
  obtain ⟨D5, D6, rfl⟩ := HI
  refine ⟨[.val (.cell 0), Z1, Z2, Z3, .own ((eL (eP2 eI eI)) own), .val (eI X0.1), .val ((eU eI) X0.2), .no, .no, .no], rfl, ?_⟩
  unfold s0__law_plain_right at H
  have K_9 := enumP_t eI 0 X0.2
  obtain ⟨y_10, Hy_10, H⟩ := Option.bind_eq_some_iff.mp H
  have K_11 : (enumAI (nameE 6)) ⟨[.val (.cell 0), Z1, Z2, Z3, .own ((eL (eP2 eI eI)) own), .val (eI X0.1), .val ((eU eI) X0.2), .no, .no, .no], T⟩ = .ok ((enumT 0 X0.2).map (eP2 eI eI)) ⟨[.val (.cell 0), Z1, Z2, Z3, .own ((eL (eP2 eI eI)) own), .val (eI X0.1), .val ((eU eI) X0.2), .no, .no, .no], T⟩ := by (push_cast [K_9, Nat.reduceAdd, Nat.reduceSub, Nat.reduceLT, Nat.reduceLeDiff, Int.reduceLT, Int.reduceLE, Int.reduceNeg, Int.reducePow, Int.reduceToNat]; try with_reducible rfl)
  have Ky_10 := c0__law_plain_right_ok Z1 Z2 Z3 (.own ((eL (eP2 eI eI)) own)) X0.1 X0.2 T (enumT 0 X0.2) K_11 Hy_10
  try push_cast [DR.bind_ok] at Ky_10
  obtain ⟨own_12, Hown_12, H⟩ := Option.bind_eq_some_iff.mp H
  have Kown_12 : extU (.lst (List.map (eP2 eI eI) y_10)) (.lst (List.map (eP2 eI eI) own)) = some ((.lst (List.map (eP2 eI eI) own_12)), .non) := by
    have := extU_L (eP2 eI eI) own y_10
    rw [Hown_12] at this
    exact this
  obtain rfl := Option.some.inj H
  refine ⟨⟨[.val (.cell 0), Z1, Z2, Z3, .own ((eL (eP2 eI eI)) own_12), .val (eI X0.1), .val ((eU eI) X0.2), .no, .no, .no], T⟩, .inl ?_, ⟨.val (eI X0.1), .val ((eU eI) X0.2), rfl⟩⟩
  (push_cast [bd0__law_plain_right, K_9, Ky_10, Kown_12, Nat.reduceAdd, Nat.reduceSub, Nat.reduceLT, Nat.reduceLeDiff, Int.reduceLT, Int.reduceLE, Int.reduceNeg, Int.reducePow, Int.reduceToNat]; try with_reducible rfl)
def x0__law_plain_right (heights_so : List (List Int)) : Option Bool :=
  (idx heights_so 0).bind fun v_22 =>
  (maxL v_22).bind fun v_23 =>
  if v_23 ≤ 0 then
    (idx heights_so (-1)).bind fun v_25 =>
    (minL v_25).bind fun v_26 =>
    some (decide (0 ≤ v_26))
  else
  some false
theorem x0__law_plain_right_ok (Z1 : Sl) (Z2 : Sl) (heights_so : List (List Int)) (Z4 : Sl) (Z5 : Sl) (Z6 : Sl) (T : DT) {W : Bool} (H : x0__law_plain_right heights_so = some W) : xe0__law_plain_right ⟨[.val (.cell 0), Z1, Z2, .val ((eU (eU eI)) heights_so), Z4, Z5, Z6, .no, .no, .no], T⟩ = .ok (eB W) ⟨[.val (.cell 0), Z1, Z2, .val ((eU (eU eI)) heights_so), Z4, Z5, Z6, .no, .no, .no], T⟩ := by
  unfold x0__law_plain_right at H
  obtain ⟨v_22, Hv_22, H⟩ := Option.bind_eq_some_iff.mp H
  have Kv_22 : ixG (.tup false (List.map (eU eI) heights_so)) (.int 0) = some (.tup false (List.map eI v_22)) := by
    have := ixG_U false (eU eI) heights_so 0
    rw [Hv_22] at this
    exact this
  obtain ⟨v_23, Hv_23, H⟩ := Option.bind_eq_some_iff.mp H
  have Kv_23 : maxA (.tup false (List.map eI v_22)) = some (.int v_23) := by
    have := maxA_U false v_22
    rw [Hv_23] at this
    exact this
  rcases ite_inv H with ⟨C_24, H⟩ | ⟨C_24, H⟩
  · -- +
    replace C_24 := decide_eq_true C_24
    obtain ⟨v_25, Hv_25, H⟩ := Option.bind_eq_some_iff.mp H
    have Kv_25 : ixG (.tup false (List.map (eU eI) heights_so)) (.int (-1)) = some (.tup false (List.map eI v_25)) := by
      have := ixG_U false (eU eI) heights_so (-1)
      rw [Hv_25] at this
      exact this
    obtain ⟨v_26, Hv_26, H⟩ := Option.bind_eq_some_iff.mp H
    have Kv_26 : minA (.tup false (List.map eI v_25)) = some (.int v_26) := by
      have := minA_U false v_25
      rw [Hv_26] at this
      exact this
    obtain rfl := Option.some.inj H
    (push_cast [xe0__law_plain_right, Kv_22, Kv_23, C_24, Kv_25, Kv_26, Nat.reduceAdd, Nat.reduceSub, Nat.reduceLT, Nat.reduceLeDiff, Int.reduceLT, Int.reduceLE, Int.reduceNeg, Int.reducePow, Int.reduceToNat]; try with_reducible rfl)
  · -- -
    replace C_24 := decide_eq_false C_24
    obtain rfl := Option.some.inj H
    (push_cast [xe0__law_plain_right, Kv_22, Kv_23, C_24, Nat.reduceAdd, Nat.reduceSub, Nat.reduceLT, Nat.reduceLeDiff, Int.reduceLT, Int.reduceLE, Int.reduceNeg, Int.reducePow, Int.reduceToNat]; try with_reducible rfl)
def m__law_plain_right (hd : Hd) : Option (Bool × Hd) :=
  (m__law_draw hd 5).bind fun r_1 =>
  (m__law_draw r_1.2 5).bind fun r_2 =>
  (m__law_draw r_2.2 1000000000).bind fun r_4 =>
  (m_drawn_heights (2 + r_1.1) (2 + r_2.1) r_4.1).bind fun r_5 =>
  (m_is_heights_1 (2 + r_1.1) (2 + r_2.1) r_5).bind fun r_6 =>
  if r_6 = true then
    (foldO (fun Q X0 => s0__law_plain_right  Q X0) (enumT 0 r_5) ([] : List (Int × Int))).bind fun l_13 =>
    (m_noughts (2 + r_1.1) (2 + r_2.1) r_5).bind fun r_19 =>
    if r_19 = l_13 then
      (x0__law_plain_right r_5).bind fun w_27 =>
      (m_is_up_down_1 r_5).bind fun r_28 =>
      if r_28 = w_27 then
        (m_turned (2 + r_1.1) (2 + r_2.1) r_5).bind fun r_31 =>
        (m_is_left_right r_31).bind fun r_32 =>
        some ((decide (r_32 = w_27)), r_4.2)
      else
      some (false, r_4.2)
    else
    some (false, r_4.2)
  else
  some (false, r_4.2)
theorem w__law_plain_right (hd : Hd) {V : (Bool × Hd)} (H : m__law_plain_right hd = some V) : F__law_plain_right [.cell 0] [hd.1] = .ok (eB V.1) false [V.2.1] := by
  unfold m__law_plain_right at H
  obtain ⟨r_1, Hr_1, H⟩ := Option.bind_eq_some_iff.mp H
  have Kr_1 := w__law_draw hd 5 Hr_1
  obtain ⟨r_2, Hr_2, H⟩ := Option.bind_eq_some_iff.mp H
  have Kr_2 := w__law_draw r_1.2 5 Hr_2
  have K_3 : powI (.int 10) (.int 9) = some (.int 1000000000) := (rfl)
  obtain ⟨r_4, Hr_4, H⟩ := Option.bind_eq_some_iff.mp H
  have Kr_4 := w__law_draw r_2.2 1000000000 Hr_4
  obtain ⟨r_5, Hr_5, H⟩ := Option.bind_eq_some_iff.mp H
  have Kr_5 : F_drawn_heights [(.int (2 + r_1.1)), (.int (2 + r_2.1)), (.int r_4.1)] ([r_4.2.1]) = .ok (.tup false (List.map (eU eI) r_5)) false ([r_4.2.1]) := w_drawn_heights (2 + r_1.1) (2 + r_2.1) r_4.1 ([r_4.2.1]) Hr_5
  obtain ⟨r_6, Hr_6, H⟩ := Option.bind_eq_some_iff.mp H
  have Kr_6 : F_is_heights [(.int (2 + r_1.1)), (.int (2 + r_2.1)), (.tup false (List.map (eU eI) r_5))] ([r_4.2.1]) = .ok (.bl r_6) false ([r_4.2.1]) := w_is_heights_1 (2 + r_1.1) (2 + r_2.1) r_5 ([r_4.2.1]) Hr_6
  rcases ite_inv H with ⟨C_7, H⟩ | ⟨C_7, H⟩
  · -- +
    replace C_7 := decide_eq_true C_7
    have K_8 := enumP_t (eU eI) 0 r_5
    obtain ⟨l_13, Hl_13, H⟩ := Option.bind_eq_some_iff.mp H
    have K_14 : it0__law_plain_right ⟨[.val (.cell 0), .val (eI (2 + r_1.1)), .val (eI (2 + r_2.1)), .val ((eU (eU eI)) r_5), .own ((eL (eP2 eI eI)) ([] : List (Int × Int))), .no, .no, .no, .no, .no], [r_4.2.1]⟩ = .ok ((enumT 0 r_5).map (eP2 eI (eU eI))) ⟨[.val (.cell 0), .val (eI (2 + r_1.1)), .val (eI (2 + r_2.1)), .val ((eU (eU eI)) r_5), .own ((eL (eP2 eI eI)) ([] : List (Int × Int))), .no, .no, .no, .no, .no], [r_4.2.1]⟩ := by (push_cast [it0__law_plain_right, Kr_1, Kr_2, K_3, Kr_4, Kr_5, Kr_6, C_7, K_8, Nat.reduceAdd, Nat.reduceSub, Nat.reduceLT, Nat.reduceLeDiff, Int.reduceLT, Int.reduceLE, Int.reduceNeg, Int.reducePow, Int.reduceToNat]; try with_reducible rfl)
    have Kl_13 := for_fold (I := I0__law_plain_right (.val (eI (2 + r_1.1))) (.val (eI (2 + r_2.1))) (.val ((eU (eU eI)) r_5)) [r_4.2.1]) (tg := (.tp [(.nm 5), (.nm 6)])) (b := bd0__law_plain_right) (E := (eP2 eI (eU eI))) (fun Q E X0 O HI H => l0__law_plain_right_bd (.val (eI (2 + r_1.1))) (.val (eI (2 + r_2.1))) (.val ((eU (eU eI)) r_5)) [r_4.2.1] Q X0 E HI H) (enumT 0 r_5) ([] : List (Int × Int)) ⟨[.val (.cell 0), .val (eI (2 + r_1.1)), .val (eI (2 + r_2.1)), .val ((eU (eU eI)) r_5), .own ((eL (eP2 eI eI)) ([] : List (Int × Int))), .no, .no, .no, .no, .no], [r_4.2.1]⟩ _ ⟨.no, .no, rfl⟩ Hl_13
    obtain ⟨E_17, Kl_13, ⟨D_15, D_16, rfl⟩⟩ := Kl_13
    have K_18 : lp0__law_plain_right ⟨[.val (.cell 0), .val (eI (2 + r_1.1)), .val (eI (2 + r_2.1)), .val ((eU (eU eI)) r_5), .own ((eL (eP2 eI eI)) ([] : List (Int × Int))), .no, .no, .no, .no, .no], [r_4.2.1]⟩ = .ok .nx ⟨[.val (.cell 0), .val (eI (2 + r_1.1)), .val (eI (2 + r_2.1)), .val ((eU (eU eI)) r_5), .own ((eL (eP2 eI eI)) l_13), D_15, D_16, .no, .no, .no], [r_4.2.1]⟩ := by
      show forS _ _ _ _ = _
      rw [forS_ap, K_14, bind_ok]; exact Kl_13
    try push_cast [DR.bind_ok] at K_18
    obtain ⟨r_19, Hr_19, H⟩ := Option.bind_eq_some_iff.mp H
    have Kr_19 : F_noughts [(.int (2 + r_1.1)), (.int (2 + r_2.1)), (.tup false (List.map (eU eI) r_5))] ([r_4.2.1]) = .ok (.lst (List.map (eP2 eI eI) r_19)) true ([r_4.2.1]) := w_noughts (2 + r_1.1) (2 + r_2.1) r_5 ([r_4.2.1]) Hr_19
    have K_20 : eqG true (.lst (List.map (eP2 eI eI) r_19)) (.lst (List.map (eP2 eI eI) l_13)) = some (.bl (true != decide (r_19 = l_13))) := eq_t true (eL (eP2 eI eI)) r_19 l_13 (by decide)
    rcases ite_inv H with ⟨C_21, H⟩ | ⟨C_21, H⟩
    · -- +
      replace C_21 := decide_eq_true C_21
      obtain ⟨w_27, Hw_27, H⟩ := Option.bind_eq_some_iff.mp H
      have Kw_27 := x0__law_plain_right_ok (.val (eI (2 + r_1.1))) (.val (eI (2 + r_2.1))) r_5 (.val ((eL (eP2 eI eI)) l_13)) D_15 D_16 [r_4.2.1] Hw_27
      try push_cast [DR.bind_ok] at Kw_27
      obtain ⟨r_28, Hr_28, H⟩ := Option.bind_eq_some_iff.mp H
      have Kr_28 : F_is_up_down [(.tup false (List.map (eU eI) r_5))] ([r_4.2.1]) = .ok (.bl r_28) false ([r_4.2.1]) := w_is_up_down_1 r_5 ([r_4.2.1]) Hr_28
      have K_29 := repr_eq true r_28 w_27
      rcases ite_inv H with ⟨C_30, H⟩ | ⟨C_30, H⟩
      · -- +
        replace C_30 := decide_eq_true C_30
        obtain ⟨r_31, Hr_31, H⟩ := Option.bind_eq_some_iff.mp H
        have Kr_31 : F_turned [(.int (2 + r_1.1)), (.int (2 + r_2.1)), (.tup false (List.map (eU eI) r_5))] ([r_4.2.1]) = .ok (.tup false (List.map (eU eI) r_31)) false ([r_4.2.1]) := w_turned (2 + r_1.1) (2 + r_2.1) r_5 ([r_4.2.1]) Hr_31
        obtain ⟨r_32, Hr_32, H⟩ := Option.bind_eq_some_iff.mp H
        have Kr_32 : F_is_left_right [(.tup false (List.map (eU eI) r_31))] ([r_4.2.1]) = .ok (.bl r_32) false ([r_4.2.1]) := w_is_left_right r_31 ([r_4.2.1]) Hr_32
        have K_33 := repr_eq false r_32 w_27
        obtain rfl := Option.some.inj H
        (push_cast [F__law_plain_right, b__law_plain_right, Kr_1, Kr_2, K_3, Kr_4, Kr_5, Kr_6, C_7, K_8, K_18, Kr_19, K_20, C_21, Kw_27, Kr_28, K_29, C_30, Kr_31, Kr_32, K_33, Nat.reduceAdd, Nat.reduceSub, Nat.reduceLT, Nat.reduceLeDiff, Int.reduceLT, Int.reduceLE, Int.reduceNeg, Int.reducePow, Int.reduceToNat]; try with_reducible rfl)
      · -- -
        replace C_30 := decide_eq_false C_30
        obtain rfl := Option.some.inj H
        (push_cast [F__law_plain_right, b__law_plain_right, Kr_1, Kr_2, K_3, Kr_4, Kr_5, Kr_6, C_7, K_8, K_18, Kr_19, K_20, C_21, Kw_27, Kr_28, K_29, C_30, Nat.reduceAdd, Nat.reduceSub, Nat.reduceLT, Nat.reduceLeDiff, Int.reduceLT, Int.reduceLE, Int.reduceNeg, Int.reducePow, Int.reduceToNat]; try with_reducible rfl)
    · -- -
      replace C_21 := decide_eq_false C_21
      obtain rfl := Option.some.inj H
      (push_cast [F__law_plain_right, b__law_plain_right, Kr_1, Kr_2, K_3, Kr_4, Kr_5, Kr_6, C_7, K_8, K_18, Kr_19, K_20, C_21, Nat.reduceAdd, Nat.reduceSub, Nat.reduceLT, Nat.reduceLeDiff, Int.reduceLT, Int.reduceLE, Int.reduceNeg, Int.reducePow, Int.reduceToNat]; try with_reducible rfl)
  · -- -
    replace C_7 := decide_eq_false C_7
    obtain rfl := Option.some.inj H
    (push_cast [F__law_plain_right, b__law_plain_right, Kr_1, Kr_2, K_3, Kr_4, Kr_5, Kr_6, C_7, Nat.reduceAdd, Nat.reduceSub, Nat.reduceLT, Nat.reduceLeDiff, Int.reduceLT, Int.reduceLE, Int.reduceNeg, Int.reducePow, Int.reduceToNat]; try with_reducible rfl)
def s0__law_walk  (hd : Hd) (found : List Int) (X0 : Int) : Option ((Hd × (List Int))) :=
  (idx found (-1)).bind fun v_3 =>
  (m__law_draw hd 3).bind fun r_4 =>
  (snoc found ((v_3 + r_4.1) - 1)).bind fun found_5 =>
  some (r_4.2, found_5)
def I0__law_walk (Z1 : Sl) (Q : Hd × (List Int)) (E : DS) : Prop := ∃ D3, E = ⟨[.val (.cell 0), Z1, .own ((eL eI) Q.2), D3], [Q.1.1]⟩
theorem l0__law_walk_bd (Z1 : Sl) (hd : Hd) (found : List Int) (X0 : Int) (E : DS) (HI : I0__law_walk Z1 (hd, found) E) {O : (Hd × (List Int))} (H : s0__law_walk  hd found X0 = some O) : ∃ E1, asgT (.nm 3) (eI X0) E.e = some E1 ∧ ∃ E2, (bd0__law_walk ⟨E1, E.t⟩ = .ok .nx E2 ∨ bd0__law_walk ⟨E1, E.t⟩ = .ok .ct E2) ∧ I0__law_walk Z1 O E2 := by
  obtain ⟨D3, rfl⟩ := HI
  refine ⟨[.val (.cell 0), Z1, .own ((eL eI) found), .val (eI X0)], rfl, ?_⟩
  unfold s0__law_walk at H
  obtain ⟨v_3, Hv_3, H⟩ := Option.bind_eq_some_iff.mp H
  have Kv_3 : ixG (.lst (List.map eI found)) (.int (-1)) = some (.int v_3) := by
    have := ixG_L eI found (-1)
    rw [Hv_3] at this
    exact this
  obtain ⟨r_4, Hr_4, H⟩ := Option.bind_eq_some_iff.mp H
  have Kr_4 := w__law_draw hd 3 Hr_4
  obtain ⟨found_5, Hfound_5, H⟩ := Option.bind_eq_some_iff.mp H
  have Kfound_5 : appU (.int ((v_3 + r_4.1) - 1)) (.lst (List.map eI found)) = some ((.lst (List.map eI found_5)), .non) := by
    have := appU_L eI found ((v_3 + r_4.1) - 1)
    rw [Hfound_5] at this
    exact this
  obtain rfl := Option.some.inj H
  refine ⟨⟨[.val (.cell 0), Z1, .own ((eL eI) found_5), .val (eI X0)], [r_4.2.1]⟩, .inl ?_, ⟨.val (eI X0), rfl⟩⟩
  (push_cast [bd0__law_walk, Kv_3, Kr_4, Kfound_5, Nat.reduceAdd, Nat.reduceSub, Nat.reduceLT, Nat.reduceLeDiff, Int.reduceLT, Int.reduceLE, Int.reduceNeg, Int.reducePow, Int.reduceToNat]; try with_reducible rfl)
def m__law_walk (hd : Hd) (many : Int) : Option ((List Int) × Hd) :=
  (m__law_draw hd 5).bind fun r_1 =>
  (rngO 0 (many - 1)).bind fun g_2 =>
  (foldO (fun Q X0 => s0__law_walk  Q.1 Q.2 X0) g_2 (r_1.2, [(r_1.1 - 2)])).bind fun l_6 =>
  some (l_6.2, l_6.1)
theorem w__law_walk (hd : Hd) (many : Int) {V : ((List Int) × Hd)} (H : m__law_walk hd many = some V) : F__law_walk [.cell 0, eI many] [hd.1] = .ok ((eL eI) V.1) false [V.2.1] := by
  unfold m__law_walk at H
  obtain ⟨r_1, Hr_1, H⟩ := Option.bind_eq_some_iff.mp H
  have Kr_1 := w__law_draw hd 5 Hr_1
  obtain ⟨g_2, Hg_2, H⟩ := Option.bind_eq_some_iff.mp H
  obtain ⟨l_6, Hl_6, H⟩ := Option.bind_eq_some_iff.mp H
  have K_7 : it0__law_walk ⟨[.val (.cell 0), .val (eI many), .own ((eL eI) ([(r_1.1 - 2)])), .no], [r_1.2.1]⟩ = .ok (g_2.map eI) ⟨[.val (.cell 0), .val (eI many), .own ((eL eI) ([(r_1.1 - 2)])), .no], [r_1.2.1]⟩ := by (push_cast [it0__law_walk, Kr_1, Hg_2, Nat.reduceAdd, Nat.reduceSub, Nat.reduceLT, Nat.reduceLeDiff, Int.reduceLT, Int.reduceLE, Int.reduceNeg, Int.reducePow, Int.reduceToNat]; try with_reducible rfl)
  have Kl_6 := for_fold (I := I0__law_walk (.val (eI many))) (tg := (.nm 3)) (b := bd0__law_walk) (E := eI) (fun Q E X0 O HI H => l0__law_walk_bd (.val (eI many)) Q.1 Q.2 X0 E HI H) g_2 (r_1.2, [(r_1.1 - 2)]) ⟨[.val (.cell 0), .val (eI many), .own ((eL eI) ([(r_1.1 - 2)])), .no], [r_1.2.1]⟩ _ ⟨.no, rfl⟩ Hl_6
  obtain ⟨E_9, Kl_6, ⟨D_8, rfl⟩⟩ := Kl_6
  have K_10 : lp0__law_walk ⟨[.val (.cell 0), .val (eI many), .own ((eL eI) ([(r_1.1 - 2)])), .no], [r_1.2.1]⟩ = .ok .nx ⟨[.val (.cell 0), .val (eI many), .own ((eL eI) l_6.2), D_8], [l_6.1.1]⟩ := by
    show forS _ _ _ _ = _
    rw [forS_ap, K_7, bind_ok]; exact Kl_6
  try push_cast [DR.bind_ok] at K_10
  obtain rfl := Option.some.inj H
  (push_cast [F__law_walk, b__law_walk, Kr_1, Hg_2, K_10, Nat.reduceAdd, Nat.reduceSub, Nat.reduceLT, Nat.reduceLeDiff, Int.reduceLT, Int.reduceLE, Int.reduceNeg, Int.reducePow, Int.reduceToNat]; try with_reducible rfl)
def b0__law_steep (wide : Int) (one : List Int) (across : List Int) (begin : Int) (lift : Int) (a : Int) (Y0 : Int) : Option Int :=
  (idx one a).bind fun v_7 =>
  (idx across Y0).bind fun v_8 =>
  some (min (max (v_7 + lift) v_8) (a - begin))
theorem c0__law_steep_ok (Z1 : Sl) (wide : Int) (one : List Int) (across : List Int) (begin : Int) (lift : Int) (Z7 : Sl) (a : Int) (T : DT) (XS : List Int) (HX : (range1I (nameE 2)) ⟨[.val (.cell 0), Z1, .val (eI wide), .val ((eL eI) one), .val ((eL eI) across), .val (eI begin), .val (eI lift), Z7, .val (eI a), .no], T⟩ = .ok (XS.map eI) ⟨[.val (.cell 0), Z1, .val (eI wide), .val ((eL eI) one), .val ((eL eI) across), .val (eI begin), .val (eI lift), Z7, .val (eI a), .no], T⟩) {Y : List Int} (H : compM (b0__law_steep wide one across begin lift a) XS = some Y) : cp0__law_steep ⟨[.val (.cell 0), Z1, .val (eI wide), .val ((eL eI) one), .val ((eL eI) across), .val (eI begin), .val (eI lift), Z7, .val (eI a), .no], T⟩ = .ok (.lst (Y.map eI), true) ⟨[.val (.cell 0), Z1, .val (eI wide), .val ((eL eI) one), .val ((eL eI) across), .val (eI begin), .val (eI lift), Z7, .val (eI a), .no], T⟩ := by
  refine (lcO_M (E := eI) (F := eI) (f := b0__law_steep wide one across begin lift a) HX H fun Y0 V H => ⟨[.val (.cell 0), Z1, .val (eI wide), .val ((eL eI) one), .val ((eL eI) across), .val (eI begin), .val (eI lift), Z7, .val (eI a), .val (eI Y0)], rfl, ?_⟩).trans (by rfl)
  unfold b0__law_steep at H
  obtain ⟨v_7, Hv_7, H⟩ := Option.bind_eq_some_iff.mp H
  have Kv_7 : ixG (.lst (List.map eI one)) (.int a) = some (.int v_7) := by
    have := ixG_L eI one a
    rw [Hv_7] at this
    exact this
  obtain ⟨v_8, Hv_8, H⟩ := Option.bind_eq_some_iff.mp H
  have Kv_8 : ixG (.lst (List.map eI across)) (.int Y0) = some (.int v_8) := by
    have := ixG_L eI across Y0
    rw [Hv_8] at this
    exact this
  obtain rfl := Option.some.inj H
  refine ⟨⟨[.val (.cell 0), Z1, .val (eI wide), .val ((eL eI) one), .val ((eL eI) across), .val (eI begin), .val (eI lift), Z7, .val (eI a), .val (eI Y0)], T⟩, ?_, rfl, rfl⟩
  (push_cast [Kv_7, Kv_8, Nat.reduceAdd, Nat.reduceSub, Nat.reduceLT, Nat.reduceLeDiff, Int.reduceLT, Int.reduceLE, Int.reduceNeg, Int.reducePow, Int.reduceToNat]; try with_reducible rfl)
def s0__law_steep (wide : Int) (one : List Int) (across : List Int) (begin : Int) (lift : Int) (found : List (List Int)) (X0 : Int) : Option (((List (List Int)))) :=
  (rngO 0 wide).bind fun g_6 =>
  (compM (b0__law_steep wide one across begin lift X0) g_6).bind fun y_9 =>
  (snoc found y_9).bind fun found_11 =>
  some found_11
def I0__law_steep (Z1 : Sl) (wide : Int) (one : List Int) (across : List Int) (begin : Int) (lift : Int) (T : DT) (Q : (List (List Int))) (E : DS) : Prop := ∃ D8, E = ⟨[.val (.cell 0), Z1, .val (eI wide), .val ((eL eI) one), .val ((eL eI) across), .val (eI begin), .val (eI lift), .own ((eL (eU eI)) Q), D8, .no], T⟩
theorem l0__law_steep_bd (Z1 : Sl) (wide : Int) (one : List Int) (across : List Int) (begin : Int) (lift : Int) (T : DT) (found : List (List Int)) (X0 : Int) (E : DS) (HI : I0__law_steep Z1 wide one across begin lift T found E) {O : ((List (List Int)))} (H : s0__law_steep wide one across begin lift found X0 = some O) : ∃ E1, asgT (.nm 8) (eI X0) E.e = some E1 ∧ ∃ E2, (bd0__law_steep ⟨E1, E.t⟩ = .ok .nx E2 ∨ bd0__law_steep ⟨E1, E.t⟩ = .ok .ct E2) ∧ I0__law_steep Z1 wide one across begin lift T O E2 := by
  obtain ⟨D8, rfl⟩ := HI
  refine ⟨[.val (.cell 0), Z1, .val (eI wide), .val ((eL eI) one), .val ((eL eI) across), .val (eI begin), .val (eI lift), .own ((eL (eU eI)) found), .val (eI X0), .no], rfl, ?_⟩
  unfold s0__law_steep at H
  obtain ⟨g_6, Hg_6, H⟩ := Option.bind_eq_some_iff.mp H
  obtain ⟨y_9, Hy_9, H⟩ := Option.bind_eq_some_iff.mp H
  have K_10 : (range1I (nameE 2)) ⟨[.val (.cell 0), Z1, .val (eI wide), .val ((eL eI) one), .val ((eL eI) across), .val (eI begin), .val (eI lift), .own ((eL (eU eI)) found), .val (eI X0), .no], T⟩ = .ok (g_6.map eI) ⟨[.val (.cell 0), Z1, .val (eI wide), .val ((eL eI) one), .val ((eL eI) across), .val (eI begin), .val (eI lift), .own ((eL (eU eI)) found), .val (eI X0), .no], T⟩ := by (push_cast [Hg_6, Nat.reduceAdd, Nat.reduceSub, Nat.reduceLT, Nat.reduceLeDiff, Int.reduceLT, Int.reduceLE, Int.reduceNeg, Int.reducePow, Int.reduceToNat]; try with_reducible rfl)
  have Ky_9 := c0__law_steep_ok Z1 wide one across begin lift (.own ((eL (eU eI)) found)) X0 T g_6 K_10 Hy_9
  try push_cast [DR.bind_ok] at Ky_9
  obtain ⟨found_11, Hfound_11, H⟩ := Option.bind_eq_some_iff.mp H
  have Kfound_11 : appU (.tup false (List.map eI y_9)) (.lst (List.map (eU eI) found)) = some ((.lst (List.map (eU eI) found_11)), .non) := by
    have := appU_L (eU eI) found y_9
    rw [Hfound_11] at this
    exact this
  obtain rfl := Option.some.inj H
  refine ⟨⟨[.val (.cell 0), Z1, .val (eI wide), .val ((eL eI) one), .val ((eL eI) across), .val (eI begin), .val (eI lift), .own ((eL (eU eI)) found_11), .val (eI X0), .no], T⟩, .inl ?_, ⟨.val (eI X0), rfl⟩⟩
  (push_cast [bd0__law_steep, Hg_6, Ky_9, Kfound_11, Nat.reduceAdd, Nat.reduceSub, Nat.reduceLT, Nat.reduceLeDiff, Int.reduceLT, Int.reduceLE, Int.reduceNeg, Int.reducePow, Int.reduceToNat]; try with_reducible rfl)
def m__law_steep (hd : Hd) (high : Int) (wide : Int) : Option ((List (List Int)) × Hd) :=
  (m__law_walk hd high).bind fun r_1 =>
  (m__law_walk r_1.2 wide).bind fun r_2 =>
  (m__law_draw r_2.2 high).bind fun r_3 =>
  (idx r_1.1 (-1)).bind fun v_4 =>
  (rngO 0 high).bind fun g_5 =>
  (foldO (fun Q X0 => s0__law_steep wide r_1.1 r_2.1 r_3.1 (max 0 (0 - v_4)) Q X0) g_5 ([] : List (List Int))).bind fun l_12 =>
  some (l_12, r_3.2)
theorem w__law_steep (hd : Hd) (high : Int) (wide : Int) {V : ((List (List Int)) × Hd)} (H : m__law_steep hd high wide = some V) : F__law_steep [.cell 0, eI high, eI wide] [hd.1] = .ok ((eU (eU eI)) V.1) false [V.2.1] := by
  unfold m__law_steep at H
  obtain ⟨r_1, Hr_1, H⟩ := Option.bind_eq_some_iff.mp H
  have Kr_1 : F__law_walk [.cell 0, (.int high)] [hd.1] = .ok (.lst (List.map eI r_1.1)) false [r_1.2.1] := w__law_walk hd high Hr_1
  obtain ⟨r_2, Hr_2, H⟩ := Option.bind_eq_some_iff.mp H
  have Kr_2 : F__law_walk [.cell 0, (.int wide)] [r_1.2.1] = .ok (.lst (List.map eI r_2.1)) false [r_2.2.1] := w__law_walk r_1.2 wide Hr_2
  obtain ⟨r_3, Hr_3, H⟩ := Option.bind_eq_some_iff.mp H
  have Kr_3 := w__law_draw r_2.2 high Hr_3
  obtain ⟨v_4, Hv_4, H⟩ := Option.bind_eq_some_iff.mp H
  have Kv_4 : ixG (.lst (List.map eI r_1.1)) (.int (-1)) = some (.int v_4) := by
    have := ixG_L eI r_1.1 (-1)
    rw [Hv_4] at this
    exact this
  obtain ⟨g_5, Hg_5, H⟩ := Option.bind_eq_some_iff.mp H
  obtain ⟨l_12, Hl_12, H⟩ := Option.bind_eq_some_iff.mp H
  have K_13 : it0__law_steep ⟨[.val (.cell 0), .val (eI high), .val (eI wide), .val ((eL eI) r_1.1), .val ((eL eI) r_2.1), .val (eI r_3.1), .val (eI (max 0 (0 - v_4))), .own ((eL (eU eI)) ([] : List (List Int))), .no, .no], [r_3.2.1]⟩ = .ok (g_5.map eI) ⟨[.val (.cell 0), .val (eI high), .val (eI wide), .val ((eL eI) r_1.1), .val ((eL eI) r_2.1), .val (eI r_3.1), .val (eI (max 0 (0 - v_4))), .own ((eL (eU eI)) ([] : List (List Int))), .no, .no], [r_3.2.1]⟩ := by (push_cast [it0__law_steep, Kr_1, Kr_2, Kr_3, Kv_4, Hg_5, Nat.reduceAdd, Nat.reduceSub, Nat.reduceLT, Nat.reduceLeDiff, Int.reduceLT, Int.reduceLE, Int.reduceNeg, Int.reducePow, Int.reduceToNat]; try with_reducible rfl)
  have Kl_12 := for_fold (I := I0__law_steep (.val (eI high)) wide r_1.1 r_2.1 r_3.1 (max 0 (0 - v_4)) [r_3.2.1]) (tg := (.nm 8)) (b := bd0__law_steep) (E := eI) (fun Q E X0 O HI H => l0__law_steep_bd (.val (eI high)) wide r_1.1 r_2.1 r_3.1 (max 0 (0 - v_4)) [r_3.2.1] Q X0 E HI H) g_5 ([] : List (List Int)) ⟨[.val (.cell 0), .val (eI high), .val (eI wide), .val ((eL eI) r_1.1), .val ((eL eI) r_2.1), .val (eI r_3.1), .val (eI (max 0 (0 - v_4))), .own ((eL (eU eI)) ([] : List (List Int))), .no, .no], [r_3.2.1]⟩ _ ⟨.no, rfl⟩ Hl_12
  obtain ⟨E_15, Kl_12, ⟨D_14, rfl⟩⟩ := Kl_12
  have K_16 : lp0__law_steep ⟨[.val (.cell 0), .val (eI high), .val (eI wide), .val ((eL eI) r_1.1), .val ((eL eI) r_2.1), .val (eI r_3.1), .val (eI (max 0 (0 - v_4))), .own ((eL (eU eI)) ([] : List (List Int))), .no, .no], [r_3.2.1]⟩ = .ok .nx ⟨[.val (.cell 0), .val (eI high), .val (eI wide), .val ((eL eI) r_1.1), .val ((eL eI) r_2.1), .val (eI r_3.1), .val (eI (max 0 (0 - v_4))), .own ((eL (eU eI)) l_12), D_14, .no], [r_3.2.1]⟩ := by
    show forS _ _ _ _ = _
    rw [forS_ap, K_13, bind_ok]; exact Kl_12
  try push_cast [DR.bind_ok] at K_16
  obtain rfl := Option.some.inj H
  (push_cast [F__law_steep, b__law_steep, Kr_1, Kr_2, Kr_3, Kv_4, Hg_5, K_16, Nat.reduceAdd, Nat.reduceSub, Nat.reduceLT, Nat.reduceLeDiff, Int.reduceLT, Int.reduceLE, Int.reduceNeg, Int.reducePow, Int.reduceToNat]; try with_reducible rfl)
def j0_line_of_1 (heights : List (List Int)) (ahead : List ((Int × Int) × (Option (Int × Int)))) (waiting : List (Int × Int)) (a : Int) : Option ((List ((Int × Int) × (Option (Int × Int)))) × (List (Int × Int))) :=
  (idx heights a).bind fun v_3 =>
  (idx v_3 0).bind fun v_4 =>
  if v_4 = 0 then
    (dputO ahead (a, 0) none).bind fun ahead_6 =>
    (snoc waiting (a, 0)).bind fun waiting_7 =>
    some (ahead_6, waiting_7)
  else
  some (ahead, waiting)
theorem j0_line_of_1_ok (heights : List (List Int)) (Z1 : Sl) (Z2 : Sl) (ahead : List ((Int × Int) × (Option (Int × Int)))) (waiting : List (Int × Int)) (Z5 : Sl) (a : Int) (T : DT) {W : (List ((Int × Int) × (Option (Int × Int)))) × (List (Int × Int))} (H : j0_line_of_1 heights ahead waiting a = some W) : jf0_line_of ⟨[.val ((eU (eU eI)) heights), Z1, Z2, .own ((eD2 (eO (eP2 eI eI))) ahead), .own ((eL (eP2 eI eI)) waiting), Z5, .val (eI a), .no, .no, .no], T⟩ = .ok .nx ⟨[.val ((eU (eU eI)) heights), Z1, Z2, .own ((eD2 (eO (eP2 eI eI))) W.1), .own ((eL (eP2 eI eI)) W.2), Z5, .val (eI a), .no, .no, .no], T⟩ := by
  unfold j0_line_of_1 at H
  obtain ⟨v_3, Hv_3, H⟩ := Option.bind_eq_some_iff.mp H
  have Kv_3 : ixG (.tup false (List.map (eU eI) heights)) (.int a) = some (.tup false (List.map eI v_3)) := by
    have := ixG_U false (eU eI) heights a
    rw [Hv_3] at this
    exact this
  obtain ⟨v_4, Hv_4, H⟩ := Option.bind_eq_some_iff.mp H
  have Kv_4 : ixG (.tup false (List.map eI v_3)) (.int 0) = some (.int v_4) := by
    have := ixG_U false eI v_3 0
    rw [Hv_4] at this
    exact this
  rcases ite_inv H with ⟨C_5, H⟩ | ⟨C_5, H⟩
  · -- +
    replace C_5 := decide_eq_true C_5
    obtain ⟨ahead_6, Hahead_6, H⟩ := Option.bind_eq_some_iff.mp H
    have Kahead_6 : setU (.tup false [(.int a), (.int 0)]) .non ((eD2 (eO (eP2 eI eI))) ahead) = some (((eD2 (eO (eP2 eI eI))) ahead_6), .non) := by
      have := setD2 (eO (eP2 eI eI)) ahead a 0 none
      rw [show dputO ahead _ _ = _ from Hahead_6] at this
      exact this
    obtain ⟨waiting_7, Hwaiting_7, H⟩ := Option.bind_eq_some_iff.mp H
    have Kwaiting_7 : appU (.tup false [(.int a), (.int 0)]) (.lst (List.map (eP2 eI eI) waiting)) = some ((.lst (List.map (eP2 eI eI) waiting_7)), .non) := by
      have := appU_L (eP2 eI eI) waiting (a, 0)
      rw [Hwaiting_7] at this
      exact this
    obtain rfl := Option.some.inj H
    (push_cast [jf0_line_of, Kv_3, Kv_4, C_5, Kahead_6, Kwaiting_7, Nat.reduceAdd, Nat.reduceSub, Nat.reduceLT, Nat.reduceLeDiff, Int.reduceLT, Int.reduceLE, Int.reduceNeg, Int.reducePow, Int.reduceToNat]; try with_reducible rfl)
  · -- -
    replace C_5 := decide_eq_false C_5
    obtain rfl := Option.some.inj H
    (push_cast [jf0_line_of, Kv_3, Kv_4, C_5, Nat.reduceAdd, Nat.reduceSub, Nat.reduceLT, Nat.reduceLeDiff, Int.reduceLT, Int.reduceLE, Int.reduceNeg, Int.reducePow, Int.reduceToNat]; try with_reducible rfl)
def s0_line_of_1 (heights : List (List Int)) (ahead : List ((Int × Int) × (Option (Int × Int)))) (waiting : List (Int × Int)) (X0 : Int) : Option (((List ((Int × Int) × (Option (Int × Int)))) × (List (Int × Int)))) :=
  (j0_line_of_1 heights ahead waiting X0).bind fun j_8 =>
  some (j_8.1, j_8.2)
def I0_line_of_1 (heights : List (List Int)) (Z1 : Sl) (Z2 : Sl) (Z5 : Sl) (T : DT) (Q : (List ((Int × Int) × (Option (Int × Int)))) × (List (Int × Int))) (E : DS) : Prop := ∃ D6, E = ⟨[.val ((eU (eU eI)) heights), Z1, Z2, .own ((eD2 (eO (eP2 eI eI))) Q.1), .own ((eL (eP2 eI eI)) Q.2), Z5, D6, .no, .no, .no], T⟩
theorem l0_line_of_1_bd (heights : List (List Int)) (Z1 : Sl) (Z2 : Sl) (Z5 : Sl) (T : DT) (ahead : List ((Int × Int) × (Option (Int × Int)))) (waiting : List (Int × Int)) (X0 : Int) (E : DS) (HI : I0_line_of_1 heights Z1 Z2 Z5 T (ahead, waiting) E) {O : ((List ((Int × Int) × (Option (Int × Int)))) × (List (Int × Int)))} (H : s0_line_of_1 heights ahead waiting X0 = some O) : ∃ E1, asgT (.nm 6) (eI X0) E.e = some E1 ∧ ∃ E2, (bd0_line_of ⟨E1, E.t⟩ = .ok .nx E2 ∨ bd0_line_of ⟨E1, E.t⟩ = .ok .ct E2) ∧ I0_line_of_1 heights Z1 Z2 Z5 T O E2 := by
  obtain ⟨D6, rfl⟩ := HI
  refine ⟨[.val ((eU (eU eI)) heights), Z1, Z2, .own ((eD2 (eO (eP2 eI eI))) ahead), .own ((eL (eP2 eI eI)) waiting), Z5, .val (eI X0), .no, .no, .no], rfl, ?_⟩
  unfold s0_line_of_1 at H
  obtain ⟨j_8, Hj_8, H⟩ := Option.bind_eq_some_iff.mp H
  have Kj_8 := j0_line_of_1_ok heights Z1 Z2 ahead waiting Z5 X0 T Hj_8
  try push_cast [DR.bind_ok] at Kj_8
  obtain rfl := Option.some.inj H
  refine ⟨⟨[.val ((eU (eU eI)) heights), Z1, Z2, .own ((eD2 (eO (eP2 eI eI))) j_8.1), .own ((eL (eP2 eI eI)) j_8.2), Z5, .val (eI X0), .no, .no, .no], T⟩, .inl ?_, ⟨.val (eI X0), rfl⟩⟩
  (push_cast [bd0_line_of, Kj_8, Nat.reduceAdd, Nat.reduceSub, Nat.reduceLT, Nat.reduceLeDiff, Int.reduceLT, Int.reduceLE, Int.reduceNeg, Int.reducePow, Int.reduceToNat]; try with_reducible rfl)
def s2_line_of_1 (ahead : List ((Int × Int) × (Option (Int × Int)))) (here : Option (Int × Int)) (found : List (Int × Int)) : Option (Fw ((Option (Int × Int)) × (List (Int × Int))) (Option (List (Int × Int)))) :=
  optM here
    (none)
    (fun here_17 =>
      (snoc found here_17).bind fun found_18 =>
      (dlook ahead here_17).bind fun v_19 =>
      some (.nx (v_19, found_18)))
def I2_line_of_1 (Z0 : Sl) (Z1 : Sl) (Z2 : Sl) (ahead : List ((Int × Int) × (Option (Int × Int)))) (Z4 : Sl) (Z5 : Sl) (Z6 : Sl) (Z9 : Sl) (T : DT) (Q : (Option (Int × Int)) × (List (Int × Int))) (E : DS) : Prop := E = ⟨[Z0, Z1, Z2, .own ((eD2 (eO (eP2 eI eI))) ahead), Z4, Z5, Z6, .val ((eO (eP2 eI eI)) Q.1), .own ((eL (eP2 eI eI)) Q.2), Z9], T⟩
theorem l2_line_of_1_bd (Z0 : Sl) (Z1 : Sl) (Z2 : Sl) (ahead : List ((Int × Int) × (Option (Int × Int)))) (Z4 : Sl) (Z5 : Sl) (Z6 : Sl) (Z9 : Sl) (T : DT) (here : Option (Int × Int)) (found : List (Int × Int)) (E : DS) (HI : I2_line_of_1 Z0 Z1 Z2 ahead Z4 Z5 Z6 Z9 T (here, found) E) {O : Fw ((Option (Int × Int)) × (List (Int × Int))) (Option (List (Int × Int)))} (H : s2_line_of_1 ahead here found = some O) : BodyOk bd1_line_of E (I2_line_of_1 Z0 Z1 Z2 ahead Z4 Z5 Z6 Z9 T) (fun V : (Option (List (Int × Int))) => ((eO (eL (eP2 eI eI))) V, false)) (fun _ E => E.t = T) O := by
  subst HI
  unfold s2_line_of_1 at H
  rcases optM_inv H with ⟨Hhere_17, H⟩ | ⟨here_17, Hhere_17, H⟩
  · -- none
    cases H
  · -- some
    obtain ⟨found_18, Hfound_18, H⟩ := Option.bind_eq_some_iff.mp H
    have Kfound_18 : appU (.tup false [(.int here_17.1), (.int here_17.2)]) (.lst (List.map (eP2 eI eI) found)) = some ((.lst (List.map (eP2 eI eI) found_18)), .non) := by
      have := appU_L (eP2 eI eI) found here_17
      rw [Hfound_18] at this
      exact this
    obtain ⟨v_19, Hv_19, H⟩ := Option.bind_eq_some_iff.mp H
    have Kv_19 : ixG ((eD2 (eO (eP2 eI eI))) ahead) (.tup false [(.int here_17.1), (.int here_17.2)]) = some ((eO (eP2 eI eI)) v_19) := by
      have := ixD2 (eO (eP2 eI eI)) ahead false here_17.1 here_17.2
      rw [show dlook ahead _ = _ from Hv_19] at this
      exact this
    obtain rfl := Option.some.inj H
    refine ⟨⟨[Z0, Z1, Z2, .own ((eD2 (eO (eP2 eI eI))) ahead), Z4, Z5, Z6, .val ((eO (eP2 eI eI)) v_19), .own ((eL (eP2 eI eI)) found_18), Z9], T⟩, .inl ?_, rfl⟩
    (push_cast [bd1_line_of, Hhere_17, Kfound_18, Kv_19, Nat.reduceAdd, Nat.reduceSub, Nat.reduceLT, Nat.reduceLeDiff, Int.reduceLT, Int.reduceLE, Int.reduceNeg, Int.reducePow, Int.reduceToNat]; try with_reducible rfl)
theorem l2_line_of_1_ts (Z0 : Sl) (Z1 : Sl) (Z2 : Sl) (ahead : List ((Int × Int) × (Option (Int × Int)))) (Z4 : Sl) (Z5 : Sl) (Z6 : Sl) (Z9 : Sl) (T : DT) (here : Option (Int × Int)) (found : List (Int × Int)) (E : DS) (HI : I2_line_of_1 Z0 Z1 Z2 ahead Z4 Z5 Z6 Z9 T (here, found) E) : ts0_line_of E = .ok here.isSome E := by
  subst HI
  have K_16 := isO_t (eP2 eI eI) here
  (push_cast [ts0_line_of, K_16, t_and, t_or, e_and, e_or, i_andT, i_orT, i_andE, i_orE, i_int, k_if, k_ch3, Nat.reduceAdd, Nat.reduceSub, Nat.reduceLT, Nat.reduceLeDiff, Int.reduceLT, Int.reduceLE, Int.reduceNeg, Int.reducePow, Int.reduceToNat]; try with_reducible rfl)
def c2_line_of_1 (ahead : List ((Int × Int) × (Option (Int × Int)))) (here : Option (Int × Int)) (found : List (Int × Int)) : Option Bool := some here.isSome
def x0_line_of_1 (heights : List (List Int)) (ahead : List ((Int × Int) × (Option (Int × Int)))) (cell : Int × Int) : Option Bool :=
  if (!((dlook ahead cell).isSome)) = true then
    (idx heights cell.1).bind fun v_29 =>
    (idx v_29 cell.2).bind fun v_30 =>
    some (decide (v_30 = 0))
  else
  some false
theorem x0_line_of_1_ok (heights : List (List Int)) (Z1 : Sl) (Z2 : Sl) (ahead : List ((Int × Int) × (Option (Int × Int)))) (Z4 : Sl) (Z5 : Sl) (Z6 : Sl) (Z7 : Sl) (Z8 : Sl) (cell : Int × Int) (T : DT) {W : Bool} (H : x0_line_of_1 heights ahead cell = some W) : te0_line_of ⟨[.val ((eU (eU eI)) heights), Z1, Z2, .own ((eD2 (eO (eP2 eI eI))) ahead), Z4, Z5, Z6, Z7, Z8, .val ((eP2 eI eI) cell)], T⟩ = .ok W ⟨[.val ((eU (eU eI)) heights), Z1, Z2, .own ((eD2 (eO (eP2 eI eI))) ahead), Z4, Z5, Z6, Z7, Z8, .val ((eP2 eI eI) cell)], T⟩ := by
  unfold x0_line_of_1 at H
  have K_27 : inG true (.tup false [(.int cell.1), (.int cell.2)]) ((eD2 (eO (eP2 eI eI))) ahead) = some (.bl (true != (dlook ahead cell).isSome)) := inD2 true (eO (eP2 eI eI)) ahead false cell.1 cell.2
  rcases iteB_inv H with ⟨C_28, H⟩ | ⟨C_28, H⟩
  · -- +
    obtain ⟨v_29, Hv_29, H⟩ := Option.bind_eq_some_iff.mp H
    have Kv_29 : ixG (.tup false (List.map (eU eI) heights)) (.int cell.1) = some (.tup false (List.map eI v_29)) := by
      have := ixG_U false (eU eI) heights cell.1
      rw [Hv_29] at this
      exact this
    obtain ⟨v_30, Hv_30, H⟩ := Option.bind_eq_some_iff.mp H
    have Kv_30 : ixG (.tup false (List.map eI v_29)) (.int cell.2) = some (.int v_30) := by
      have := ixG_U false eI v_29 cell.2
      rw [Hv_30] at this
      exact this
    obtain rfl := Option.some.inj H
    (push_cast [te0_line_of, K_27, C_28, Kv_29, Kv_30, Nat.reduceAdd, Nat.reduceSub, Nat.reduceLT, Nat.reduceLeDiff, Int.reduceLT, Int.reduceLE, Int.reduceNeg, Int.reducePow, Int.reduceToNat]; try with_reducible rfl)
  · -- -
    obtain rfl := Option.some.inj H
    (push_cast [te0_line_of, K_27, C_28, Nat.reduceAdd, Nat.reduceSub, Nat.reduceLT, Nat.reduceLeDiff, Int.reduceLT, Int.reduceLE, Int.reduceNeg, Int.reducePow, Int.reduceToNat]; try with_reducible rfl)
def j1_line_of_1 (heights : List (List Int)) (ahead : List ((Int × Int) × (Option (Int × Int)))) (waiting : List (Int × Int)) (here : Int × Int) (cell : Int × Int) : Option ((List ((Int × Int) × (Option (Int × Int)))) × (List (Int × Int))) :=
  (x0_line_of_1 heights ahead cell).bind fun w_31 =>
  if w_31 = true then
    (dputO ahead cell (some here)).bind fun ahead_33 =>
    (snoc waiting cell).bind fun waiting_34 =>
    some (ahead_33, waiting_34)
  else
  some (ahead, waiting)
theorem j1_line_of_1_ok (heights : List (List Int)) (Z1 : Sl) (Z2 : Sl) (ahead : List ((Int × Int) × (Option (Int × Int)))) (waiting : List (Int × Int)) (Z5 : Sl) (Z6 : Sl) (here : Int × Int) (Z8 : Sl) (cell : Int × Int) (T : DT) {W : (List ((Int × Int) × (Option (Int × Int)))) × (List (Int × Int))} (H : j1_line_of_1 heights ahead waiting here cell = some W) : jf1_line_of ⟨[.val ((eU (eU eI)) heights), Z1, Z2, .own ((eD2 (eO (eP2 eI eI))) ahead), .own ((eL (eP2 eI eI)) waiting), Z5, Z6, .val ((eP2 eI eI) here), Z8, .val ((eP2 eI eI) cell)], T⟩ = .ok .nx ⟨[.val ((eU (eU eI)) heights), Z1, Z2, .own ((eD2 (eO (eP2 eI eI))) W.1), .own ((eL (eP2 eI eI)) W.2), Z5, Z6, .val ((eP2 eI eI) here), Z8, .val ((eP2 eI eI) cell)], T⟩ := by
  unfold j1_line_of_1 at H
  obtain ⟨w_31, Hw_31, H⟩ := Option.bind_eq_some_iff.mp H
  have Kw_31 := x0_line_of_1_ok heights Z1 Z2 ahead (.own ((eL (eP2 eI eI)) waiting)) Z5 Z6 (.val ((eP2 eI eI) here)) Z8 cell T Hw_31
  try push_cast [DR.bind_ok] at Kw_31
  rcases iteB_inv H with ⟨C_32, H⟩ | ⟨C_32, H⟩
  · -- +
    obtain ⟨ahead_33, Hahead_33, H⟩ := Option.bind_eq_some_iff.mp H
    have Kahead_33 : setU (.tup false [(.int cell.1), (.int cell.2)]) (.tup false [(.int here.1), (.int here.2)]) ((eD2 (eO (eP2 eI eI))) ahead) = some (((eD2 (eO (eP2 eI eI))) ahead_33), .non) := by
      have := setD2 (eO (eP2 eI eI)) ahead cell.1 cell.2 (some here)
      rw [show dputO ahead _ _ = _ from Hahead_33] at this
      exact this
    obtain ⟨waiting_34, Hwaiting_34, H⟩ := Option.bind_eq_some_iff.mp H
    have Kwaiting_34 : appU (.tup false [(.int cell.1), (.int cell.2)]) (.lst (List.map (eP2 eI eI) waiting)) = some ((.lst (List.map (eP2 eI eI) waiting_34)), .non) := by
      have := appU_L (eP2 eI eI) waiting cell
      rw [Hwaiting_34] at this
      exact this
    obtain rfl := Option.some.inj H
    (push_cast [jf1_line_of, Kw_31, C_32, Kahead_33, Kwaiting_34, Nat.reduceAdd, Nat.reduceSub, Nat.reduceLT, Nat.reduceLeDiff, Int.reduceLT, Int.reduceLE, Int.reduceNeg, Int.reducePow, Int.reduceToNat]; try with_reducible rfl)
  · -- -
    obtain rfl := Option.some.inj H
    (push_cast [jf1_line_of, Kw_31, C_32, Nat.reduceAdd, Nat.reduceSub, Nat.reduceLT, Nat.reduceLeDiff, Int.reduceLT, Int.reduceLE, Int.reduceNeg, Int.reducePow, Int.reduceToNat]; try with_reducible rfl)
def s3_line_of_1 (heights : List (List Int)) (here : Int × Int) (ahead : List ((Int × Int) × (Option (Int × Int)))) (waiting : List (Int × Int)) (X3 : Int × Int) : Option (((List ((Int × Int) × (Option (Int × Int)))) × (List (Int × Int)))) :=
  (j1_line_of_1 heights ahead waiting here X3).bind fun j_35 =>
  some (j_35.1, j_35.2)
def I3_line_of_1 (heights : List (List Int)) (Z1 : Sl) (Z2 : Sl) (Z5 : Sl) (Z6 : Sl) (here : Int × Int) (Z8 : Sl) (T : DT) (Q : (List ((Int × Int) × (Option (Int × Int)))) × (List (Int × Int))) (E : DS) : Prop := ∃ D9, E = ⟨[.val ((eU (eU eI)) heights), Z1, Z2, .own ((eD2 (eO (eP2 eI eI))) Q.1), .own ((eL (eP2 eI eI)) Q.2), Z5, Z6, .val ((eP2 eI eI) here), Z8, D9], T⟩
theorem l3_line_of_1_bd (heights : List (List Int)) (Z1 : Sl) (Z2 : Sl) (Z5 : Sl) (Z6 : Sl) (here : Int × Int) (Z8 : Sl) (T : DT) (ahead : List ((Int × Int) × (Option (Int × Int)))) (waiting : List (Int × Int)) (X3 : Int × Int) (E : DS) (HI : I3_line_of_1 heights Z1 Z2 Z5 Z6 here Z8 T (ahead, waiting) E) {O : ((List ((Int × Int) × (Option (Int × Int)))) × (List (Int × Int)))} (H : s3_line_of_1 heights here ahead waiting X3 = some O) : ∃ E1, asgT (.nm 9) ((eP2 eI eI) X3) E.e = some E1 ∧ ∃ E2, (bd2_line_of ⟨E1, E.t⟩ = .ok .nx E2 ∨ bd2_line_of ⟨E1, E.t⟩ = .ok .ct E2) ∧ I3_line_of_1 heights Z1 Z2 Z5 Z6 here Z8 T O E2 := by
  obtain ⟨D9, rfl⟩ := HI
  refine ⟨[.val ((eU (eU eI)) heights), Z1, Z2, .own ((eD2 (eO (eP2 eI eI))) ahead), .own ((eL (eP2 eI eI)) waiting), Z5, Z6, .val ((eP2 eI eI) here), Z8, .val ((eP2 eI eI) X3)], rfl, ?_⟩
  unfold s3_line_of_1 at H
  obtain ⟨j_35, Hj_35, H⟩ := Option.bind_eq_some_iff.mp H
  have Kj_35 := j1_line_of_1_ok heights Z1 Z2 ahead waiting Z5 Z6 here Z8 X3 T Hj_35
  try push_cast [DR.bind_ok] at Kj_35
  obtain rfl := Option.some.inj H
  refine ⟨⟨[.val ((eU (eU eI)) heights), Z1, Z2, .own ((eD2 (eO (eP2 eI eI))) j_35.1), .own ((eL (eP2 eI eI)) j_35.2), Z5, Z6, .val ((eP2 eI eI) here), Z8, .val ((eP2 eI eI) X3)], T⟩, .inl ?_, ⟨.val ((eP2 eI eI) X3), rfl⟩⟩
  (push_cast [bd2_line_of, Kj_35, Nat.reduceAdd, Nat.reduceSub, Nat.reduceLT, Nat.reduceLeDiff, Int.reduceLT, Int.reduceLE, Int.reduceNeg, Int.reducePow, Int.reduceToNat]; try with_reducible rfl)
def s1_line_of_1 (heights : List (List Int)) (high : Int) (wide : Int) (ahead : List ((Int × Int) × (Option (Int × Int)))) (waiting : List (Int × Int)) (at_ : Int) : Option (Fw ((List ((Int × Int) × (Option (Int × Int)))) × (List (Int × Int)) × Int) (Option (List (Int × Int)))) :=
  (idx waiting at_).bind fun v_14 =>
  if v_14.2 = (wide - 1) then
    (whileO (fun Q => c2_line_of_1 ahead Q.1 Q.2) (fun Q => s2_line_of_1 ahead Q.1 Q.2) fuel ((some v_14), ([] : List (Int × Int)))).bind fun l_20 =>
    sumM l_20 (fun s_22 =>
      some (.rt (some s_22.2.reverse)))
      (fun r_23 => none)
  else
  (m_around high wide v_14).bind fun r_26 =>
  (foldO (fun Q X3 => s3_line_of_1 heights v_14 Q.1 Q.2 X3) r_26 (ahead, waiting)).bind fun l_36 =>
  some (.nx (l_36.1, l_36.2, (at_ + 1)))
def I1_line_of_1 (heights : List (List Int)) (high : Int) (wide : Int) (Z6 : Sl) (T : DT) (Q : (List ((Int × Int) × (Option (Int × Int)))) × (List (Int × Int)) × Int) (E : DS) : Prop := ∃ D7 D8 D9, E = ⟨[.val ((eU (eU eI)) heights), .val (eI high), .val (eI wide), .own ((eD2 (eO (eP2 eI eI))) Q.1), .own ((eL (eP2 eI eI)) Q.2.1), .val (eI Q.2.2), Z6, D7, D8, D9], T⟩
theorem l1_line_of_1_bd (heights : List (List Int)) (high : Int) (wide : Int) (Z6 : Sl) (T : DT) (ahead : List ((Int × Int) × (Option (Int × Int)))) (waiting : List (Int × Int)) (at_ : Int) (E : DS) (HI : I1_line_of_1 heights high wide Z6 T (ahead, waiting, at_) E) {O : Fw ((List ((Int × Int) × (Option (Int × Int)))) × (List (Int × Int)) × Int) (Option (List (Int × Int)))} (H : s1_line_of_1 heights high wide ahead waiting at_ = some O) : BodyOk bd3_line_of E (I1_line_of_1 heights high wide Z6 T) (fun V : (Option (List (Int × Int))) => ((eO (eL (eP2 eI eI))) V, false)) (fun _ E => E.t = T) O := by
  obtain ⟨D7, D8, D9, rfl⟩ := HI
  unfold s1_line_of_1 at H
  obtain ⟨v_14, Hv_14, H⟩ := Option.bind_eq_some_iff.mp H
  have Kv_14 : ixG (.lst (List.map (eP2 eI eI) waiting)) (.int at_) = some (.tup false [(.int v_14.1), (.int v_14.2)]) := by
    have := ixG_L (eP2 eI eI) waiting at_
    rw [Hv_14] at this
    exact this
  rcases ite_inv H with ⟨C_15, H⟩ | ⟨C_15, H⟩
  · -- +
    replace C_15 := decide_eq_true C_15
    obtain ⟨l_20, Hl_20, H⟩ := Option.bind_eq_some_iff.mp H
    have Kl_20 := while_sim (I := I2_line_of_1 (.val ((eU (eU eI)) heights)) (.val (eI high)) (.val (eI wide)) ahead (.own ((eL (eP2 eI eI)) waiting)) (.val (eI (at_ + 1))) Z6 D9 T) (R := (fun V : (Option (List (Int × Int))) => ((eO (eL (eP2 eI eI))) V, false))) (J := (fun _ E => E.t = T)) (tt := ts0_line_of) (b := bd1_line_of) (fun Q E W HI H => by cases H; exact l2_line_of_1_ts (.val ((eU (eU eI)) heights)) (.val (eI high)) (.val (eI wide)) ahead (.own ((eL (eP2 eI eI)) waiting)) (.val (eI (at_ + 1))) Z6 D9 T Q.1 Q.2 E HI) (fun Q E O HI _ H => l2_line_of_1_bd (.val ((eU (eU eI)) heights)) (.val (eI high)) (.val (eI wide)) ahead (.own ((eL (eP2 eI eI)) waiting)) (.val (eI (at_ + 1))) Z6 D9 T Q.1 Q.2 E HI H) fuel ((some v_14), ([] : List (Int × Int))) ⟨[.val ((eU (eU eI)) heights), .val (eI high), .val (eI wide), .own ((eD2 (eO (eP2 eI eI))) ahead), .own ((eL (eP2 eI eI)) waiting), .val (eI (at_ + 1)), Z6, .val ((eP2 eI eI) v_14), .own ((eL (eP2 eI eI)) ([] : List (Int × Int))), D9], T⟩ _ rfl Hl_20
    rcases sumM_inv H with ⟨s_22, HO, H⟩ | ⟨r_23, HO, H⟩
    · subst HO
      obtain ⟨E_21, Kl_20, rfl⟩ := Kl_20
      have K_24 : wl0_line_of ⟨[.val ((eU (eU eI)) heights), .val (eI high), .val (eI wide), .own ((eD2 (eO (eP2 eI eI))) ahead), .own ((eL (eP2 eI eI)) waiting), .val (eI (at_ + 1)), Z6, .val ((eP2 eI eI) v_14), .own ((eL (eP2 eI eI)) ([] : List (Int × Int))), D9], T⟩ = .ok .nx ⟨[.val ((eU (eU eI)) heights), .val (eI high), .val (eI wide), .own ((eD2 (eO (eP2 eI eI))) ahead), .own ((eL (eP2 eI eI)) waiting), .val (eI (at_ + 1)), Z6, .val ((eO (eP2 eI eI)) s_22.1), .own ((eL (eP2 eI eI)) s_22.2), D9], T⟩ := by
        exact Kl_20
      try push_cast [DR.bind_ok] at K_24
      obtain rfl := Option.some.inj H
      refine ⟨⟨[.val ((eU (eU eI)) heights), .val (eI high), .val (eI wide), .own ((eD2 (eO (eP2 eI eI))) ahead), .own ((eL (eP2 eI eI)) waiting), .val (eI (at_ + 1)), Z6, .val ((eO (eP2 eI eI)) s_22.1), .own ((eL (eP2 eI eI)) s_22.2), D9], T⟩, ?_, rfl⟩
      (push_cast [bd3_line_of, Kv_14, C_15, K_24, Nat.reduceAdd, Nat.reduceSub, Nat.reduceLT, Nat.reduceLeDiff, Int.reduceLT, Int.reduceLE, Int.reduceNeg, Int.reducePow, Int.reduceToNat]; try with_reducible rfl)
    · subst HO
      cases H
  · -- -
    replace C_15 := decide_eq_false C_15
    obtain ⟨r_26, Hr_26, H⟩ := Option.bind_eq_some_iff.mp H
    have Kr_26 : F_around [(.int high), (.int wide), (.tup false [(.int v_14.1), (.int v_14.2)])] T = .ok (.lst (List.map (eP2 eI eI) r_26)) true T := w_around high wide v_14 T Hr_26
    obtain ⟨l_36, Hl_36, H⟩ := Option.bind_eq_some_iff.mp H
    have K_37 : it1_line_of ⟨[.val ((eU (eU eI)) heights), .val (eI high), .val (eI wide), .own ((eD2 (eO (eP2 eI eI))) ahead), .own ((eL (eP2 eI eI)) waiting), .val (eI (at_ + 1)), Z6, .val ((eP2 eI eI) v_14), D8, D9], T⟩ = .ok (r_26.map (eP2 eI eI)) ⟨[.val ((eU (eU eI)) heights), .val (eI high), .val (eI wide), .own ((eD2 (eO (eP2 eI eI))) ahead), .own ((eL (eP2 eI eI)) waiting), .val (eI (at_ + 1)), Z6, .val ((eP2 eI eI) v_14), D8, D9], T⟩ := by (push_cast [it1_line_of, Kv_14, C_15, Kr_26, Nat.reduceAdd, Nat.reduceSub, Nat.reduceLT, Nat.reduceLeDiff, Int.reduceLT, Int.reduceLE, Int.reduceNeg, Int.reducePow, Int.reduceToNat]; try with_reducible rfl)
    have Kl_36 := for_fold (I := I3_line_of_1 heights (.val (eI high)) (.val (eI wide)) (.val (eI (at_ + 1))) Z6 v_14 D8 T) (tg := (.nm 9)) (b := bd2_line_of) (E := (eP2 eI eI)) (fun Q E X3 O HI H => l3_line_of_1_bd heights (.val (eI high)) (.val (eI wide)) (.val (eI (at_ + 1))) Z6 v_14 D8 T Q.1 Q.2 X3 E HI H) r_26 (ahead, waiting) ⟨[.val ((eU (eU eI)) heights), .val (eI high), .val (eI wide), .own ((eD2 (eO (eP2 eI eI))) ahead), .own ((eL (eP2 eI eI)) waiting), .val (eI (at_ + 1)), Z6, .val ((eP2 eI eI) v_14), D8, D9], T⟩ _ ⟨D9, rfl⟩ Hl_36
    obtain ⟨E_39, Kl_36, ⟨D_38, rfl⟩⟩ := Kl_36
    have K_40 : lp1_line_of ⟨[.val ((eU (eU eI)) heights), .val (eI high), .val (eI wide), .own ((eD2 (eO (eP2 eI eI))) ahead), .own ((eL (eP2 eI eI)) waiting), .val (eI (at_ + 1)), Z6, .val ((eP2 eI eI) v_14), D8, D9], T⟩ = .ok .nx ⟨[.val ((eU (eU eI)) heights), .val (eI high), .val (eI wide), .own ((eD2 (eO (eP2 eI eI))) l_36.1), .own ((eL (eP2 eI eI)) l_36.2), .val (eI (at_ + 1)), Z6, .val ((eP2 eI eI) v_14), D8, D_38], T⟩ := by
      show forS _ _ _ _ = _
      rw [forS_ap, K_37, bind_ok]; exact Kl_36
    try push_cast [DR.bind_ok] at K_40
    obtain rfl := Option.some.inj H
    refine ⟨⟨[.val ((eU (eU eI)) heights), .val (eI high), .val (eI wide), .own ((eD2 (eO (eP2 eI eI))) l_36.1), .own ((eL (eP2 eI eI)) l_36.2), .val (eI (at_ + 1)), Z6, .val ((eP2 eI eI) v_14), D8, D_38], T⟩, .inl ?_, ⟨.val ((eP2 eI eI) v_14), D8, D_38, rfl⟩⟩
    (push_cast [bd3_line_of, Kv_14, C_15, Kr_26, K_40, Nat.reduceAdd, Nat.reduceSub, Nat.reduceLT, Nat.reduceLeDiff, Int.reduceLT, Int.reduceLE, Int.reduceNeg, Int.reducePow, Int.reduceToNat]; try with_reducible rfl)
theorem l1_line_of_1_ts (heights : List (List Int)) (high : Int) (wide : Int) (Z6 : Sl) (T : DT) (ahead : List ((Int × Int) × (Option (Int × Int)))) (waiting : List (Int × Int)) (at_ : Int) (E : DS) (HI : I1_line_of_1 heights high wide Z6 T (ahead, waiting, at_) E) : ts1_line_of E = .ok (decide (at_ < (waiting.length : Int))) E := by
  obtain ⟨D7, D8, D9, rfl⟩ := HI
  (push_cast [ts1_line_of, t_and, t_or, e_and, e_or, i_andT, i_orT, i_andE, i_orE, i_int, k_if, k_ch3, Nat.reduceAdd, Nat.reduceSub, Nat.reduceLT, Nat.reduceLeDiff, Int.reduceLT, Int.reduceLE, Int.reduceNeg, Int.reducePow, Int.reduceToNat]; try with_reducible rfl)
def c1_line_of_1 (heights : List (List Int)) (high : Int) (wide : Int) (ahead : List ((Int × Int) × (Option (Int × Int)))) (waiting : List (Int × Int)) (at_ : Int) : Option Bool := some (decide (at_ < (waiting.length : Int)))
def m_line_of_1 (heights : List (List Int)) : Option (Option (List (Int × Int))) :=
  (idx heights 0).bind fun v_1 =>
  (rngO 0 (heights.length : Int)).bind fun g_2 =>
  (foldO (fun Q X0 => s0_line_of_1 heights Q.1 Q.2 X0) g_2 ([], ([] : List (Int × Int)))).bind fun l_9 =>
  (whileO (fun Q => c1_line_of_1 heights (heights.length : Int) (v_1.length : Int) Q.1 Q.2.1 Q.2.2) (fun Q => s1_line_of_1 heights (heights.length : Int) (v_1.length : Int) Q.1 Q.2.1 Q.2.2) fuel (l_9.1, l_9.2, 0)).bind fun l_41 =>
  sumM l_41 (fun s_46 =>
    some none)
    (fun r_47 => some r_47)
theorem w_line_of_1 (heights : List (List Int)) (T : DT) {V : (Option (List (Int × Int)))} (H : m_line_of_1 heights = some V) : F_line_of [(eU (eU eI)) heights] T = .ok ((eO (eL (eP2 eI eI))) V) false T := by
  unfold m_line_of_1 at H
  obtain ⟨v_1, Hv_1, H⟩ := Option.bind_eq_some_iff.mp H
  have Kv_1 : ixG (.tup false (List.map (eU eI) heights)) (.int 0) = some (.tup false (List.map eI v_1)) := by
    have := ixG_U false (eU eI) heights 0
    rw [Hv_1] at this
    exact this
  obtain ⟨g_2, Hg_2, H⟩ := Option.bind_eq_some_iff.mp H
  obtain ⟨l_9, Hl_9, H⟩ := Option.bind_eq_some_iff.mp H
  have K_10 : it0_line_of ⟨[.val ((eU (eU eI)) heights), .val (eI (heights.length : Int)), .val (eI (v_1.length : Int)), .own ((eD2 (eO (eP2 eI eI))) ([])), .own ((eL (eP2 eI eI)) ([] : List (Int × Int))), .val (eI 0), .no, .no, .no, .no], T⟩ = .ok (g_2.map eI) ⟨[.val ((eU (eU eI)) heights), .val (eI (heights.length : Int)), .val (eI (v_1.length : Int)), .own ((eD2 (eO (eP2 eI eI))) ([])), .own ((eL (eP2 eI eI)) ([] : List (Int × Int))), .val (eI 0), .no, .no, .no, .no], T⟩ := by (push_cast [it0_line_of, Kv_1, newD2 (eO (eP2 eI eI)), Hg_2, Nat.reduceAdd, Nat.reduceSub, Nat.reduceLT, Nat.reduceLeDiff, Int.reduceLT, Int.reduceLE, Int.reduceNeg, Int.reducePow, Int.reduceToNat]; try with_reducible rfl)
  have Kl_9 := for_fold (I := I0_line_of_1 heights (.val (eI (heights.length : Int))) (.val (eI (v_1.length : Int))) (.val (eI 0)) T) (tg := (.nm 6)) (b := bd0_line_of) (E := eI) (fun Q E X0 O HI H => l0_line_of_1_bd heights (.val (eI (heights.length : Int))) (.val (eI (v_1.length : Int))) (.val (eI 0)) T Q.1 Q.2 X0 E HI H) g_2 ([], ([] : List (Int × Int))) ⟨[.val ((eU (eU eI)) heights), .val (eI (heights.length : Int)), .val (eI (v_1.length : Int)), .own ((eD2 (eO (eP2 eI eI))) ([])), .own ((eL (eP2 eI eI)) ([] : List (Int × Int))), .val (eI 0), .no, .no, .no, .no], T⟩ _ ⟨.no, rfl⟩ Hl_9
  obtain ⟨E_12, Kl_9, ⟨D_11, rfl⟩⟩ := Kl_9
  have K_13 : lp0_line_of ⟨[.val ((eU (eU eI)) heights), .val (eI (heights.length : Int)), .val (eI (v_1.length : Int)), .own ((eD2 (eO (eP2 eI eI))) ([])), .own ((eL (eP2 eI eI)) ([] : List (Int × Int))), .val (eI 0), .no, .no, .no, .no], T⟩ = .ok .nx ⟨[.val ((eU (eU eI)) heights), .val (eI (heights.length : Int)), .val (eI (v_1.length : Int)), .own ((eD2 (eO (eP2 eI eI))) l_9.1), .own ((eL (eP2 eI eI)) l_9.2), .val (eI 0), D_11, .no, .no, .no], T⟩ := by
    show forS _ _ _ _ = _
    rw [forS_ap, K_10, bind_ok]; exact Kl_9
  try push_cast [DR.bind_ok] at K_13
  obtain ⟨l_41, Hl_41, H⟩ := Option.bind_eq_some_iff.mp H
  have Kl_41 := while_sim (I := I1_line_of_1 heights (heights.length : Int) (v_1.length : Int) D_11 T) (R := (fun V : (Option (List (Int × Int))) => ((eO (eL (eP2 eI eI))) V, false))) (J := (fun _ E => E.t = T)) (tt := ts1_line_of) (b := bd3_line_of) (fun Q E W HI H => by cases H; exact l1_line_of_1_ts heights (heights.length : Int) (v_1.length : Int) D_11 T Q.1 Q.2.1 Q.2.2 E HI) (fun Q E O HI _ H => l1_line_of_1_bd heights (heights.length : Int) (v_1.length : Int) D_11 T Q.1 Q.2.1 Q.2.2 E HI H) fuel (l_9.1, l_9.2, 0) ⟨[.val ((eU (eU eI)) heights), .val (eI (heights.length : Int)), .val (eI (v_1.length : Int)), .own ((eD2 (eO (eP2 eI eI))) l_9.1), .own ((eL (eP2 eI eI)) l_9.2), .val (eI 0), D_11, .no, .no, .no], T⟩ _ ⟨.no, .no, .no, rfl⟩ Hl_41
  rcases sumM_inv H with ⟨s_46, HO, H⟩ | ⟨r_47, HO, H⟩
  · subst HO
    obtain ⟨E_45, Kl_41, ⟨D_42, D_43, D_44, rfl⟩⟩ := Kl_41
    have K_48 : wl1_line_of ⟨[.val ((eU (eU eI)) heights), .val (eI (heights.length : Int)), .val (eI (v_1.length : Int)), .own ((eD2 (eO (eP2 eI eI))) l_9.1), .own ((eL (eP2 eI eI)) l_9.2), .val (eI 0), D_11, .no, .no, .no], T⟩ = .ok .nx ⟨[.val ((eU (eU eI)) heights), .val (eI (heights.length : Int)), .val (eI (v_1.length : Int)), .own ((eD2 (eO (eP2 eI eI))) s_46.1), .own ((eL (eP2 eI eI)) s_46.2.1), .val (eI s_46.2.2), D_11, D_42, D_43, D_44], T⟩ := by
      exact Kl_41
    try push_cast [DR.bind_ok] at K_48
    obtain rfl := Option.some.inj H
    (push_cast [F_line_of, b_line_of, Kv_1, newD2 (eO (eP2 eI eI)), Hg_2, K_13, K_48, Nat.reduceAdd, Nat.reduceSub, Nat.reduceLT, Nat.reduceLeDiff, Int.reduceLT, Int.reduceLE, Int.reduceNeg, Int.reducePow, Int.reduceToNat]; try with_reducible rfl)
  · subst HO
    obtain ⟨⟨E_49, E_49t⟩, Kl_41, HT⟩ := Kl_41
    replace HT : E_49t = T := HT
    rw [HT] at Kl_41
    have K_48 : wl1_line_of ⟨[.val ((eU (eU eI)) heights), .val (eI (heights.length : Int)), .val (eI (v_1.length : Int)), .own ((eD2 (eO (eP2 eI eI))) l_9.1), .own ((eL (eP2 eI eI)) l_9.2), .val (eI 0), D_11, .no, .no, .no], T⟩ = .ok (.rt ((eO (eL (eP2 eI eI))) r_47) false) ⟨E_49, T⟩ := by
      exact Kl_41
    try push_cast [DR.bind_ok] at K_48
    obtain rfl := Option.some.inj H
    (push_cast [F_line_of, b_line_of, Kv_1, newD2 (eO (eP2 eI eI)), Hg_2, K_13, K_48, Nat.reduceAdd, Nat.reduceSub, Nat.reduceLT, Nat.reduceLeDiff, Int.reduceLT, Int.reduceLE, Int.reduceNeg, Int.reducePow, Int.reduceToNat]; try with_reducible rfl)
def m_line_told_1 (high : Int) (wide : Int) (heights : List (List Int)) : Option (List (Int × Int)) :=
  (m_check_heights_1 high wide heights).bind fun r_1 =>
  (m_is_up_down_1 heights).bind fun r_2 =>
  if (!r_2) = true then
    none
  else
  (m_line_of_1 heights).bind fun r_4 =>
  (r_4).bind fun u_5 =>
  some u_5
theorem w_line_told_1 (high : Int) (wide : Int) (heights : List (List Int)) (T : DT) {V : (List (Int × Int))} (H : m_line_told_1 high wide heights = some V) : F_line_told [eI high, eI wide, (eU (eU eI)) heights] T = .ok ((eU (eP2 eI eI)) V) false T := by
  unfold m_line_told_1 at H
  obtain ⟨r_1, Hr_1, H⟩ := Option.bind_eq_some_iff.mp H
  have Kr_1 : F_check_heights [(.int high), (.int wide), (.tup false (List.map (eU eI) heights))] T = .ok .non false T := w_check_heights_1 high wide heights T Hr_1
  obtain ⟨r_2, Hr_2, H⟩ := Option.bind_eq_some_iff.mp H
  have Kr_2 : F_is_up_down [(.tup false (List.map (eU eI) heights))] T = .ok (.bl r_2) false T := w_is_up_down_1 heights T Hr_2
  rcases iteB_inv H with ⟨C_3, H⟩ | ⟨C_3, H⟩
  · -- +
    cases H
  · -- -
    obtain ⟨r_4, Hr_4, H⟩ := Option.bind_eq_some_iff.mp H
    have Kr_4 : F_line_of [(.tup false (List.map (eU eI) heights))] T = .ok ((eO (eL (eP2 eI eI))) r_4) false T := w_line_of_1 heights T Hr_4
    obtain ⟨u_5, Hu_5, H⟩ := Option.bind_eq_some_iff.mp H
    obtain rfl := Option.some.inj H
    (push_cast [F_line_told, b_line_told, Kr_1, Kr_2, C_3, Kr_4, Hu_5, Nat.reduceAdd, Nat.reduceSub, Nat.reduceLT, Nat.reduceLeDiff, Int.reduceLT, Int.reduceLE, Int.reduceNeg, Int.reducePow, Int.reduceToNat]; try with_reducible rfl)
theorem x1_is_tuple_4_ok (thing : List (Int × Int)) (least : Int) (most : Int) (T : DT) : xe0_is_tuple ⟨[.val ((eU (eP2 eI eI)) thing), .val (eI least), .val (eI most)], T⟩ = .ok (.bl ((decide (least ≤ (thing.length : Int))) && (decide ((thing.length : Int) ≤ most)))) ⟨[.val ((eU (eP2 eI eI)) thing), .val (eI least), .val (eI most)], T⟩ := by
  (push_cast [xe0_is_tuple, t_and, t_or, e_and, e_or, i_andT, i_orT, i_andE, i_orE, i_int, k_if, k_ch3, Nat.reduceAdd, Nat.reduceSub, Nat.reduceLT, Nat.reduceLeDiff, Int.reduceLT, Int.reduceLE, Int.reduceNeg, Int.reducePow, Int.reduceToNat]; try with_reducible rfl)
theorem x0_is_tuple_4_ok (thing : List (Int × Int)) (least : Int) (most : Int) (T : DT) : xe1_is_tuple ⟨[.val ((eU (eP2 eI eI)) thing), .val (eI least), .val (eI most)], T⟩ = .ok (.bl ((decide (least ≤ (thing.length : Int))) && (decide ((thing.length : Int) ≤ most)))) ⟨[.val ((eU (eP2 eI eI)) thing), .val (eI least), .val (eI most)], T⟩ := by
  have K_1 := x1_is_tuple_4_ok thing least most T
  try push_cast [DR.bind_ok] at K_1
  (push_cast [xe1_is_tuple, K_1, t_and, t_or, e_and, e_or, i_andT, i_orT, i_andE, i_orE, i_int, k_if, k_ch3, Nat.reduceAdd, Nat.reduceSub, Nat.reduceLT, Nat.reduceLeDiff, Int.reduceLT, Int.reduceLE, Int.reduceNeg, Int.reducePow, Int.reduceToNat]; try with_reducible rfl)
def m_is_tuple_4 (thing : List (Int × Int)) (least : Int) (most : Int) : Bool :=
  ((decide (least ≤ (thing.length : Int))) && (decide ((thing.length : Int) ≤ most)))
theorem w_is_tuple_4 (thing : List (Int × Int)) (least : Int) (most : Int) (T : DT) {V : Bool} (H : m_is_tuple_4 thing least most = V) : F_is_tuple [(eU (eP2 eI eI)) thing, eI least, eI most] T = .ok (eB V) false T := by
  unfold m_is_tuple_4 at H
  have K_2 := x0_is_tuple_4_ok thing least most T
  try push_cast [DR.bind_ok] at K_2
  subst H
  (push_cast [F_is_tuple, b_is_tuple, K_2, Nat.reduceAdd, Nat.reduceSub, Nat.reduceLT, Nat.reduceLeDiff, Int.reduceLT, Int.reduceLE, Int.reduceNeg, Int.reducePow, Int.reduceToNat]; try with_reducible rfl)
theorem c0_is_line_ok (Z0 : Sl) (Z1 : Sl) (Z2 : Sl) (thing : List (Int × Int)) (T : DT) (XS : List (Int × Int)) (HX : (seqI (nameE 3)) ⟨[Z0, Z1, Z2, .val ((eU (eP2 eI eI)) thing), .no, .no, .no, .no, .no], T⟩ = .ok (XS.map (eP2 eI eI)) ⟨[Z0, Z1, Z2, .val ((eU (eP2 eI eI)) thing), .no, .no, .no, .no, .no], T⟩) {Y : List Bool} (H : lenO (XS.map fun Y0 => (m_is_tuple_1 Y0 2 2)) = some Y) : cp0_is_line ⟨[Z0, Z1, Z2, .val ((eU (eP2 eI eI)) thing), .no, .no, .no, .no, .no], T⟩ = .ok (.lst (Y.map eB), true) ⟨[Z0, Z1, Z2, .val ((eU (eP2 eI eI)) thing), .no, .no, .no, .no, .no], T⟩ := by
  refine (lcO_Q (E := (eP2 eI eI)) (F := eB) (g := fun Y0 => (m_is_tuple_1 Y0 2 2)) HX H fun Y0 => ⟨[Z0, Z1, Z2, .val ((eU (eP2 eI eI)) thing), .val ((eP2 eI eI) Y0), .no, .no, .no, .no], rfl, ⟨[Z0, Z1, Z2, .val ((eU (eP2 eI eI)) thing), .val ((eP2 eI eI) Y0), .no, .no, .no, .no], T⟩, ?_, rfl, rfl⟩).trans (by rfl)
  have K_4 : F_is_tuple [(.tup false [(.int Y0.1), (.int Y0.2)]), (.int 2), (.int 2)] T = .ok (.bl (m_is_tuple_1 Y0 2 2)) false T := w_is_tuple_1 Y0 2 2 T rfl
  (push_cast [K_4, t_and, t_or, e_and, e_or, i_andT, i_orT, i_andE, i_orE, i_int, k_if, k_ch3, Nat.reduceAdd, Nat.reduceSub, Nat.reduceLT, Nat.reduceLeDiff, Int.reduceLT, Int.reduceLE, Int.reduceNeg, Int.reducePow, Int.reduceToNat]; try with_reducible rfl)
def x0_is_line (thing : List (Int × Int)) : Option Bool :=
  if (!(m_is_tuple_4 thing 1 64)) = true then
    some true
  else
  (lenO (thing.map fun Y0 => (m_is_tuple_1 Y0 2 2))).bind fun y_5 =>
  some (!(y_5.all id))
theorem x0_is_line_ok (Z0 : Sl) (Z1 : Sl) (Z2 : Sl) (thing : List (Int × Int)) (T : DT) {W : Bool} (H : x0_is_line thing = some W) : te0_is_line ⟨[Z0, Z1, Z2, .val ((eU (eP2 eI eI)) thing), .no, .no, .no, .no, .no], T⟩ = .ok W ⟨[Z0, Z1, Z2, .val ((eU (eP2 eI eI)) thing), .no, .no, .no, .no, .no], T⟩ := by
  unfold x0_is_line at H
  have K_2 : F_is_tuple [(.tup false (List.map (eP2 eI eI) thing)), (.int 1), (.int 64)] T = .ok (.bl (m_is_tuple_4 thing 1 64)) false T := w_is_tuple_4 thing 1 64 T rfl
  rcases iteB_inv H with ⟨C_3, H⟩ | ⟨C_3, H⟩
  · -- +
    obtain rfl := Option.some.inj H
    (push_cast [te0_is_line, K_2, C_3, Nat.reduceAdd, Nat.reduceSub, Nat.reduceLT, Nat.reduceLeDiff, Int.reduceLT, Int.reduceLE, Int.reduceNeg, Int.reducePow, Int.reduceToNat]; try with_reducible rfl)
  · -- -
    obtain ⟨y_5, Hy_5, H⟩ := Option.bind_eq_some_iff.mp H
    have K_6 : (seqI (nameE 3)) ⟨[Z0, Z1, Z2, .val ((eU (eP2 eI eI)) thing), .no, .no, .no, .no, .no], T⟩ = .ok (thing.map (eP2 eI eI)) ⟨[Z0, Z1, Z2, .val ((eU (eP2 eI eI)) thing), .no, .no, .no, .no, .no], T⟩ := by (push_cast [K_2, C_3, Nat.reduceAdd, Nat.reduceSub, Nat.reduceLT, Nat.reduceLeDiff, Int.reduceLT, Int.reduceLE, Int.reduceNeg, Int.reducePow, Int.reduceToNat]; try with_reducible rfl)
    have Ky_5 := c0_is_line_ok Z0 Z1 Z2 thing T thing K_6 Hy_5
    try push_cast [DR.bind_ok] at Ky_5
    obtain rfl := Option.some.inj H
    (push_cast [te0_is_line, K_2, C_3, Ky_5, Nat.reduceAdd, Nat.reduceSub, Nat.reduceLT, Nat.reduceLeDiff, Int.reduceLT, Int.reduceLE, Int.reduceNeg, Int.reducePow, Int.reduceToNat]; try with_reducible rfl)
theorem x1_is_line_ok (high : Int) (wide : Int) (Z2 : Sl) (Z3 : Sl) (a : Int) (b : Int) (T : DT) : xe0_is_line ⟨[.val (eI high), .val (eI wide), Z2, Z3, .no, .val (eI a), .val (eI b), .no, .no], T⟩ = .ok (.bl ((m_is_within a 0 (high - 1)) && (m_is_within b 0 (wide - 1)))) ⟨[.val (eI high), .val (eI wide), Z2, Z3, .no, .val (eI a), .val (eI b), .no, .no], T⟩ := by
  have K_9 : F_is_within [(.int a), (.int 0), (.int (high - 1))] T = .ok (.bl (m_is_within a 0 (high - 1))) false T := w_is_within a 0 (high - 1) T rfl
  have K_10 : F_is_within [(.int b), (.int 0), (.int (wide - 1))] T = .ok (.bl (m_is_within b 0 (wide - 1))) false T := w_is_within b 0 (wide - 1) T rfl
  (push_cast [xe0_is_line, K_9, K_10, t_and, t_or, e_and, e_or, i_andT, i_orT, i_andE, i_orE, i_int, k_if, k_ch3, Nat.reduceAdd, Nat.reduceSub, Nat.reduceLT, Nat.reduceLeDiff, Int.reduceLT, Int.reduceLE, Int.reduceNeg, Int.reducePow, Int.reduceToNat]; try with_reducible rfl)
theorem c1_is_line_ok (high : Int) (wide : Int) (Z2 : Sl) (thing : List (Int × Int)) (T : DT) (XS : List (Int × Int)) (HX : (seqI (nameE 3)) ⟨[.val (eI high), .val (eI wide), Z2, .val ((eU (eP2 eI eI)) thing), .no, .no, .no, .no, .no], T⟩ = .ok (XS.map (eP2 eI eI)) ⟨[.val (eI high), .val (eI wide), Z2, .val ((eU (eP2 eI eI)) thing), .no, .no, .no, .no, .no], T⟩) {Y : List Bool} (H : lenO (XS.map fun Y1 => ((m_is_within Y1.1 0 (high - 1)) && (m_is_within Y1.2 0 (wide - 1)))) = some Y) : cp1_is_line ⟨[.val (eI high), .val (eI wide), Z2, .val ((eU (eP2 eI eI)) thing), .no, .no, .no, .no, .no], T⟩ = .ok (.lst (Y.map eB), true) ⟨[.val (eI high), .val (eI wide), Z2, .val ((eU (eP2 eI eI)) thing), .no, .no, .no, .no, .no], T⟩ := by
  refine (lcO_Q (E := (eP2 eI eI)) (F := eB) (g := fun Y1 => ((m_is_within Y1.1 0 (high - 1)) && (m_is_within Y1.2 0 (wide - 1)))) HX H fun Y1 => ⟨[.val (eI high), .val (eI wide), Z2, .val ((eU (eP2 eI eI)) thing), .no, .val (eI Y1.1), .val (eI Y1.2), .no, .no], rfl, ⟨[.val (eI high), .val (eI wide), Z2, .val ((eU (eP2 eI eI)) thing), .no, .val (eI Y1.1), .val (eI Y1.2), .no, .no], T⟩, ?_, rfl, rfl⟩).trans (by rfl)
  have K_11 := x1_is_line_ok high wide Z2 (.val ((eU (eP2 eI eI)) thing)) Y1.1 Y1.2 T
  try push_cast [DR.bind_ok] at K_11
  (push_cast [K_11, t_and, t_or, e_and, e_or, i_andT, i_orT, i_andE, i_orE, i_int, k_if, k_ch3, Nat.reduceAdd, Nat.reduceSub, Nat.reduceLT, Nat.reduceLeDiff, Int.reduceLT, Int.reduceLE, Int.reduceNeg, Int.reducePow, Int.reduceToNat]; try with_reducible rfl)
def b0_is_lined (thing : List (Int × Int)) (Y0d : Int × Int) : Option (Option ((Int × Int) × Bool)) :=
  some (some (Y0d, true))
theorem d0_is_line_ok (Z0 : Sl) (Z1 : Sl) (Z2 : Sl) (thing : List (Int × Int)) (T : DT) (XS : List (Int × Int)) (HX : (seqI (nameE 3)) ⟨[Z0, Z1, Z2, .val ((eU (eP2 eI eI)) thing), .no, .no, .no, .no, .no], T⟩ = .ok (XS.map (eP2 eI eI)) ⟨[Z0, Z1, Z2, .val ((eU (eP2 eI eI)) thing), .no, .no, .no, .no, .no], T⟩) {Y : List ((Int × Int) × Bool)} (H : dfold (b0_is_lined thing) XS [] = some Y) : dc0_is_line ⟨[Z0, Z1, Z2, .val ((eU (eP2 eI eI)) thing), .no, .no, .no, .no, .no], T⟩ = .ok ((eD2 eB) Y, true) ⟨[Z0, Z1, Z2, .val ((eU (eP2 eI eI)) thing), .no, .no, .no, .no, .no], T⟩ := by
  refine (dcO_sim (E := (eP2 eI eI)) (G := (eP2 eI eI)) (F := eB) (D := (eD2 eB)) (f := (b0_is_lined thing)) rfl (putD2 eB) HX H fun Y0d V H => ⟨[Z0, Z1, Z2, .val ((eU (eP2 eI eI)) thing), .val ((eP2 eI eI) Y0d), .no, .no, .no, .no], rfl, ?_⟩).trans (by rfl)
  unfold b0_is_lined at H
  obtain rfl := Option.some.inj H
  refine ⟨⟨[Z0, Z1, Z2, .val ((eU (eP2 eI eI)) thing), .val ((eP2 eI eI) Y0d), .no, .no, .no, .no], T⟩, ⟨[Z0, Z1, Z2, .val ((eU (eP2 eI eI)) thing), .val ((eP2 eI eI) Y0d), .no, .no, .no, .no], T⟩, ⟨[Z0, Z1, Z2, .val ((eU (eP2 eI eI)) thing), .val ((eP2 eI eI) Y0d), .no, .no, .no, .no], T⟩, ?_, ?_, ?_, rfl, rfl⟩
  · (push_cast [bind_ok, Nat.reduceAdd, Nat.reduceSub, Nat.reduceLT, Nat.reduceLeDiff, Int.reduceLT, Int.reduceLE, Int.reduceNeg, Int.reducePow, Int.reduceToNat]; try with_reducible rfl)
  · (push_cast [bind_ok, Nat.reduceAdd, Nat.reduceSub, Nat.reduceLT, Nat.reduceLeDiff, Int.reduceLT, Int.reduceLE, Int.reduceNeg, Int.reducePow, Int.reduceToNat]; try with_reducible rfl)
  · (push_cast [bind_ok, Nat.reduceAdd, Nat.reduceSub, Nat.reduceLT, Nat.reduceLeDiff, Int.reduceLT, Int.reduceLE, Int.reduceNeg, Int.reducePow, Int.reduceToNat]; try with_reducible rfl)
def b2_is_line (heights : List (List Int)) (thing : List (Int × Int)) (Y2 : Int × Int) : Option Bool :=
  (idx heights Y2.1).bind fun v_18 =>
  (idx v_18 Y2.2).bind fun v_19 =>
  some (!decide (v_19 = 0))
theorem c2_is_line_ok (Z0 : Sl) (Z1 : Sl) (heights : List (List Int)) (thing : List (Int × Int)) (T : DT) (XS : List (Int × Int)) (HX : (seqI (nameE 3)) ⟨[Z0, Z1, .val ((eU (eU eI)) heights), .val ((eU (eP2 eI eI)) thing), .no, .no, .no, .no, .no], T⟩ = .ok (XS.map (eP2 eI eI)) ⟨[Z0, Z1, .val ((eU (eU eI)) heights), .val ((eU (eP2 eI eI)) thing), .no, .no, .no, .no, .no], T⟩) {Y : List Bool} (H : compM (b2_is_line heights thing) XS = some Y) : cp2_is_line ⟨[Z0, Z1, .val ((eU (eU eI)) heights), .val ((eU (eP2 eI eI)) thing), .no, .no, .no, .no, .no], T⟩ = .ok (.lst (Y.map eB), true) ⟨[Z0, Z1, .val ((eU (eU eI)) heights), .val ((eU (eP2 eI eI)) thing), .no, .no, .no, .no, .no], T⟩ := by
  refine (lcO_M (E := (eP2 eI eI)) (F := eB) (f := b2_is_line heights thing) HX H fun Y2 V H => ⟨[Z0, Z1, .val ((eU (eU eI)) heights), .val ((eU (eP2 eI eI)) thing), .no, .val (eI Y2.1), .val (eI Y2.2), .no, .no], rfl, ?_⟩).trans (by rfl)
  unfold b2_is_line at H
  obtain ⟨v_18, Hv_18, H⟩ := Option.bind_eq_some_iff.mp H
  have Kv_18 : ixG (.tup false (List.map (eU eI) heights)) (.int Y2.1) = some (.tup false (List.map eI v_18)) := by
    have := ixG_U false (eU eI) heights Y2.1
    rw [Hv_18] at this
    exact this
  obtain ⟨v_19, Hv_19, H⟩ := Option.bind_eq_some_iff.mp H
  have Kv_19 : ixG (.tup false (List.map eI v_18)) (.int Y2.2) = some (.int v_19) := by
    have := ixG_U false eI v_18 Y2.2
    rw [Hv_19] at this
    exact this
  obtain rfl := Option.some.inj H
  refine ⟨⟨[Z0, Z1, .val ((eU (eU eI)) heights), .val ((eU (eP2 eI eI)) thing), .no, .val (eI Y2.1), .val (eI Y2.2), .no, .no], T⟩, ?_, rfl, rfl⟩
  (push_cast [Kv_18, Kv_19, Nat.reduceAdd, Nat.reduceSub, Nat.reduceLT, Nat.reduceLeDiff, Int.reduceLT, Int.reduceLE, Int.reduceNeg, Int.reducePow, Int.reduceToNat]; try with_reducible rfl)
def x2_is_line (heights : List (List Int)) (thing : List (Int × Int)) : Option Bool :=
  (dfold (b0_is_lined thing) thing []).bind fun y_15 =>
  if (y_15.length : Int) < (thing.length : Int) then
    some true
  else
  (compM (b2_is_line heights thing) thing).bind fun y_20 =>
  some (y_20.any id)
theorem x2_is_line_ok (Z0 : Sl) (Z1 : Sl) (heights : List (List Int)) (thing : List (Int × Int)) (T : DT) {W : Bool} (H : x2_is_line heights thing = some W) : te1_is_line ⟨[Z0, Z1, .val ((eU (eU eI)) heights), .val ((eU (eP2 eI eI)) thing), .no, .no, .no, .no, .no], T⟩ = .ok W ⟨[Z0, Z1, .val ((eU (eU eI)) heights), .val ((eU (eP2 eI eI)) thing), .no, .no, .no, .no, .no], T⟩ := by
  unfold x2_is_line at H
  obtain ⟨y_15, Hy_15, H⟩ := Option.bind_eq_some_iff.mp H
  have K_16 : (seqI (nameE 3)) ⟨[Z0, Z1, .val ((eU (eU eI)) heights), .val ((eU (eP2 eI eI)) thing), .no, .no, .no, .no, .no], T⟩ = .ok (thing.map (eP2 eI eI)) ⟨[Z0, Z1, .val ((eU (eU eI)) heights), .val ((eU (eP2 eI eI)) thing), .no, .no, .no, .no, .no], T⟩ := by (push_cast [bind_ok, Nat.reduceAdd, Nat.reduceSub, Nat.reduceLT, Nat.reduceLeDiff, Int.reduceLT, Int.reduceLE, Int.reduceNeg, Int.reducePow, Int.reduceToNat]; try with_reducible rfl)
  have Ky_15 := d0_is_line_ok Z0 Z1 (.val ((eU (eU eI)) heights)) thing T thing K_16 Hy_15
  try push_cast [DR.bind_ok] at Ky_15
  rcases ite_inv H with ⟨C_17, H⟩ | ⟨C_17, H⟩
  · -- +
    replace C_17 := decide_eq_true C_17
    obtain rfl := Option.some.inj H
    (push_cast [te1_is_line, Ky_15, C_17, Nat.reduceAdd, Nat.reduceSub, Nat.reduceLT, Nat.reduceLeDiff, Int.reduceLT, Int.reduceLE, Int.reduceNeg, Int.reducePow, Int.reduceToNat]; try with_reducible rfl)
  · -- -
    replace C_17 := decide_eq_false C_17
    obtain ⟨y_20, Hy_20, H⟩ := Option.bind_eq_some_iff.mp H
    have K_21 : (seqI (nameE 3)) ⟨[Z0, Z1, .val ((eU (eU eI)) heights), .val ((eU (eP2 eI eI)) thing), .no, .no, .no, .no, .no], T⟩ = .ok (thing.map (eP2 eI eI)) ⟨[Z0, Z1, .val ((eU (eU eI)) heights), .val ((eU (eP2 eI eI)) thing), .no, .no, .no, .no, .no], T⟩ := by (push_cast [Ky_15, C_17, Nat.reduceAdd, Nat.reduceSub, Nat.reduceLT, Nat.reduceLeDiff, Int.reduceLT, Int.reduceLE, Int.reduceNeg, Int.reducePow, Int.reduceToNat]; try with_reducible rfl)
    have Ky_20 := c2_is_line_ok Z0 Z1 heights thing T thing K_21 Hy_20
    try push_cast [DR.bind_ok] at Ky_20
    obtain rfl := Option.some.inj H
    (push_cast [te1_is_line, Ky_15, C_17, Ky_20, Nat.reduceAdd, Nat.reduceSub, Nat.reduceLT, Nat.reduceLeDiff, Int.reduceLT, Int.reduceLE, Int.reduceNeg, Int.reducePow, Int.reduceToNat]; try with_reducible rfl)
def x3_is_line (wide : Int) (thing : List (Int × Int)) : Option Bool :=
  (idx thing 0).bind fun v_24 =>
  if v_24.2 = 0 then
    (idx thing (-1)).bind fun v_26 =>
    some (!decide (v_26.2 = (wide - 1)))
  else
  some true
theorem x3_is_line_ok (Z0 : Sl) (wide : Int) (Z2 : Sl) (thing : List (Int × Int)) (T : DT) {W : Bool} (H : x3_is_line wide thing = some W) : te2_is_line ⟨[Z0, .val (eI wide), Z2, .val ((eU (eP2 eI eI)) thing), .no, .no, .no, .no, .no], T⟩ = .ok W ⟨[Z0, .val (eI wide), Z2, .val ((eU (eP2 eI eI)) thing), .no, .no, .no, .no, .no], T⟩ := by
  unfold x3_is_line at H
  obtain ⟨v_24, Hv_24, H⟩ := Option.bind_eq_some_iff.mp H
  have Kv_24 : ixG (.tup false (List.map (eP2 eI eI) thing)) (.int 0) = some (.tup false [(.int v_24.1), (.int v_24.2)]) := by
    have := ixG_U false (eP2 eI eI) thing 0
    rw [Hv_24] at this
    exact this
  rcases ite_inv H with ⟨C_25, H⟩ | ⟨C_25, H⟩
  · -- +
    replace C_25 := decide_eq_true C_25
    obtain ⟨v_26, Hv_26, H⟩ := Option.bind_eq_some_iff.mp H
    have Kv_26 : ixG (.tup false (List.map (eP2 eI eI) thing)) (.int (-1)) = some (.tup false [(.int v_26.1), (.int v_26.2)]) := by
      have := ixG_U false (eP2 eI eI) thing (-1)
      rw [Hv_26] at this
      exact this
    obtain rfl := Option.some.inj H
    (push_cast [te2_is_line, Kv_24, C_25, Kv_26, Nat.reduceAdd, Nat.reduceSub, Nat.reduceLT, Nat.reduceLeDiff, Int.reduceLT, Int.reduceLE, Int.reduceNeg, Int.reducePow, Int.reduceToNat]; try with_reducible rfl)
  · -- -
    replace C_25 := decide_eq_false C_25
    obtain rfl := Option.some.inj H
    (push_cast [te2_is_line, Kv_24, C_25, Nat.reduceAdd, Nat.reduceSub, Nat.reduceLT, Nat.reduceLeDiff, Int.reduceLT, Int.reduceLE, Int.reduceNeg, Int.reducePow, Int.reduceToNat]; try with_reducible rfl)
def b3_is_line (high : Int) (wide : Int) (thing : List (Int × Int)) (Y3 : (Int × Int) × (Int × Int)) : Option Bool :=
  (m_around high wide Y3.1).bind fun r_31 =>
  some (decide (Y3.2 ∈ r_31))
theorem c3_is_line_ok (high : Int) (wide : Int) (Z2 : Sl) (thing : List (Int × Int)) (T : DT) (XS : List ((Int × Int) × (Int × Int))) (HX : (zipI (nameE 3) (plainE (cutN 3 (someQ (constE (.int 1))) noQ))) ⟨[.val (eI high), .val (eI wide), Z2, .val ((eU (eP2 eI eI)) thing), .no, .no, .no, .no, .no], T⟩ = .ok (XS.map (eP2 (eP2 eI eI) (eP2 eI eI))) ⟨[.val (eI high), .val (eI wide), Z2, .val ((eU (eP2 eI eI)) thing), .no, .no, .no, .no, .no], T⟩) {Y : List Bool} (H : compM (b3_is_line high wide thing) XS = some Y) : cp3_is_line ⟨[.val (eI high), .val (eI wide), Z2, .val ((eU (eP2 eI eI)) thing), .no, .no, .no, .no, .no], T⟩ = .ok (.lst (Y.map eB), true) ⟨[.val (eI high), .val (eI wide), Z2, .val ((eU (eP2 eI eI)) thing), .no, .no, .no, .no, .no], T⟩ := by
  refine (lcO_M (E := (eP2 (eP2 eI eI) (eP2 eI eI))) (F := eB) (f := b3_is_line high wide thing) HX H fun Y3 V H => ⟨[.val (eI high), .val (eI wide), Z2, .val ((eU (eP2 eI eI)) thing), .no, .no, .no, .val ((eP2 eI eI) Y3.1), .val ((eP2 eI eI) Y3.2)], rfl, ?_⟩).trans (by rfl)
  unfold b3_is_line at H
  obtain ⟨r_31, Hr_31, H⟩ := Option.bind_eq_some_iff.mp H
  have Kr_31 : F_around [(.int high), (.int wide), (.tup false [(.int Y3.1.1), (.int Y3.1.2)])] T = .ok (.lst (List.map (eP2 eI eI) r_31)) true T := w_around high wide Y3.1 T Hr_31
  have K_32 : inG false (.tup false [(.int Y3.2.1), (.int Y3.2.2)]) (.lst (List.map (eP2 eI eI) r_31)) = some (.bl (false != decide (Y3.2 ∈ r_31))) := in_L false (eP2 eI eI) Y3.2 r_31 (by decide)
  obtain rfl := Option.some.inj H
  refine ⟨⟨[.val (eI high), .val (eI wide), Z2, .val ((eU (eP2 eI eI)) thing), .no, .no, .no, .val ((eP2 eI eI) Y3.1), .val ((eP2 eI eI) Y3.2)], T⟩, ?_, rfl, rfl⟩
  (push_cast [Kr_31, K_32, Nat.reduceAdd, Nat.reduceSub, Nat.reduceLT, Nat.reduceLeDiff, Int.reduceLT, Int.reduceLE, Int.reduceNeg, Int.reducePow, Int.reduceToNat]; try with_reducible rfl)
def m_is_line (high : Int) (wide : Int) (heights : List (List Int)) (thing : List (Int × Int)) : Option Bool :=
  (m_check_heights_1 high wide heights).bind fun r_1 =>
  (x0_is_line thing).bind fun w_7 =>
  if w_7 = true then
    some false
  else
  (lenO (thing.map fun Y1 => ((m_is_within Y1.1 0 (high - 1)) && (m_is_within Y1.2 0 (wide - 1))))).bind fun y_12 =>
  if (!(y_12.all id)) = true then
    some false
  else
  (x2_is_line heights thing).bind fun w_22 =>
  if w_22 = true then
    some false
  else
  (x3_is_line wide thing).bind fun w_27 =>
  if w_27 = true then
    some false
  else
  (compM (b3_is_line high wide thing) (List.zip thing (cutT thing (some 1) none))).bind fun y_33 =>
  some (y_33.all id)
theorem w_is_line (high : Int) (wide : Int) (heights : List (List Int)) (thing : List (Int × Int)) (T : DT) {V : Bool} (H : m_is_line high wide heights thing = some V) : F_is_line [eI high, eI wide, (eU (eU eI)) heights, (eU (eP2 eI eI)) thing] T = .ok (eB V) false T := by
  unfold m_is_line at H
  obtain ⟨r_1, Hr_1, H⟩ := Option.bind_eq_some_iff.mp H
  have Kr_1 : F_check_heights [(.int high), (.int wide), (.tup false (List.map (eU eI) heights))] T = .ok .non false T := w_check_heights_1 high wide heights T Hr_1
  obtain ⟨w_7, Hw_7, H⟩ := Option.bind_eq_some_iff.mp H
  have Kw_7 := x0_is_line_ok (.val (eI high)) (.val (eI wide)) (.val ((eU (eU eI)) heights)) thing T Hw_7
  try push_cast [DR.bind_ok] at Kw_7
  rcases iteB_inv H with ⟨C_8, H⟩ | ⟨C_8, H⟩
  · -- +
    obtain rfl := Option.some.inj H
    (push_cast [F_is_line, b_is_line, Kr_1, Kw_7, C_8, Nat.reduceAdd, Nat.reduceSub, Nat.reduceLT, Nat.reduceLeDiff, Int.reduceLT, Int.reduceLE, Int.reduceNeg, Int.reducePow, Int.reduceToNat]; try with_reducible rfl)
  · -- -
    obtain ⟨y_12, Hy_12, H⟩ := Option.bind_eq_some_iff.mp H
    have K_13 : (seqI (nameE 3)) ⟨[.val (eI high), .val (eI wide), .val ((eU (eU eI)) heights), .val ((eU (eP2 eI eI)) thing), .no, .no, .no, .no, .no], T⟩ = .ok (thing.map (eP2 eI eI)) ⟨[.val (eI high), .val (eI wide), .val ((eU (eU eI)) heights), .val ((eU (eP2 eI eI)) thing), .no, .no, .no, .no, .no], T⟩ := by (push_cast [Kr_1, Kw_7, C_8, Nat.reduceAdd, Nat.reduceSub, Nat.reduceLT, Nat.reduceLeDiff, Int.reduceLT, Int.reduceLE, Int.reduceNeg, Int.reducePow, Int.reduceToNat]; try with_reducible rfl)
    have Ky_12 := c1_is_line_ok high wide (.val ((eU (eU eI)) heights)) thing T thing K_13 Hy_12
    try push_cast [DR.bind_ok] at Ky_12
    rcases iteB_inv H with ⟨C_14, H⟩ | ⟨C_14, H⟩
    · -- +
      obtain rfl := Option.some.inj H
      (push_cast [F_is_line, b_is_line, Kr_1, Kw_7, C_8, Ky_12, C_14, Nat.reduceAdd, Nat.reduceSub, Nat.reduceLT, Nat.reduceLeDiff, Int.reduceLT, Int.reduceLE, Int.reduceNeg, Int.reducePow, Int.reduceToNat]; try with_reducible rfl)
    · -- -
      obtain ⟨w_22, Hw_22, H⟩ := Option.bind_eq_some_iff.mp H
      have Kw_22 := x2_is_line_ok (.val (eI high)) (.val (eI wide)) heights thing T Hw_22
      try push_cast [DR.bind_ok] at Kw_22
      rcases iteB_inv H with ⟨C_23, H⟩ | ⟨C_23, H⟩
      · -- +
        obtain rfl := Option.some.inj H
        (push_cast [F_is_line, b_is_line, Kr_1, Kw_7, C_8, Ky_12, C_14, Kw_22, C_23, Nat.reduceAdd, Nat.reduceSub, Nat.reduceLT, Nat.reduceLeDiff, Int.reduceLT, Int.reduceLE, Int.reduceNeg, Int.reducePow, Int.reduceToNat]; try with_reducible rfl)
      · -- -
        obtain ⟨w_27, Hw_27, H⟩ := Option.bind_eq_some_iff.mp H
        have Kw_27 := x3_is_line_ok (.val (eI high)) wide (.val ((eU (eU eI)) heights)) thing T Hw_27
        try push_cast [DR.bind_ok] at Kw_27
        rcases iteB_inv H with ⟨C_28, H⟩ | ⟨C_28, H⟩
        · -- +
          obtain rfl := Option.some.inj H
          (push_cast [F_is_line, b_is_line, Kr_1, Kw_7, C_8, Ky_12, C_14, Kw_22, C_23, Kw_27, C_28, Nat.reduceAdd, Nat.reduceSub, Nat.reduceLT, Nat.reduceLeDiff, Int.reduceLT, Int.reduceLE, Int.reduceNeg, Int.reducePow, Int.reduceToNat]; try with_reducible rfl)
        · -- -
          have K_29 : cutG (.tup false (List.map (eP2 eI eI) thing)) (some 1) none = some ((.tup false (List.map (eP2 eI eI) (cutT thing (some 1) none))), false) := cutG_U false (eP2 eI eI) thing _ _
          have K_30 := zipP_t (eP2 eI eI) (eP2 eI eI) thing (cutT thing (some 1) none)
          obtain ⟨y_33, Hy_33, H⟩ := Option.bind_eq_some_iff.mp H
          have K_34 : (zipI (nameE 3) (plainE (cutN 3 (someQ (constE (.int 1))) noQ))) ⟨[.val (eI high), .val (eI wide), .val ((eU (eU eI)) heights), .val ((eU (eP2 eI eI)) thing), .no, .no, .no, .no, .no], T⟩ = .ok ((List.zip thing (cutT thing (some 1) none)).map (eP2 (eP2 eI eI) (eP2 eI eI))) ⟨[.val (eI high), .val (eI wide), .val ((eU (eU eI)) heights), .val ((eU (eP2 eI eI)) thing), .no, .no, .no, .no, .no], T⟩ := by (push_cast [Kr_1, Kw_7, C_8, Ky_12, C_14, Kw_22, C_23, Kw_27, C_28, K_29, K_30, Nat.reduceAdd, Nat.reduceSub, Nat.reduceLT, Nat.reduceLeDiff, Int.reduceLT, Int.reduceLE, Int.reduceNeg, Int.reducePow, Int.reduceToNat]; try with_reducible rfl)
          have Ky_33 := c3_is_line_ok high wide (.val ((eU (eU eI)) heights)) thing T (List.zip thing (cutT thing (some 1) none)) K_34 Hy_33
          try push_cast [DR.bind_ok] at Ky_33
          obtain rfl := Option.some.inj H
          (push_cast [F_is_line, b_is_line, Kr_1, Kw_7, C_8, Ky_12, C_14, Kw_22, C_23, Kw_27, C_28, K_29, K_30, Ky_33, Nat.reduceAdd, Nat.reduceSub, Nat.reduceLT, Nat.reduceLeDiff, Int.reduceLT, Int.reduceLE, Int.reduceNeg, Int.reducePow, Int.reduceToNat]; try with_reducible rfl)
def m__law_about (one : Int × Int) (other : Int × Int) : Bool :=
  (decide ((max (iabs (one.1 - other.1)) (iabs (one.2 - other.2))) = 1))
theorem w__law_about (one : Int × Int) (other : Int × Int) (T : DT) {V : Bool} (H : m__law_about one other = V) : F__law_about [(eP2 eI eI) one, (eP2 eI eI) other] T = .ok (eB V) false T := by
  unfold m__law_about at H
  subst H
  (push_cast [F__law_about, b__law_about, Nat.reduceAdd, Nat.reduceSub, Nat.reduceLT, Nat.reduceLeDiff, Int.reduceLT, Int.reduceLE, Int.reduceNeg, Int.reducePow, Int.reduceToNat]; try with_reducible rfl)
def x0_both_noughts (one : List (List Int)) (other : List (List Int)) (a : Int) (b : Int) : Option Bool :=
  (idx one a).bind fun v_5 =>
  (idx v_5 b).bind fun v_6 =>
  if v_6 = 0 then
    (idx other a).bind fun v_8 =>
    (idx v_8 b).bind fun v_9 =>
    some (decide (v_9 = 0))
  else
  some false
theorem x0_both_noughts_ok (Z0 : Sl) (Z1 : Sl) (one : List (List Int)) (other : List (List Int)) (a : Int) (b : Int) (T : DT) {W : Bool} (H : x0_both_noughts one other a b = some W) : te0_both_noughts ⟨[Z0, Z1, .val ((eU (eU eI)) one), .val ((eU (eU eI)) other), .val (eI a), .val (eI b)], T⟩ = .ok W ⟨[Z0, Z1, .val ((eU (eU eI)) one), .val ((eU (eU eI)) other), .val (eI a), .val (eI b)], T⟩ := by
  unfold x0_both_noughts at H
  obtain ⟨v_5, Hv_5, H⟩ := Option.bind_eq_some_iff.mp H
  have Kv_5 : ixG (.tup false (List.map (eU eI) one)) (.int a) = some (.tup false (List.map eI v_5)) := by
    have := ixG_U false (eU eI) one a
    rw [Hv_5] at this
    exact this
  obtain ⟨v_6, Hv_6, H⟩ := Option.bind_eq_some_iff.mp H
  have Kv_6 : ixG (.tup false (List.map eI v_5)) (.int b) = some (.int v_6) := by
    have := ixG_U false eI v_5 b
    rw [Hv_6] at this
    exact this
  rcases ite_inv H with ⟨C_7, H⟩ | ⟨C_7, H⟩
  · -- +
    replace C_7 := decide_eq_true C_7
    obtain ⟨v_8, Hv_8, H⟩ := Option.bind_eq_some_iff.mp H
    have Kv_8 : ixG (.tup false (List.map (eU eI) other)) (.int a) = some (.tup false (List.map eI v_8)) := by
      have := ixG_U false (eU eI) other a
      rw [Hv_8] at this
      exact this
    obtain ⟨v_9, Hv_9, H⟩ := Option.bind_eq_some_iff.mp H
    have Kv_9 : ixG (.tup false (List.map eI v_8)) (.int b) = some (.int v_9) := by
      have := ixG_U false eI v_8 b
      rw [Hv_9] at this
      exact this
    obtain rfl := Option.some.inj H
    (push_cast [te0_both_noughts, Kv_5, Kv_6, C_7, Kv_8, Kv_9, Nat.reduceAdd, Nat.reduceSub, Nat.reduceLT, Nat.reduceLeDiff, Int.reduceLT, Int.reduceLE, Int.reduceNeg, Int.reducePow, Int.reduceToNat]; try with_reducible rfl)
  · -- -
    replace C_7 := decide_eq_false C_7
    obtain rfl := Option.some.inj H
    (push_cast [te0_both_noughts, Kv_5, Kv_6, C_7, Nat.reduceAdd, Nat.reduceSub, Nat.reduceLT, Nat.reduceLeDiff, Int.reduceLT, Int.reduceLE, Int.reduceNeg, Int.reducePow, Int.reduceToNat]; try with_reducible rfl)
def a0_both_noughts (high : Int) (wide : Int) (one : List (List Int)) (other : List (List Int)) (Y0 : Int) : Option (Option (List Int)) :=
  (rngO 0 wide).bind fun g_4 =>
  some (some g_4)
def b0_both_noughts (high : Int) (wide : Int) (one : List (List Int)) (other : List (List Int)) (Y0 : Int) (Z0y : Int) : Option (Option (Int × Int)) :=
  (x0_both_noughts one other Y0 Z0y).bind fun w_10 =>
  if w_10 = true then
    some (some (Y0, Z0y))
  else
  some none
theorem c0_both_noughts_in (high : Int) (wide : Int) (one : List (List Int)) (other : List (List Int)) (T : DT) (Y0 : Int) (Z0y : Int) {V : Option (Int × Int)} (H : b0_both_noughts high wide one other Y0 Z0y = some V) : ItemOk te0_both_noughts (tupE (consA (nameE 4) (consA (nameE 5) nilA))) [5] (wipeE [5] [.val (eI high), .val (eI wide), .val ((eU (eU eI)) one), .val ((eU (eU eI)) other), .val (eI Y0), .no]) (eP2 eI eI) ⟨[.val (eI high), .val (eI wide), .val ((eU (eU eI)) one), .val ((eU (eU eI)) other), .val (eI Y0), .val (eI Z0y)], T⟩ T V := by
  unfold b0_both_noughts at H
  obtain ⟨w_10, Hw_10, H⟩ := Option.bind_eq_some_iff.mp H
  have Kw_10 := x0_both_noughts_ok (.val (eI high)) (.val (eI wide)) one other Y0 Z0y T Hw_10
  try push_cast [DR.bind_ok] at Kw_10
  rcases iteB_inv H with ⟨C_11, H⟩ | ⟨C_11, H⟩
  · -- +
    obtain rfl := Option.some.inj H
    refine ⟨⟨[.val (eI high), .val (eI wide), .val ((eU (eU eI)) one), .val ((eU (eU eI)) other), .val (eI Y0), .val (eI Z0y)], T⟩, ⟨[.val (eI high), .val (eI wide), .val ((eU (eU eI)) one), .val ((eU (eU eI)) other), .val (eI Y0), .val (eI Z0y)], T⟩, ?_, ?_, rfl, rfl⟩
    · (push_cast [Kw_10, C_11, Nat.reduceAdd, Nat.reduceSub, Nat.reduceLT, Nat.reduceLeDiff, Int.reduceLT, Int.reduceLE, Int.reduceNeg, Int.reducePow, Int.reduceToNat]; try with_reducible rfl)
    · (push_cast [Kw_10, C_11, Nat.reduceAdd, Nat.reduceSub, Nat.reduceLT, Nat.reduceLeDiff, Int.reduceLT, Int.reduceLE, Int.reduceNeg, Int.reducePow, Int.reduceToNat]; try with_reducible rfl)
  · -- -
    obtain rfl := Option.some.inj H
    refine ⟨⟨[.val (eI high), .val (eI wide), .val ((eU (eU eI)) one), .val ((eU (eU eI)) other), .val (eI Y0), .val (eI Z0y)], T⟩, ?_, rfl, rfl⟩
    (push_cast [Kw_10, C_11, Nat.reduceAdd, Nat.reduceSub, Nat.reduceLT, Nat.reduceLeDiff, Int.reduceLT, Int.reduceLE, Int.reduceNeg, Int.reducePow, Int.reduceToNat]; try with_reducible rfl)
theorem c0_both_noughts_ok (high : Int) (wide : Int) (one : List (List Int)) (other : List (List Int)) (T : DT) (XS : List Int) (HX : (range1I (nameE 0)) ⟨[.val (eI high), .val (eI wide), .val ((eU (eU eI)) one), .val ((eU (eU eI)) other), .no, .no], T⟩ = .ok (XS.map eI) ⟨[.val (eI high), .val (eI wide), .val ((eU (eU eI)) one), .val ((eU (eU eI)) other), .no, .no], T⟩) {Y : List (Int × Int)} (H : comp2O (a0_both_noughts high wide one other) (b0_both_noughts high wide one other) XS = some Y) : cp0_both_noughts ⟨[.val (eI high), .val (eI wide), .val ((eU (eU eI)) one), .val ((eU (eU eI)) other), .no, .no], T⟩ = .ok (.lst (Y.map (eP2 eI eI)), true) ⟨[.val (eI high), .val (eI wide), .val ((eU (eU eI)) one), .val ((eU (eU eI)) other), .no, .no], T⟩ := by
  refine (lc2O_O (E := eI) (E1 := eI) (F := (eP2 eI eI)) (c := a0_both_noughts high wide one other) (f := b0_both_noughts high wide one other) HX H (by decide) fun Y0 V H => ⟨[.val (eI high), .val (eI wide), .val ((eU (eU eI)) one), .val ((eU (eU eI)) other), .val (eI Y0), .no], rfl, ?_⟩).trans (by rfl)
  unfold a0_both_noughts at H
  obtain ⟨g_4, Hg_4, H⟩ := Option.bind_eq_some_iff.mp H
  obtain rfl := Option.some.inj H
  refine ⟨⟨[.val (eI high), .val (eI wide), .val ((eU (eU eI)) one), .val ((eU (eU eI)) other), .val (eI Y0), .no], T⟩, [.val (eI high), .val (eI wide), .val ((eU (eU eI)) one), .val ((eU (eU eI)) other), .val (eI Y0), .no], ?_, ?_, rfl, fun Z0y V2 H => ?_⟩
  · (push_cast [Hg_4, Nat.reduceAdd, Nat.reduceSub, Nat.reduceLT, Nat.reduceLeDiff, Int.reduceLT, Int.reduceLE, Int.reduceNeg, Int.reducePow, Int.reduceToNat]; try with_reducible rfl)
  · (push_cast [Hg_4, Nat.reduceAdd, Nat.reduceSub, Nat.reduceLT, Nat.reduceLeDiff, Int.reduceLT, Int.reduceLE, Int.reduceNeg, Int.reducePow, Int.reduceToNat]; try with_reducible rfl)
  · exact ⟨[.val (eI high), .val (eI wide), .val ((eU (eU eI)) one), .val ((eU (eU eI)) other), .val (eI Y0), .val (eI Z0y)], rfl, c0_both_noughts_in high wide one other T Y0 Z0y H⟩
def m_both_noughts (high : Int) (wide : Int) (one : List (List Int)) (other : List (List Int)) : Option (List (Int × Int)) :=
  (m_check_heights_1 high wide one).bind fun r_1 =>
  (m_check_heights_1 high wide other).bind fun r_2 =>
  (rngO 0 high).bind fun g_3 =>
  (comp2O (a0_both_noughts high wide one other) (b0_both_noughts high wide one other) g_3).bind fun y_12 =>
  some y_12
theorem w_both_noughts (high : Int) (wide : Int) (one : List (List Int)) (other : List (List Int)) (T : DT) {V : (List (Int × Int))} (H : m_both_noughts high wide one other = some V) : F_both_noughts [eI high, eI wide, (eU (eU eI)) one, (eU (eU eI)) other] T = .ok ((eL (eP2 eI eI)) V) true T := by
  unfold m_both_noughts at H
  obtain ⟨r_1, Hr_1, H⟩ := Option.bind_eq_some_iff.mp H
  have Kr_1 : F_check_heights [(.int high), (.int wide), (.tup false (List.map (eU eI) one))] T = .ok .non false T := w_check_heights_1 high wide one T Hr_1
  obtain ⟨r_2, Hr_2, H⟩ := Option.bind_eq_some_iff.mp H
  have Kr_2 : F_check_heights [(.int high), (.int wide), (.tup false (List.map (eU eI) other))] T = .ok .non false T := w_check_heights_1 high wide other T Hr_2
  obtain ⟨g_3, Hg_3, H⟩ := Option.bind_eq_some_iff.mp H
  obtain ⟨y_12, Hy_12, H⟩ := Option.bind_eq_some_iff.mp H
  have K_13 : (range1I (nameE 0)) ⟨[.val (eI high), .val (eI wide), .val ((eU (eU eI)) one), .val ((eU (eU eI)) other), .no, .no], T⟩ = .ok (g_3.map eI) ⟨[.val (eI high), .val (eI wide), .val ((eU (eU eI)) one), .val ((eU (eU eI)) other), .no, .no], T⟩ := by (push_cast [Kr_1, Kr_2, Hg_3, Nat.reduceAdd, Nat.reduceSub, Nat.reduceLT, Nat.reduceLeDiff, Int.reduceLT, Int.reduceLE, Int.reduceNeg, Int.reducePow, Int.reduceToNat]; try with_reducible rfl)
  have Ky_12 := c0_both_noughts_ok high wide one other T g_3 K_13 Hy_12
  try push_cast [DR.bind_ok] at Ky_12
  obtain rfl := Option.some.inj H
  (push_cast [F_both_noughts, b_both_noughts, Kr_1, Kr_2, Hg_3, Ky_12, Nat.reduceAdd, Nat.reduceSub, Nat.reduceLT, Nat.reduceLeDiff, Int.reduceLT, Int.reduceLE, Int.reduceNeg, Int.reducePow, Int.reduceToNat]; try with_reducible rfl)
def x0_common (one : List (List Int)) (other : List (List Int)) : Option Bool :=
  (m_is_up_down_1 one).bind fun r_3 =>
  if (!r_3) = true then
    some true
  else
  (m_is_left_right other).bind fun r_5 =>
  some (!r_5)
theorem x0_common_ok (Z0 : Sl) (Z1 : Sl) (one : List (List Int)) (other : List (List Int)) (T : DT) {W : Bool} (H : x0_common one other = some W) : te0_common ⟨[Z0, Z1, .val ((eU (eU eI)) one), .val ((eU (eU eI)) other)], T⟩ = .ok W ⟨[Z0, Z1, .val ((eU (eU eI)) one), .val ((eU (eU eI)) other)], T⟩ := by
  unfold x0_common at H
  obtain ⟨r_3, Hr_3, H⟩ := Option.bind_eq_some_iff.mp H
  have Kr_3 : F_is_up_down [(.tup false (List.map (eU eI) one))] T = .ok (.bl r_3) false T := w_is_up_down_1 one T Hr_3
  rcases iteB_inv H with ⟨C_4, H⟩ | ⟨C_4, H⟩
  · -- +
    obtain rfl := Option.some.inj H
    (push_cast [te0_common, Kr_3, C_4, Nat.reduceAdd, Nat.reduceSub, Nat.reduceLT, Nat.reduceLeDiff, Int.reduceLT, Int.reduceLE, Int.reduceNeg, Int.reducePow, Int.reduceToNat]; try with_reducible rfl)
  · -- -
    obtain ⟨r_5, Hr_5, H⟩ := Option.bind_eq_some_iff.mp H
    have Kr_5 : F_is_left_right [(.tup false (List.map (eU eI) other))] T = .ok (.bl r_5) false T := w_is_left_right other T Hr_5
    obtain rfl := Option.some.inj H
    (push_cast [te0_common, Kr_3, C_4, Kr_5, Nat.reduceAdd, Nat.reduceSub, Nat.reduceLT, Nat.reduceLeDiff, Int.reduceLT, Int.reduceLE, Int.reduceNeg, Int.reducePow, Int.reduceToNat]; try with_reducible rfl)
def m_common (high : Int) (wide : Int) (one : List (List Int)) (other : List (List Int)) : Option (Int × Int) :=
  (m_check_heights_1 high wide one).bind fun r_1 =>
  (m_check_heights_1 high wide other).bind fun r_2 =>
  (x0_common one other).bind fun w_6 =>
  if w_6 = true then
    none
  else
  (m_both_noughts high wide one other).bind fun r_8 =>
  (idx r_8 0).bind fun v_9 =>
  some v_9
theorem w_common (high : Int) (wide : Int) (one : List (List Int)) (other : List (List Int)) (T : DT) {V : (Int × Int)} (H : m_common high wide one other = some V) : F_common [eI high, eI wide, (eU (eU eI)) one, (eU (eU eI)) other] T = .ok ((eP2 eI eI) V) false T := by
  unfold m_common at H
  obtain ⟨r_1, Hr_1, H⟩ := Option.bind_eq_some_iff.mp H
  have Kr_1 : F_check_heights [(.int high), (.int wide), (.tup false (List.map (eU eI) one))] T = .ok .non false T := w_check_heights_1 high wide one T Hr_1
  obtain ⟨r_2, Hr_2, H⟩ := Option.bind_eq_some_iff.mp H
  have Kr_2 : F_check_heights [(.int high), (.int wide), (.tup false (List.map (eU eI) other))] T = .ok .non false T := w_check_heights_1 high wide other T Hr_2
  obtain ⟨w_6, Hw_6, H⟩ := Option.bind_eq_some_iff.mp H
  have Kw_6 := x0_common_ok (.val (eI high)) (.val (eI wide)) one other T Hw_6
  try push_cast [DR.bind_ok] at Kw_6
  rcases iteB_inv H with ⟨C_7, H⟩ | ⟨C_7, H⟩
  · -- +
    cases H
  · -- -
    obtain ⟨r_8, Hr_8, H⟩ := Option.bind_eq_some_iff.mp H
    have Kr_8 : F_both_noughts [(.int high), (.int wide), (.tup false (List.map (eU eI) one)), (.tup false (List.map (eU eI) other))] T = .ok (.lst (List.map (eP2 eI eI) r_8)) true T := w_both_noughts high wide one other T Hr_8
    obtain ⟨v_9, Hv_9, H⟩ := Option.bind_eq_some_iff.mp H
    have Kv_9 : ixG (.lst (List.map (eP2 eI eI) r_8)) (.int 0) = some (.tup false [(.int v_9.1), (.int v_9.2)]) := by
      have := ixG_L (eP2 eI eI) r_8 0
      rw [Hv_9] at this
      exact this
    obtain rfl := Option.some.inj H
    (push_cast [F_common, b_common, Kr_1, Kr_2, Kw_6, C_7, Kr_8, Kv_9, Nat.reduceAdd, Nat.reduceSub, Nat.reduceLT, Nat.reduceLeDiff, Int.reduceLT, Int.reduceLE, Int.reduceNeg, Int.reducePow, Int.reduceToNat]; try with_reducible rfl)
theorem c1_backed_ok (Z0 : Sl) (Z1 : Sl) (Z2 : Sl) (row : List Int) (T : DT) (XS : List Int) (HX : (seqI (nameE 3)) ⟨[Z0, Z1, Z2, .val ((eU eI) row), .no], T⟩ = .ok (XS.map eI) ⟨[Z0, Z1, Z2, .val ((eU eI) row), .no], T⟩) {Y : List Int} (H : lenO (XS.map fun Y1 => (-Y1)) = some Y) : cp0_backed ⟨[Z0, Z1, Z2, .val ((eU eI) row), .no], T⟩ = .ok (.lst (Y.map eI), true) ⟨[Z0, Z1, Z2, .val ((eU eI) row), .no], T⟩ := by
  refine (lcO_Q (E := eI) (F := eI) (g := fun Y1 => (-Y1)) HX H fun Y1 => ⟨[Z0, Z1, Z2, .val ((eU eI) row), .val (eI Y1)], rfl, ⟨[Z0, Z1, Z2, .val ((eU eI) row), .val (eI Y1)], T⟩, ?_, rfl, rfl⟩).trans (by rfl)
  (push_cast [bind_ok, t_and, t_or, e_and, e_or, i_andT, i_orT, i_andE, i_orE, i_int, k_if, k_ch3, Nat.reduceAdd, Nat.reduceSub, Nat.reduceLT, Nat.reduceLeDiff, Int.reduceLT, Int.reduceLE, Int.reduceNeg, Int.reducePow, Int.reduceToNat]; try with_reducible rfl)
def b0_backed (heights : List (List Int)) (Y0 : List Int) : Option (List Int) :=
  (lenO (Y0.map fun Y1 => (-Y1))).bind fun y_2 =>
  some y_2
theorem c0_backed_ok (Z0 : Sl) (Z1 : Sl) (heights : List (List Int)) (T : DT) (XS : List (List Int)) (HX : (seqI (plainE (un1O revA (nameB 2)))) ⟨[Z0, Z1, .val ((eU (eU eI)) heights), .no, .no], T⟩ = .ok (XS.map (eU eI)) ⟨[Z0, Z1, .val ((eU (eU eI)) heights), .no, .no], T⟩) {Y : List (List Int)} (H : compM (b0_backed heights) XS = some Y) : cp1_backed ⟨[Z0, Z1, .val ((eU (eU eI)) heights), .no, .no], T⟩ = .ok (.lst (Y.map (eU eI)), true) ⟨[Z0, Z1, .val ((eU (eU eI)) heights), .no, .no], T⟩ := by
  refine (lcO_M (E := (eU eI)) (F := (eU eI)) (f := b0_backed heights) HX H fun Y0 V H => ⟨[Z0, Z1, .val ((eU (eU eI)) heights), .val ((eU eI) Y0), .no], rfl, ?_⟩).trans (by rfl)
  unfold b0_backed at H
  obtain ⟨y_2, Hy_2, H⟩ := Option.bind_eq_some_iff.mp H
  have K_3 : (seqI (nameE 3)) ⟨[Z0, Z1, .val ((eU (eU eI)) heights), .val ((eU eI) Y0), .no], T⟩ = .ok (Y0.map eI) ⟨[Z0, Z1, .val ((eU (eU eI)) heights), .val ((eU eI) Y0), .no], T⟩ := by (push_cast [bind_ok, Nat.reduceAdd, Nat.reduceSub, Nat.reduceLT, Nat.reduceLeDiff, Int.reduceLT, Int.reduceLE, Int.reduceNeg, Int.reducePow, Int.reduceToNat]; try with_reducible rfl)
  have Ky_2 := c1_backed_ok Z0 Z1 (.val ((eU (eU eI)) heights)) Y0 T Y0 K_3 Hy_2
  try push_cast [DR.bind_ok] at Ky_2
  obtain rfl := Option.some.inj H
  refine ⟨⟨[Z0, Z1, .val ((eU (eU eI)) heights), .val ((eU eI) Y0), .no], T⟩, ?_, rfl, rfl⟩
  (push_cast [Ky_2, Nat.reduceAdd, Nat.reduceSub, Nat.reduceLT, Nat.reduceLeDiff, Int.reduceLT, Int.reduceLE, Int.reduceNeg, Int.reducePow, Int.reduceToNat]; try with_reducible rfl)
def m_backed (high : Int) (wide : Int) (heights : List (List Int)) : Option (List (List Int)) :=
  (m_check_heights_1 high wide heights).bind fun r_1 =>
  (compM (b0_backed heights) heights.reverse).bind fun y_4 =>
  some y_4
theorem w_backed (high : Int) (wide : Int) (heights : List (List Int)) (T : DT) {V : (List (List Int))} (H : m_backed high wide heights = some V) : F_backed [eI high, eI wide, (eU (eU eI)) heights] T = .ok ((eU (eU eI)) V) false T := by
  unfold m_backed at H
  obtain ⟨r_1, Hr_1, H⟩ := Option.bind_eq_some_iff.mp H
  have Kr_1 : F_check_heights [(.int high), (.int wide), (.tup false (List.map (eU eI) heights))] T = .ok .non false T := w_check_heights_1 high wide heights T Hr_1
  obtain ⟨y_4, Hy_4, H⟩ := Option.bind_eq_some_iff.mp H
  have K_5 : (seqI (plainE (un1O revA (nameB 2)))) ⟨[.val (eI high), .val (eI wide), .val ((eU (eU eI)) heights), .no, .no], T⟩ = .ok (heights.reverse.map (eU eI)) ⟨[.val (eI high), .val (eI wide), .val ((eU (eU eI)) heights), .no, .no], T⟩ := by (push_cast [Kr_1, Nat.reduceAdd, Nat.reduceSub, Nat.reduceLT, Nat.reduceLeDiff, Int.reduceLT, Int.reduceLE, Int.reduceNeg, Int.reducePow, Int.reduceToNat]; try with_reducible rfl)
  have Ky_4 := c0_backed_ok (.val (eI high)) (.val (eI wide)) heights T heights.reverse K_5 Hy_4
  try push_cast [DR.bind_ok] at Ky_4
  obtain rfl := Option.some.inj H
  (push_cast [F_backed, b_backed, Kr_1, Ky_4, Nat.reduceAdd, Nat.reduceSub, Nat.reduceLT, Nat.reduceLeDiff, Int.reduceLT, Int.reduceLE, Int.reduceNeg, Int.reducePow, Int.reduceToNat]; try with_reducible rfl)
def x0__law_held_right (one : List (List Int)) (other : List (List Int)) : Option Bool :=
  (m_is_up_down_1 one).bind fun r_6 =>
  if r_6 = true then
    (m_is_left_right other).bind fun r_8 =>
    some (!decide (r_8 = true))
  else
  some true
theorem x0__law_held_right_ok (Z1 : Sl) (Z2 : Sl) (one : List (List Int)) (other : List (List Int)) (T : DT) {W : Bool} (H : x0__law_held_right one other = some W) : te0__law_held_right ⟨[.val (.cell 0), Z1, Z2, .val ((eU (eU eI)) one), .val ((eU (eU eI)) other), .no, .no, .no, .no, .no, .no], T⟩ = .ok W ⟨[.val (.cell 0), Z1, Z2, .val ((eU (eU eI)) one), .val ((eU (eU eI)) other), .no, .no, .no, .no, .no, .no], T⟩ := by
  unfold x0__law_held_right at H
  obtain ⟨r_6, Hr_6, H⟩ := Option.bind_eq_some_iff.mp H
  have Kr_6 : F_is_up_down [(.tup false (List.map (eU eI) one))] T = .ok (.bl r_6) false T := w_is_up_down_1 one T Hr_6
  rcases ite_inv H with ⟨C_7, H⟩ | ⟨C_7, H⟩
  · -- +
    replace C_7 := decide_eq_true C_7
    obtain ⟨r_8, Hr_8, H⟩ := Option.bind_eq_some_iff.mp H
    have Kr_8 : F_is_left_right [(.tup false (List.map (eU eI) other))] T = .ok (.bl r_8) false T := w_is_left_right other T Hr_8
    obtain rfl := Option.some.inj H
    (push_cast [te0__law_held_right, Kr_6, C_7, Kr_8, Nat.reduceAdd, Nat.reduceSub, Nat.reduceLT, Nat.reduceLeDiff, Int.reduceLT, Int.reduceLE, Int.reduceNeg, Int.reducePow, Int.reduceToNat]; try with_reducible rfl)
  · -- -
    replace C_7 := decide_eq_false C_7
    obtain rfl := Option.some.inj H
    (push_cast [te0__law_held_right, Kr_6, C_7, Nat.reduceAdd, Nat.reduceSub, Nat.reduceLT, Nat.reduceLeDiff, Int.reduceLT, Int.reduceLE, Int.reduceNeg, Int.reducePow, Int.reduceToNat]; try with_reducible rfl)
def x1__law_held_right (high : Int) (wide : Int) (one : List (List Int)) (line : List (Int × Int)) : Option Bool :=
  (m_is_line high wide one line).bind fun r_12 =>
  if r_12 = true then
    (idx line 0).bind fun v_14 =>
    if v_14.2 = 0 then
      (idx line (-1)).bind fun v_16 =>
      some (!decide (v_16.2 = (wide - 1)))
    else
    some true
  else
  some true
theorem x1__law_held_right_ok (high : Int) (wide : Int) (one : List (List Int)) (Z4 : Sl) (line : List (Int × Int)) (T : DT) {W : Bool} (H : x1__law_held_right high wide one line = some W) : te1__law_held_right ⟨[.val (.cell 0), .val (eI high), .val (eI wide), .val ((eU (eU eI)) one), Z4, .val ((eU (eP2 eI eI)) line), .no, .no, .no, .no, .no], T⟩ = .ok W ⟨[.val (.cell 0), .val (eI high), .val (eI wide), .val ((eU (eU eI)) one), Z4, .val ((eU (eP2 eI eI)) line), .no, .no, .no, .no, .no], T⟩ := by
  unfold x1__law_held_right at H
  obtain ⟨r_12, Hr_12, H⟩ := Option.bind_eq_some_iff.mp H
  have Kr_12 : F_is_line [(.int high), (.int wide), (.tup false (List.map (eU eI) one)), (.tup false (List.map (eP2 eI eI) line))] T = .ok (.bl r_12) false T := w_is_line high wide one line T Hr_12
  rcases ite_inv H with ⟨C_13, H⟩ | ⟨C_13, H⟩
  · -- +
    replace C_13 := decide_eq_true C_13
    obtain ⟨v_14, Hv_14, H⟩ := Option.bind_eq_some_iff.mp H
    have Kv_14 : ixG (.tup false (List.map (eP2 eI eI) line)) (.int 0) = some (.tup false [(.int v_14.1), (.int v_14.2)]) := by
      have := ixG_U false (eP2 eI eI) line 0
      rw [Hv_14] at this
      exact this
    rcases ite_inv H with ⟨C_15, H⟩ | ⟨C_15, H⟩
    · -- +
      replace C_15 := decide_eq_true C_15
      obtain ⟨v_16, Hv_16, H⟩ := Option.bind_eq_some_iff.mp H
      have Kv_16 : ixG (.tup false (List.map (eP2 eI eI) line)) (.int (-1)) = some (.tup false [(.int v_16.1), (.int v_16.2)]) := by
        have := ixG_U false (eP2 eI eI) line (-1)
        rw [Hv_16] at this
        exact this
      obtain rfl := Option.some.inj H
      (push_cast [te1__law_held_right, Kr_12, C_13, Kv_14, C_15, Kv_16, Nat.reduceAdd, Nat.reduceSub, Nat.reduceLT, Nat.reduceLeDiff, Int.reduceLT, Int.reduceLE, Int.reduceNeg, Int.reducePow, Int.reduceToNat]; try with_reducible rfl)
    · -- -
      replace C_15 := decide_eq_false C_15
      obtain rfl := Option.some.inj H
      (push_cast [te1__law_held_right, Kr_12, C_13, Kv_14, C_15, Nat.reduceAdd, Nat.reduceSub, Nat.reduceLT, Nat.reduceLeDiff, Int.reduceLT, Int.reduceLE, Int.reduceNeg, Int.reducePow, Int.reduceToNat]; try with_reducible rfl)
  · -- -
    replace C_13 := decide_eq_false C_13
    obtain rfl := Option.some.inj H
    (push_cast [te1__law_held_right, Kr_12, C_13, Nat.reduceAdd, Nat.reduceSub, Nat.reduceLT, Nat.reduceLeDiff, Int.reduceLT, Int.reduceLE, Int.reduceNeg, Int.reducePow, Int.reduceToNat]; try with_reducible rfl)
def b0__law_held_right (one : List (List Int)) (line : List (Int × Int)) (Y0 : Int × Int) : Option Bool :=
  (idx one Y0.1).bind fun v_19 =>
  (idx v_19 Y0.2).bind fun v_20 =>
  some (!decide (v_20 = 0))
theorem c0__law_held_right_ok (Z1 : Sl) (Z2 : Sl) (one : List (List Int)) (Z4 : Sl) (line : List (Int × Int)) (T : DT) (XS : List (Int × Int)) (HX : (seqI (nameE 5)) ⟨[.val (.cell 0), Z1, Z2, .val ((eU (eU eI)) one), Z4, .val ((eU (eP2 eI eI)) line), .no, .no, .no, .no, .no], T⟩ = .ok (XS.map (eP2 eI eI)) ⟨[.val (.cell 0), Z1, Z2, .val ((eU (eU eI)) one), Z4, .val ((eU (eP2 eI eI)) line), .no, .no, .no, .no, .no], T⟩) {Y : List Bool} (H : compM (b0__law_held_right one line) XS = some Y) : cp0__law_held_right ⟨[.val (.cell 0), Z1, Z2, .val ((eU (eU eI)) one), Z4, .val ((eU (eP2 eI eI)) line), .no, .no, .no, .no, .no], T⟩ = .ok (.lst (Y.map eB), true) ⟨[.val (.cell 0), Z1, Z2, .val ((eU (eU eI)) one), Z4, .val ((eU (eP2 eI eI)) line), .no, .no, .no, .no, .no], T⟩ := by
  refine (lcO_M (E := (eP2 eI eI)) (F := eB) (f := b0__law_held_right one line) HX H fun Y0 V H => ⟨[.val (.cell 0), Z1, Z2, .val ((eU (eU eI)) one), Z4, .val ((eU (eP2 eI eI)) line), .no, .val (eI Y0.1), .val (eI Y0.2), .no, .no], rfl, ?_⟩).trans (by rfl)
  unfold b0__law_held_right at H
  obtain ⟨v_19, Hv_19, H⟩ := Option.bind_eq_some_iff.mp H
  have Kv_19 : ixG (.tup false (List.map (eU eI) one)) (.int Y0.1) = some (.tup false (List.map eI v_19)) := by
    have := ixG_U false (eU eI) one Y0.1
    rw [Hv_19] at this
    exact this
  obtain ⟨v_20, Hv_20, H⟩ := Option.bind_eq_some_iff.mp H
  have Kv_20 : ixG (.tup false (List.map eI v_19)) (.int Y0.2) = some (.int v_20) := by
    have := ixG_U false eI v_19 Y0.2
    rw [Hv_20] at this
    exact this
  obtain rfl := Option.some.inj H
  refine ⟨⟨[.val (.cell 0), Z1, Z2, .val ((eU (eU eI)) one), Z4, .val ((eU (eP2 eI eI)) line), .no, .val (eI Y0.1), .val (eI Y0.2), .no, .no], T⟩, ?_, rfl, rfl⟩
  (push_cast [Kv_19, Kv_20, Nat.reduceAdd, Nat.reduceSub, Nat.reduceLT, Nat.reduceLeDiff, Int.reduceLT, Int.reduceLE, Int.reduceNeg, Int.reducePow, Int.reduceToNat]; try with_reducible rfl)
theorem c1__law_held_right_ok (Z1 : Sl) (Z2 : Sl) (Z3 : Sl) (Z4 : Sl) (line : List (Int × Int)) (T : DT) (XS : List ((Int × Int) × (Int × Int))) (HX : (zipI (nameE 5) (plainE (cutN 5 (someQ (constE (.int 1))) noQ))) ⟨[.val (.cell 0), Z1, Z2, Z3, Z4, .val ((eU (eP2 eI eI)) line), .no, .no, .no, .no, .no], T⟩ = .ok (XS.map (eP2 (eP2 eI eI) (eP2 eI eI))) ⟨[.val (.cell 0), Z1, Z2, Z3, Z4, .val ((eU (eP2 eI eI)) line), .no, .no, .no, .no, .no], T⟩) {Y : List Bool} (H : lenO (XS.map fun Y1 => (m__law_about Y1.1 Y1.2)) = some Y) : cp1__law_held_right ⟨[.val (.cell 0), Z1, Z2, Z3, Z4, .val ((eU (eP2 eI eI)) line), .no, .no, .no, .no, .no], T⟩ = .ok (.lst (Y.map eB), true) ⟨[.val (.cell 0), Z1, Z2, Z3, Z4, .val ((eU (eP2 eI eI)) line), .no, .no, .no, .no, .no], T⟩ := by
  refine (lcO_Q (E := (eP2 (eP2 eI eI) (eP2 eI eI))) (F := eB) (g := fun Y1 => (m__law_about Y1.1 Y1.2)) HX H fun Y1 => ⟨[.val (.cell 0), Z1, Z2, Z3, Z4, .val ((eU (eP2 eI eI)) line), .no, .no, .no, .val ((eP2 eI eI) Y1.1), .val ((eP2 eI eI) Y1.2)], rfl, ⟨[.val (.cell 0), Z1, Z2, Z3, Z4, .val ((eU (eP2 eI eI)) line), .no, .no, .no, .val ((eP2 eI eI) Y1.1), .val ((eP2 eI eI) Y1.2)], T⟩, ?_, rfl, rfl⟩).trans (by rfl)
  have K_26 : F__law_about [(.tup false [(.int Y1.1.1), (.int Y1.1.2)]), (.tup false [(.int Y1.2.1), (.int Y1.2.2)])] T = .ok (.bl (m__law_about Y1.1 Y1.2)) false T := w__law_about Y1.1 Y1.2 T rfl
  (push_cast [K_26, t_and, t_or, e_and, e_or, i_andT, i_orT, i_andE, i_orE, i_int, k_if, k_ch3, Nat.reduceAdd, Nat.reduceSub, Nat.reduceLT, Nat.reduceLeDiff, Int.reduceLT, Int.reduceLE, Int.reduceNeg, Int.reducePow, Int.reduceToNat]; try with_reducible rfl)
def b2__law_held_right (high : Int) (wide : Int) (one : List (List Int)) (other : List (List Int)) (Y2 : Int × Int) : Option (Option (Int × Int)) :=
  (idx other Y2.1).bind fun v_31 =>
  (idx v_31 Y2.2).bind fun v_32 =>
  if v_32 = 0 then
    some (some (Y2.1, Y2.2))
  else
  some none
theorem c2__law_held_right_ok (high : Int) (wide : Int) (one : List (List Int)) (other : List (List Int)) (Z5 : Sl) (T : DT) (XS : List (Int × Int)) (HX : (seqI (plainE (callO F_noughts (consA (nameE 1) (consA (nameE 2) (consA (nameE 3) nilA)))))) ⟨[.val (.cell 0), .val (eI high), .val (eI wide), .val ((eU (eU eI)) one), .val ((eU (eU eI)) other), Z5, .no, .no, .no, .no, .no], T⟩ = .ok (XS.map (eP2 eI eI)) ⟨[.val (.cell 0), .val (eI high), .val (eI wide), .val ((eU (eU eI)) one), .val ((eU (eU eI)) other), Z5, .no, .no, .no, .no, .no], T⟩) {Y : List (Int × Int)} (H : compO (b2__law_held_right high wide one other) XS = some Y) : cp2__law_held_right ⟨[.val (.cell 0), .val (eI high), .val (eI wide), .val ((eU (eU eI)) one), .val ((eU (eU eI)) other), Z5, .no, .no, .no, .no, .no], T⟩ = .ok (.lst (Y.map (eP2 eI eI)), true) ⟨[.val (.cell 0), .val (eI high), .val (eI wide), .val ((eU (eU eI)) one), .val ((eU (eU eI)) other), Z5, .no, .no, .no, .no, .no], T⟩ := by
  refine (lcO_O (E := (eP2 eI eI)) (F := (eP2 eI eI)) (f := b2__law_held_right high wide one other) HX H fun Y2 V H => ⟨[.val (.cell 0), .val (eI high), .val (eI wide), .val ((eU (eU eI)) one), .val ((eU (eU eI)) other), Z5, .no, .val (eI Y2.1), .val (eI Y2.2), .no, .no], rfl, ?_⟩).trans (by rfl)
  unfold b2__law_held_right at H
  obtain ⟨v_31, Hv_31, H⟩ := Option.bind_eq_some_iff.mp H
  have Kv_31 : ixG (.tup false (List.map (eU eI) other)) (.int Y2.1) = some (.tup false (List.map eI v_31)) := by
    have := ixG_U false (eU eI) other Y2.1
    rw [Hv_31] at this
    exact this
  obtain ⟨v_32, Hv_32, H⟩ := Option.bind_eq_some_iff.mp H
  have Kv_32 : ixG (.tup false (List.map eI v_31)) (.int Y2.2) = some (.int v_32) := by
    have := ixG_U false eI v_31 Y2.2
    rw [Hv_32] at this
    exact this
  rcases ite_inv H with ⟨C_33, H⟩ | ⟨C_33, H⟩
  · -- +
    replace C_33 := decide_eq_true C_33
    obtain rfl := Option.some.inj H
    refine ⟨⟨[.val (.cell 0), .val (eI high), .val (eI wide), .val ((eU (eU eI)) one), .val ((eU (eU eI)) other), Z5, .no, .val (eI Y2.1), .val (eI Y2.2), .no, .no], T⟩, ⟨[.val (.cell 0), .val (eI high), .val (eI wide), .val ((eU (eU eI)) one), .val ((eU (eU eI)) other), Z5, .no, .val (eI Y2.1), .val (eI Y2.2), .no, .no], T⟩, ?_, ?_, rfl, rfl⟩
    · (push_cast [Kv_31, Kv_32, C_33, Nat.reduceAdd, Nat.reduceSub, Nat.reduceLT, Nat.reduceLeDiff, Int.reduceLT, Int.reduceLE, Int.reduceNeg, Int.reducePow, Int.reduceToNat]; try with_reducible rfl)
    · (push_cast [Kv_31, Kv_32, C_33, Nat.reduceAdd, Nat.reduceSub, Nat.reduceLT, Nat.reduceLeDiff, Int.reduceLT, Int.reduceLE, Int.reduceNeg, Int.reducePow, Int.reduceToNat]; try with_reducible rfl)
  · -- -
    replace C_33 := decide_eq_false C_33
    obtain rfl := Option.some.inj H
    refine ⟨⟨[.val (.cell 0), .val (eI high), .val (eI wide), .val ((eU (eU eI)) one), .val ((eU (eU eI)) other), Z5, .no, .val (eI Y2.1), .val (eI Y2.2), .no, .no], T⟩, ?_, rfl, rfl⟩
    (push_cast [Kv_31, Kv_32, C_33, Nat.reduceAdd, Nat.reduceSub, Nat.reduceLT, Nat.reduceLeDiff, Int.reduceLT, Int.reduceLE, Int.reduceNeg, Int.reducePow, Int.reduceToNat]; try with_reducible rfl)
def x2__law_held_right (high : Int) (wide : Int) (one : List (List Int)) (other : List (List Int)) (both : List (Int × Int)) : Option Bool :=
  (m_both_noughts high wide one other).bind fun r_36 =>
  if r_36 = both then
    (m_common high wide one other).bind fun r_39 =>
    (idx both 0).bind fun v_40 =>
    some (!decide (r_39 = v_40))
  else
  some true
theorem x2__law_held_right_ok (high : Int) (wide : Int) (one : List (List Int)) (other : List (List Int)) (Z5 : Sl) (both : List (Int × Int)) (T : DT) {W : Bool} (H : x2__law_held_right high wide one other both = some W) : te2__law_held_right ⟨[.val (.cell 0), .val (eI high), .val (eI wide), .val ((eU (eU eI)) one), .val ((eU (eU eI)) other), Z5, .val ((eL (eP2 eI eI)) both), .no, .no, .no, .no], T⟩ = .ok W ⟨[.val (.cell 0), .val (eI high), .val (eI wide), .val ((eU (eU eI)) one), .val ((eU (eU eI)) other), Z5, .val ((eL (eP2 eI eI)) both), .no, .no, .no, .no], T⟩ := by
  unfold x2__law_held_right at H
  obtain ⟨r_36, Hr_36, H⟩ := Option.bind_eq_some_iff.mp H
  have Kr_36 : F_both_noughts [(.int high), (.int wide), (.tup false (List.map (eU eI) one)), (.tup false (List.map (eU eI) other))] T = .ok (.lst (List.map (eP2 eI eI) r_36)) true T := w_both_noughts high wide one other T Hr_36
  have K_37 : eqG true (.lst (List.map (eP2 eI eI) r_36)) (.lst (List.map (eP2 eI eI) both)) = some (.bl (true != decide (r_36 = both))) := eq_t true (eL (eP2 eI eI)) r_36 both (by decide)
  rcases ite_inv H with ⟨C_38, H⟩ | ⟨C_38, H⟩
  · -- +
    replace C_38 := decide_eq_true C_38
    obtain ⟨r_39, Hr_39, H⟩ := Option.bind_eq_some_iff.mp H
    have Kr_39 : F_common [(.int high), (.int wide), (.tup false (List.map (eU eI) one)), (.tup false (List.map (eU eI) other))] T = .ok (.tup false [(.int r_39.1), (.int r_39.2)]) false T := w_common high wide one other T Hr_39
    obtain ⟨v_40, Hv_40, H⟩ := Option.bind_eq_some_iff.mp H
    have Kv_40 : ixG (.lst (List.map (eP2 eI eI) both)) (.int 0) = some (.tup false [(.int v_40.1), (.int v_40.2)]) := by
      have := ixG_L (eP2 eI eI) both 0
      rw [Hv_40] at this
      exact this
    have K_41 : eqG true (.tup false [(.int r_39.1), (.int r_39.2)]) (.tup false [(.int v_40.1), (.int v_40.2)]) = some (.bl (true != decide (r_39 = v_40))) := eq_t true (eP2 eI eI) r_39 v_40 (by decide)
    obtain rfl := Option.some.inj H
    (push_cast [te2__law_held_right, Kr_36, K_37, C_38, Kr_39, Kv_40, K_41, Nat.reduceAdd, Nat.reduceSub, Nat.reduceLT, Nat.reduceLeDiff, Int.reduceLT, Int.reduceLE, Int.reduceNeg, Int.reducePow, Int.reduceToNat]; try with_reducible rfl)
  · -- -
    replace C_38 := decide_eq_false C_38
    obtain rfl := Option.some.inj H
    (push_cast [te2__law_held_right, Kr_36, K_37, C_38, Nat.reduceAdd, Nat.reduceSub, Nat.reduceLT, Nat.reduceLeDiff, Int.reduceLT, Int.reduceLE, Int.reduceNeg, Int.reducePow, Int.reduceToNat]; try with_reducible rfl)
def m__law_held_right (hd : Hd) : Option (Bool × Hd) :=
  (m__law_draw hd 5).bind fun r_1 =>
  (m__law_draw r_1.2 5).bind fun r_2 =>
  (m__law_steep r_2.2 (2 + r_1.1) (2 + r_2.1)).bind fun r_3 =>
  (m__law_steep r_3.2 (2 + r_2.1) (2 + r_1.1)).bind fun r_4 =>
  (m_turned (2 + r_2.1) (2 + r_1.1) r_4.1).bind fun r_5 =>
  (x0__law_held_right r_3.1 r_5).bind fun w_9 =>
  if w_9 = true then
    some (false, r_4.2)
  else
  (m_line_told_1 (2 + r_1.1) (2 + r_2.1) r_3.1).bind fun r_11 =>
  (x1__law_held_right (2 + r_1.1) (2 + r_2.1) r_3.1 r_11).bind fun w_17 =>
  if w_17 = true then
    some (false, r_4.2)
  else
  (compM (b0__law_held_right r_3.1 r_11) r_11).bind fun y_21 =>
  if (y_21.any id) = true then
    some (false, r_4.2)
  else
  (lenO ((List.zip r_11 (cutT r_11 (some 1) none)).map fun Y1 => (m__law_about Y1.1 Y1.2))).bind fun y_27 =>
  if (!(y_27.all id)) = true then
    some (false, r_4.2)
  else
  (m_noughts (2 + r_1.1) (2 + r_2.1) r_3.1).bind fun r_30 =>
  (compO (b2__law_held_right (2 + r_1.1) (2 + r_2.1) r_3.1 r_5) r_30).bind fun y_34 =>
  (x2__law_held_right (2 + r_1.1) (2 + r_2.1) r_3.1 r_5 y_34).bind fun w_42 =>
  if w_42 = true then
    some (false, r_4.2)
  else
  (m_backed (2 + r_1.1) (2 + r_2.1) r_3.1).bind fun r_44 =>
  (m_is_up_down_1 r_44).bind fun r_45 =>
  some ((decide (r_45 = true)), r_4.2)
theorem w__law_held_right (hd : Hd) {V : (Bool × Hd)} (H : m__law_held_right hd = some V) : F__law_held_right [.cell 0] [hd.1] = .ok (eB V.1) false [V.2.1] := by
  unfold m__law_held_right at H
  obtain ⟨r_1, Hr_1, H⟩ := Option.bind_eq_some_iff.mp H
  have Kr_1 := w__law_draw hd 5 Hr_1
  obtain ⟨r_2, Hr_2, H⟩ := Option.bind_eq_some_iff.mp H
  have Kr_2 := w__law_draw r_1.2 5 Hr_2
  obtain ⟨r_3, Hr_3, H⟩ := Option.bind_eq_some_iff.mp H
  have Kr_3 : F__law_steep [.cell 0, (.int (2 + r_1.1)), (.int (2 + r_2.1))] [r_2.2.1] = .ok (.tup false (List.map (eU eI) r_3.1)) false [r_3.2.1] := w__law_steep r_2.2 (2 + r_1.1) (2 + r_2.1) Hr_3
  obtain ⟨r_4, Hr_4, H⟩ := Option.bind_eq_some_iff.mp H
  have Kr_4 : F__law_steep [.cell 0, (.int (2 + r_2.1)), (.int (2 + r_1.1))] [r_3.2.1] = .ok (.tup false (List.map (eU eI) r_4.1)) false [r_4.2.1] := w__law_steep r_3.2 (2 + r_2.1) (2 + r_1.1) Hr_4
  obtain ⟨r_5, Hr_5, H⟩ := Option.bind_eq_some_iff.mp H
  have Kr_5 : F_turned [(.int (2 + r_2.1)), (.int (2 + r_1.1)), (.tup false (List.map (eU eI) r_4.1))] ([r_4.2.1]) = .ok (.tup false (List.map (eU eI) r_5)) false ([r_4.2.1]) := w_turned (2 + r_2.1) (2 + r_1.1) r_4.1 ([r_4.2.1]) Hr_5
  obtain ⟨w_9, Hw_9, H⟩ := Option.bind_eq_some_iff.mp H
  have Kw_9 := x0__law_held_right_ok (.val (eI (2 + r_1.1))) (.val (eI (2 + r_2.1))) r_3.1 r_5 [r_4.2.1] Hw_9
  try push_cast [DR.bind_ok] at Kw_9
  rcases iteB_inv H with ⟨C_10, H⟩ | ⟨C_10, H⟩
  · -- +
    obtain rfl := Option.some.inj H
    (push_cast [F__law_held_right, b__law_held_right, Kr_1, Kr_2, Kr_3, Kr_4, Kr_5, Kw_9, C_10, Nat.reduceAdd, Nat.reduceSub, Nat.reduceLT, Nat.reduceLeDiff, Int.reduceLT, Int.reduceLE, Int.reduceNeg, Int.reducePow, Int.reduceToNat]; try with_reducible rfl)
  · -- -
    obtain ⟨r_11, Hr_11, H⟩ := Option.bind_eq_some_iff.mp H
    have Kr_11 : F_line_told [(.int (2 + r_1.1)), (.int (2 + r_2.1)), (.tup false (List.map (eU eI) r_3.1))] ([r_4.2.1]) = .ok (.tup false (List.map (eP2 eI eI) r_11)) false ([r_4.2.1]) := w_line_told_1 (2 + r_1.1) (2 + r_2.1) r_3.1 ([r_4.2.1]) Hr_11
    obtain ⟨w_17, Hw_17, H⟩ := Option.bind_eq_some_iff.mp H
    have Kw_17 := x1__law_held_right_ok (2 + r_1.1) (2 + r_2.1) r_3.1 (.val ((eU (eU eI)) r_5)) r_11 [r_4.2.1] Hw_17
    try push_cast [DR.bind_ok] at Kw_17
    rcases iteB_inv H with ⟨C_18, H⟩ | ⟨C_18, H⟩
    · -- +
      obtain rfl := Option.some.inj H
      (push_cast [F__law_held_right, b__law_held_right, Kr_1, Kr_2, Kr_3, Kr_4, Kr_5, Kw_9, C_10, Kr_11, Kw_17, C_18, Nat.reduceAdd, Nat.reduceSub, Nat.reduceLT, Nat.reduceLeDiff, Int.reduceLT, Int.reduceLE, Int.reduceNeg, Int.reducePow, Int.reduceToNat]; try with_reducible rfl)
    · -- -
      obtain ⟨y_21, Hy_21, H⟩ := Option.bind_eq_some_iff.mp H
      have K_22 : (seqI (nameE 5)) ⟨[.val (.cell 0), .val (eI (2 + r_1.1)), .val (eI (2 + r_2.1)), .val ((eU (eU eI)) r_3.1), .val ((eU (eU eI)) r_5), .val ((eU (eP2 eI eI)) r_11), .no, .no, .no, .no, .no], [r_4.2.1]⟩ = .ok (r_11.map (eP2 eI eI)) ⟨[.val (.cell 0), .val (eI (2 + r_1.1)), .val (eI (2 + r_2.1)), .val ((eU (eU eI)) r_3.1), .val ((eU (eU eI)) r_5), .val ((eU (eP2 eI eI)) r_11), .no, .no, .no, .no, .no], [r_4.2.1]⟩ := by (push_cast [Kr_1, Kr_2, Kr_3, Kr_4, Kr_5, Kw_9, C_10, Kr_11, Kw_17, C_18, Nat.reduceAdd, Nat.reduceSub, Nat.reduceLT, Nat.reduceLeDiff, Int.reduceLT, Int.reduceLE, Int.reduceNeg, Int.reducePow, Int.reduceToNat]; try with_reducible rfl)
      have Ky_21 := c0__law_held_right_ok (.val (eI (2 + r_1.1))) (.val (eI (2 + r_2.1))) r_3.1 (.val ((eU (eU eI)) r_5)) r_11 [r_4.2.1] r_11 K_22 Hy_21
      try push_cast [DR.bind_ok] at Ky_21
      rcases iteB_inv H with ⟨C_23, H⟩ | ⟨C_23, H⟩
      · -- +
        obtain rfl := Option.some.inj H
        (push_cast [F__law_held_right, b__law_held_right, Kr_1, Kr_2, Kr_3, Kr_4, Kr_5, Kw_9, C_10, Kr_11, Kw_17, C_18, Ky_21, C_23, Nat.reduceAdd, Nat.reduceSub, Nat.reduceLT, Nat.reduceLeDiff, Int.reduceLT, Int.reduceLE, Int.reduceNeg, Int.reducePow, Int.reduceToNat]; try with_reducible rfl)
      · -- -
        have K_24 : cutG (.tup false (List.map (eP2 eI eI) r_11)) (some 1) none = some ((.tup false (List.map (eP2 eI eI) (cutT r_11 (some 1) none))), false) := cutG_U false (eP2 eI eI) r_11 _ _
        have K_25 := zipP_t (eP2 eI eI) (eP2 eI eI) r_11 (cutT r_11 (some 1) none)
        obtain ⟨y_27, Hy_27, H⟩ := Option.bind_eq_some_iff.mp H
        have K_28 : (zipI (nameE 5) (plainE (cutN 5 (someQ (constE (.int 1))) noQ))) ⟨[.val (.cell 0), .val (eI (2 + r_1.1)), .val (eI (2 + r_2.1)), .val ((eU (eU eI)) r_3.1), .val ((eU (eU eI)) r_5), .val ((eU (eP2 eI eI)) r_11), .no, .no, .no, .no, .no], [r_4.2.1]⟩ = .ok ((List.zip r_11 (cutT r_11 (some 1) none)).map (eP2 (eP2 eI eI) (eP2 eI eI))) ⟨[.val (.cell 0), .val (eI (2 + r_1.1)), .val (eI (2 + r_2.1)), .val ((eU (eU eI)) r_3.1), .val ((eU (eU eI)) r_5), .val ((eU (eP2 eI eI)) r_11), .no, .no, .no, .no, .no], [r_4.2.1]⟩ := by (push_cast [Kr_1, Kr_2, Kr_3, Kr_4, Kr_5, Kw_9, C_10, Kr_11, Kw_17, C_18, Ky_21, C_23, K_24, K_25, Nat.reduceAdd, Nat.reduceSub, Nat.reduceLT, Nat.reduceLeDiff, Int.reduceLT, Int.reduceLE, Int.reduceNeg, Int.reducePow, Int.reduceToNat]; try with_reducible rfl)
        have Ky_27 := c1__law_held_right_ok (.val (eI (2 + r_1.1))) (.val (eI (2 + r_2.1))) (.val ((eU (eU eI)) r_3.1)) (.val ((eU (eU eI)) r_5)) r_11 [r_4.2.1] (List.zip r_11 (cutT r_11 (some 1) none)) K_28 Hy_27
        try push_cast [DR.bind_ok] at Ky_27
        rcases iteB_inv H with ⟨C_29, H⟩ | ⟨C_29, H⟩
        · -- +
          obtain rfl := Option.some.inj H
          (push_cast [F__law_held_right, b__law_held_right, Kr_1, Kr_2, Kr_3, Kr_4, Kr_5, Kw_9, C_10, Kr_11, Kw_17, C_18, Ky_21, C_23, K_24, K_25, Ky_27, C_29, Nat.reduceAdd, Nat.reduceSub, Nat.reduceLT, Nat.reduceLeDiff, Int.reduceLT, Int.reduceLE, Int.reduceNeg, Int.reducePow, Int.reduceToNat]; try with_reducible rfl)
        · -- -
          obtain ⟨r_30, Hr_30, H⟩ := Option.bind_eq_some_iff.mp H
          have Kr_30 : F_noughts [(.int (2 + r_1.1)), (.int (2 + r_2.1)), (.tup false (List.map (eU eI) r_3.1))] ([r_4.2.1]) = .ok (.lst (List.map (eP2 eI eI) r_30)) true ([r_4.2.1]) := w_noughts (2 + r_1.1) (2 + r_2.1) r_3.1 ([r_4.2.1]) Hr_30
          obtain ⟨y_34, Hy_34, H⟩ := Option.bind_eq_some_iff.mp H
          have K_35 : (seqI (plainE (callO F_noughts (consA (nameE 1) (consA (nameE 2) (consA (nameE 3) nilA)))))) ⟨[.val (.cell 0), .val (eI (2 + r_1.1)), .val (eI (2 + r_2.1)), .val ((eU (eU eI)) r_3.1), .val ((eU (eU eI)) r_5), .val ((eU (eP2 eI eI)) r_11), .no, .no, .no, .no, .no], [r_4.2.1]⟩ = .ok (r_30.map (eP2 eI eI)) ⟨[.val (.cell 0), .val (eI (2 + r_1.1)), .val (eI (2 + r_2.1)), .val ((eU (eU eI)) r_3.1), .val ((eU (eU eI)) r_5), .val ((eU (eP2 eI eI)) r_11), .no, .no, .no, .no, .no], [r_4.2.1]⟩ := by (push_cast [Kr_1, Kr_2, Kr_3, Kr_4, Kr_5, Kw_9, C_10, Kr_11, Kw_17, C_18, Ky_21, C_23, K_24, K_25, Ky_27, C_29, Kr_30, Nat.reduceAdd, Nat.reduceSub, Nat.reduceLT, Nat.reduceLeDiff, Int.reduceLT, Int.reduceLE, Int.reduceNeg, Int.reducePow, Int.reduceToNat]; try with_reducible rfl)
          have Ky_34 := c2__law_held_right_ok (2 + r_1.1) (2 + r_2.1) r_3.1 r_5 (.val ((eU (eP2 eI eI)) r_11)) [r_4.2.1] r_30 K_35 Hy_34
          try push_cast [DR.bind_ok] at Ky_34
          obtain ⟨w_42, Hw_42, H⟩ := Option.bind_eq_some_iff.mp H
          have Kw_42 := x2__law_held_right_ok (2 + r_1.1) (2 + r_2.1) r_3.1 r_5 (.val ((eU (eP2 eI eI)) r_11)) y_34 [r_4.2.1] Hw_42
          try push_cast [DR.bind_ok] at Kw_42
          rcases iteB_inv H with ⟨C_43, H⟩ | ⟨C_43, H⟩
          · -- +
            obtain rfl := Option.some.inj H
            (push_cast [F__law_held_right, b__law_held_right, Kr_1, Kr_2, Kr_3, Kr_4, Kr_5, Kw_9, C_10, Kr_11, Kw_17, C_18, Ky_21, C_23, K_24, K_25, Ky_27, C_29, Kr_30, Ky_34, Kw_42, C_43, Nat.reduceAdd, Nat.reduceSub, Nat.reduceLT, Nat.reduceLeDiff, Int.reduceLT, Int.reduceLE, Int.reduceNeg, Int.reducePow, Int.reduceToNat]; try with_reducible rfl)
          · -- -
            obtain ⟨r_44, Hr_44, H⟩ := Option.bind_eq_some_iff.mp H
            have Kr_44 : F_backed [(.int (2 + r_1.1)), (.int (2 + r_2.1)), (.tup false (List.map (eU eI) r_3.1))] ([r_4.2.1]) = .ok (.tup false (List.map (eU eI) r_44)) false ([r_4.2.1]) := w_backed (2 + r_1.1) (2 + r_2.1) r_3.1 ([r_4.2.1]) Hr_44
            obtain ⟨r_45, Hr_45, H⟩ := Option.bind_eq_some_iff.mp H
            have Kr_45 : F_is_up_down [(.tup false (List.map (eU eI) r_44))] ([r_4.2.1]) = .ok (.bl r_45) false ([r_4.2.1]) := w_is_up_down_1 r_44 ([r_4.2.1]) Hr_45
            obtain rfl := Option.some.inj H
            (push_cast [F__law_held_right, b__law_held_right, Kr_1, Kr_2, Kr_3, Kr_4, Kr_5, Kw_9, C_10, Kr_11, Kw_17, C_18, Ky_21, C_23, K_24, K_25, Ky_27, C_29, Kr_30, Ky_34, Kw_42, C_43, Kr_44, Kr_45, Nat.reduceAdd, Nat.reduceSub, Nat.reduceLT, Nat.reduceLeDiff, Int.reduceLT, Int.reduceLE, Int.reduceNeg, Int.reducePow, Int.reduceToNat]; try with_reducible rfl)
theorem c0_by_sums_ok (Z0 : Sl) (Z1 : Sl) (row : List Int) (T : DT) (XS : List Int) (HX : (seqI (nameE 2)) ⟨[Z0, Z1, .val ((eU eI) row), .no, .no, .no, .no], T⟩ = .ok (XS.map eI) ⟨[Z0, Z1, .val ((eU eI) row), .no, .no, .no, .no], T⟩) {Y : List Bool} (H : lenO (XS.map fun Y0 => (m_is_within Y0 (-100) 100)) = some Y) : cp0_by_sums ⟨[Z0, Z1, .val ((eU eI) row), .no, .no, .no, .no], T⟩ = .ok (.lst (Y.map eB), true) ⟨[Z0, Z1, .val ((eU eI) row), .no, .no, .no, .no], T⟩ := by
  refine (lcO_Q (E := eI) (F := eB) (g := fun Y0 => (m_is_within Y0 (-100) 100)) HX H fun Y0 => ⟨[Z0, Z1, .val ((eU eI) row), .val (eI Y0), .no, .no, .no], rfl, ⟨[Z0, Z1, .val ((eU eI) row), .val (eI Y0), .no, .no, .no], T⟩, ?_, rfl, rfl⟩).trans (by rfl)
  have K_3 : F_is_within [(.int Y0), (.int (-100)), (.int 100)] T = .ok (.bl (m_is_within Y0 (-100) 100)) false T := w_is_within Y0 (-100) 100 T rfl
  (push_cast [K_3, t_and, t_or, e_and, e_or, i_andT, i_orT, i_andE, i_orE, i_int, k_if, k_ch3, Nat.reduceAdd, Nat.reduceSub, Nat.reduceLT, Nat.reduceLeDiff, Int.reduceLT, Int.reduceLE, Int.reduceNeg, Int.reducePow, Int.reduceToNat]; try with_reducible rfl)
def x0_by_sums (row : List Int) : Option Bool :=
  if (!(m_is_tuple_3 row 2 8)) = true then
    some true
  else
  (lenO (row.map fun Y0 => (m_is_within Y0 (-100) 100))).bind fun y_4 =>
  some (!(y_4.all id))
theorem x0_by_sums_ok (Z0 : Sl) (Z1 : Sl) (row : List Int) (T : DT) {W : Bool} (H : x0_by_sums row = some W) : te0_by_sums ⟨[Z0, Z1, .val ((eU eI) row), .no, .no, .no, .no], T⟩ = .ok W ⟨[Z0, Z1, .val ((eU eI) row), .no, .no, .no, .no], T⟩ := by
  unfold x0_by_sums at H
  have K_1 : F_is_tuple [(.tup false (List.map eI row)), (.int 2), (.int 8)] T = .ok (.bl (m_is_tuple_3 row 2 8)) false T := w_is_tuple_3 row 2 8 T rfl
  rcases iteB_inv H with ⟨C_2, H⟩ | ⟨C_2, H⟩
  · -- +
    obtain rfl := Option.some.inj H
    (push_cast [te0_by_sums, K_1, C_2, Nat.reduceAdd, Nat.reduceSub, Nat.reduceLT, Nat.reduceLeDiff, Int.reduceLT, Int.reduceLE, Int.reduceNeg, Int.reducePow, Int.reduceToNat]; try with_reducible rfl)
  · -- -
    obtain ⟨y_4, Hy_4, H⟩ := Option.bind_eq_some_iff.mp H
    have K_5 : (seqI (nameE 2)) ⟨[Z0, Z1, .val ((eU eI) row), .no, .no, .no, .no], T⟩ = .ok (row.map eI) ⟨[Z0, Z1, .val ((eU eI) row), .no, .no, .no, .no], T⟩ := by (push_cast [K_1, C_2, Nat.reduceAdd, Nat.reduceSub, Nat.reduceLT, Nat.reduceLeDiff, Int.reduceLT, Int.reduceLE, Int.reduceNeg, Int.reducePow, Int.reduceToNat]; try with_reducible rfl)
    have Ky_4 := c0_by_sums_ok Z0 Z1 row T row K_5 Hy_4
    try push_cast [DR.bind_ok] at Ky_4
    obtain rfl := Option.some.inj H
    (push_cast [te0_by_sums, K_1, C_2, Ky_4, Nat.reduceAdd, Nat.reduceSub, Nat.reduceLT, Nat.reduceLeDiff, Int.reduceLT, Int.reduceLE, Int.reduceNeg, Int.reducePow, Int.reduceToNat]; try with_reducible rfl)
theorem c1_by_sums_ok (Z0 : Sl) (Z1 : Sl) (row : List Int) (T : DT) (XS : List (Int × Int)) (HX : (zipI (nameE 2) (plainE (cutN 2 (someQ (constE (.int 1))) noQ))) ⟨[Z0, Z1, .val ((eU eI) row), .no, .no, .no, .no], T⟩ = .ok (XS.map (eP2 eI eI)) ⟨[Z0, Z1, .val ((eU eI) row), .no, .no, .no, .no], T⟩) {Y : List Bool} (H : lenO (XS.map fun Y1 => (decide ((iabs (Y1.1 - Y1.2)) ≤ 1))) = some Y) : cp1_by_sums ⟨[Z0, Z1, .val ((eU eI) row), .no, .no, .no, .no], T⟩ = .ok (.lst (Y.map eB), true) ⟨[Z0, Z1, .val ((eU eI) row), .no, .no, .no, .no], T⟩ := by
  refine (lcO_Q (E := (eP2 eI eI)) (F := eB) (g := fun Y1 => (decide ((iabs (Y1.1 - Y1.2)) ≤ 1))) HX H fun Y1 => ⟨[Z0, Z1, .val ((eU eI) row), .no, .val (eI Y1.1), .val (eI Y1.2), .no], rfl, ⟨[Z0, Z1, .val ((eU eI) row), .no, .val (eI Y1.1), .val (eI Y1.2), .no], T⟩, ?_, rfl, rfl⟩).trans (by rfl)
  (push_cast [bind_ok, t_and, t_or, e_and, e_or, i_andT, i_orT, i_andE, i_orE, i_int, k_if, k_ch3, Nat.reduceAdd, Nat.reduceSub, Nat.reduceLT, Nat.reduceLeDiff, Int.reduceLT, Int.reduceLE, Int.reduceNeg, Int.reducePow, Int.reduceToNat]; try with_reducible rfl)
def s0_by_sums   (X0 : List Int) : Option ((Unit)) :=
  (x0_by_sums X0).bind fun w_6 =>
  if w_6 = true then
    none
  else
  (lenO ((List.zip X0 (cutT X0 (some 1) none)).map fun Y1 => (decide ((iabs (Y1.1 - Y1.2)) ≤ 1)))).bind fun y_10 =>
  if (!(y_10.all id)) = true then
    none
  else
  some ()
def I0_by_sums (Z0 : Sl) (Z1 : Sl) (T : DT) (Q : Unit) (E : DS) : Prop := ∃ D2, E = ⟨[Z0, Z1, D2, .no, .no, .no, .no], T⟩
theorem l0_by_sums_bd (Z0 : Sl) (Z1 : Sl) (T : DT)  (X0 : List Int) (E : DS) (HI : I0_by_sums Z0 Z1 T () E) {O : (Unit)} (H : s0_by_sums   X0 = some O) : ∃ E1, asgT (.nm 2) ((eU eI) X0) E.e = some E1 ∧ ∃ E2, (bd0_by_sums ⟨E1, E.t⟩ = .ok .nx E2 ∨ bd0_by_sums ⟨E1, E.t⟩ = .ok .ct E2) ∧ I0_by_sums Z0 Z1 T O E2 := by
  obtain ⟨D2, rfl⟩ := HI
  refine ⟨[Z0, Z1, .val ((eU eI) X0), .no, .no, .no, .no], rfl, ?_⟩
  unfold s0_by_sums at H
  obtain ⟨w_6, Hw_6, H⟩ := Option.bind_eq_some_iff.mp H
  have Kw_6 := x0_by_sums_ok Z0 Z1 X0 T Hw_6
  try push_cast [DR.bind_ok] at Kw_6
  rcases iteB_inv H with ⟨C_7, H⟩ | ⟨C_7, H⟩
  · -- +
    cases H
  · -- -
    have K_8 : cutG (.tup false (List.map eI X0)) (some 1) none = some ((.tup false (List.map eI (cutT X0 (some 1) none))), false) := cutG_U false eI X0 _ _
    have K_9 := zipP_t eI eI X0 (cutT X0 (some 1) none)
    obtain ⟨y_10, Hy_10, H⟩ := Option.bind_eq_some_iff.mp H
    have K_11 : (zipI (nameE 2) (plainE (cutN 2 (someQ (constE (.int 1))) noQ))) ⟨[Z0, Z1, .val ((eU eI) X0), .no, .no, .no, .no], T⟩ = .ok ((List.zip X0 (cutT X0 (some 1) none)).map (eP2 eI eI)) ⟨[Z0, Z1, .val ((eU eI) X0), .no, .no, .no, .no], T⟩ := by (push_cast [Kw_6, C_7, K_8, K_9, Nat.reduceAdd, Nat.reduceSub, Nat.reduceLT, Nat.reduceLeDiff, Int.reduceLT, Int.reduceLE, Int.reduceNeg, Int.reducePow, Int.reduceToNat]; try with_reducible rfl)
    have Ky_10 := c1_by_sums_ok Z0 Z1 X0 T (List.zip X0 (cutT X0 (some 1) none)) K_11 Hy_10
    try push_cast [DR.bind_ok] at Ky_10
    rcases iteB_inv H with ⟨C_12, H⟩ | ⟨C_12, H⟩
    · -- +
      cases H
    · -- -
      obtain rfl := Option.some.inj H
      refine ⟨⟨[Z0, Z1, .val ((eU eI) X0), .no, .no, .no, .no], T⟩, .inl ?_, ⟨.val ((eU eI) X0), rfl⟩⟩
      (push_cast [bd0_by_sums, Kw_6, C_7, K_8, K_9, Ky_10, C_12, Nat.reduceAdd, Nat.reduceSub, Nat.reduceLT, Nat.reduceLeDiff, Int.reduceLT, Int.reduceLE, Int.reduceNeg, Int.reducePow, Int.reduceToNat]; try with_reducible rfl)
theorem c3_by_sums_ok (Z0 : Sl) (across : List Int) (Z2 : Sl) (one : Int) (T : DT) (XS : List Int) (HX : (seqI (nameE 1)) ⟨[Z0, .val ((eU eI) across), Z2, .val (eI one), .no, .no, .no], T⟩ = .ok (XS.map eI) ⟨[Z0, .val ((eU eI) across), Z2, .val (eI one), .no, .no, .no], T⟩) {Y : List Int} (H : lenO (XS.map fun Y3 => (max one Y3)) = some Y) : cp2_by_sums ⟨[Z0, .val ((eU eI) across), Z2, .val (eI one), .no, .no, .no], T⟩ = .ok (.lst (Y.map eI), true) ⟨[Z0, .val ((eU eI) across), Z2, .val (eI one), .no, .no, .no], T⟩ := by
  refine (lcO_Q (E := eI) (F := eI) (g := fun Y3 => (max one Y3)) HX H fun Y3 => ⟨[Z0, .val ((eU eI) across), Z2, .val (eI one), .no, .no, .val (eI Y3)], rfl, ⟨[Z0, .val ((eU eI) across), Z2, .val (eI one), .no, .no, .val (eI Y3)], T⟩, ?_, rfl, rfl⟩).trans (by rfl)
  (push_cast [bind_ok, t_and, t_or, e_and, e_or, i_andT, i_orT, i_andE, i_orE, i_int, k_if, k_ch3, Nat.reduceAdd, Nat.reduceSub, Nat.reduceLT, Nat.reduceLeDiff, Int.reduceLT, Int.reduceLE, Int.reduceNeg, Int.reducePow, Int.reduceToNat]; try with_reducible rfl)
def b2_by_sums (down : List Int) (across : List Int) (Y2 : Int) : Option (List Int) :=
  (lenO (across.map fun Y3 => (max Y2 Y3))).bind fun y_18 =>
  some y_18
theorem c2_by_sums_ok (down : List Int) (across : List Int) (Z2 : Sl) (T : DT) (XS : List Int) (HX : (seqI (nameE 0)) ⟨[.val ((eU eI) down), .val ((eU eI) across), Z2, .no, .no, .no, .no], T⟩ = .ok (XS.map eI) ⟨[.val ((eU eI) down), .val ((eU eI) across), Z2, .no, .no, .no, .no], T⟩) {Y : List (List Int)} (H : compM (b2_by_sums down across) XS = some Y) : cp3_by_sums ⟨[.val ((eU eI) down), .val ((eU eI) across), Z2, .no, .no, .no, .no], T⟩ = .ok (.lst (Y.map (eU eI)), true) ⟨[.val ((eU eI) down), .val ((eU eI) across), Z2, .no, .no, .no, .no], T⟩ := by
  refine (lcO_M (E := eI) (F := (eU eI)) (f := b2_by_sums down across) HX H fun Y2 V H => ⟨[.val ((eU eI) down), .val ((eU eI) across), Z2, .val (eI Y2), .no, .no, .no], rfl, ?_⟩).trans (by rfl)
  unfold b2_by_sums at H
  obtain ⟨y_18, Hy_18, H⟩ := Option.bind_eq_some_iff.mp H
  have K_19 : (seqI (nameE 1)) ⟨[.val ((eU eI) down), .val ((eU eI) across), Z2, .val (eI Y2), .no, .no, .no], T⟩ = .ok (across.map eI) ⟨[.val ((eU eI) down), .val ((eU eI) across), Z2, .val (eI Y2), .no, .no, .no], T⟩ := by (push_cast [bind_ok, Nat.reduceAdd, Nat.reduceSub, Nat.reduceLT, Nat.reduceLeDiff, Int.reduceLT, Int.reduceLE, Int.reduceNeg, Int.reducePow, Int.reduceToNat]; try with_reducible rfl)
  have Ky_18 := c3_by_sums_ok (.val ((eU eI) down)) across Z2 Y2 T across K_19 Hy_18
  try push_cast [DR.bind_ok] at Ky_18
  obtain rfl := Option.some.inj H
  refine ⟨⟨[.val ((eU eI) down), .val ((eU eI) across), Z2, .val (eI Y2), .no, .no, .no], T⟩, ?_, rfl, rfl⟩
  (push_cast [Ky_18, Nat.reduceAdd, Nat.reduceSub, Nat.reduceLT, Nat.reduceLeDiff, Int.reduceLT, Int.reduceLE, Int.reduceNeg, Int.reducePow, Int.reduceToNat]; try with_reducible rfl)
def m_by_sums (down : List Int) (across : List Int) : Option (List (List Int)) :=
  (foldO (fun Q X0 => s0_by_sums   X0) ([down, across]) ()).bind fun l_13 =>
  (compM (b2_by_sums down across) down).bind fun y_20 =>
  some y_20
theorem w_by_sums (down : List Int) (across : List Int) (T : DT) {V : (List (List Int))} (H : m_by_sums down across = some V) : F_by_sums [(eU eI) down, (eU eI) across] T = .ok ((eU (eU eI)) V) false T := by
  unfold m_by_sums at H
  obtain ⟨l_13, Hl_13, H⟩ := Option.bind_eq_some_iff.mp H
  have K_14 : it0_by_sums ⟨[.val ((eU eI) down), .val ((eU eI) across), .no, .no, .no, .no, .no], T⟩ = .ok (([down, across]).map (eU eI)) ⟨[.val ((eU eI) down), .val ((eU eI) across), .no, .no, .no, .no, .no], T⟩ := by (push_cast [it0_by_sums, Nat.reduceAdd, Nat.reduceSub, Nat.reduceLT, Nat.reduceLeDiff, Int.reduceLT, Int.reduceLE, Int.reduceNeg, Int.reducePow, Int.reduceToNat]; try with_reducible rfl)
  have Kl_13 := for_fold (I := I0_by_sums (.val ((eU eI) down)) (.val ((eU eI) across)) T) (tg := (.nm 2)) (b := bd0_by_sums) (E := (eU eI)) (fun Q E X0 O HI H => l0_by_sums_bd (.val ((eU eI) down)) (.val ((eU eI) across)) T  X0 E HI H) ([down, across]) () ⟨[.val ((eU eI) down), .val ((eU eI) across), .no, .no, .no, .no, .no], T⟩ _ ⟨.no, rfl⟩ Hl_13
  obtain ⟨E_16, Kl_13, ⟨D_15, rfl⟩⟩ := Kl_13
  have K_17 : lp0_by_sums ⟨[.val ((eU eI) down), .val ((eU eI) across), .no, .no, .no, .no, .no], T⟩ = .ok .nx ⟨[.val ((eU eI) down), .val ((eU eI) across), D_15, .no, .no, .no, .no], T⟩ := by
    show forS _ _ _ _ = _
    rw [forS_ap, K_14, bind_ok]; exact Kl_13
  try push_cast [DR.bind_ok] at K_17
  obtain ⟨y_20, Hy_20, H⟩ := Option.bind_eq_some_iff.mp H
  have K_21 : (seqI (nameE 0)) ⟨[.val ((eU eI) down), .val ((eU eI) across), D_15, .no, .no, .no, .no], T⟩ = .ok (down.map eI) ⟨[.val ((eU eI) down), .val ((eU eI) across), D_15, .no, .no, .no, .no], T⟩ := by (push_cast [K_17, Nat.reduceAdd, Nat.reduceSub, Nat.reduceLT, Nat.reduceLeDiff, Int.reduceLT, Int.reduceLE, Int.reduceNeg, Int.reducePow, Int.reduceToNat]; try with_reducible rfl)
  have Ky_20 := c2_by_sums_ok down across D_15 T down K_21 Hy_20
  try push_cast [DR.bind_ok] at Ky_20
  obtain rfl := Option.some.inj H
  (push_cast [F_by_sums, b_by_sums, K_17, Ky_20, Nat.reduceAdd, Nat.reduceSub, Nat.reduceLT, Nat.reduceLeDiff, Int.reduceLT, Int.reduceLE, Int.reduceNeg, Int.reducePow, Int.reduceToNat]; try with_reducible rfl)
def s0__law_sums_right  (hd : Hd) (down : List Int) (X0 : Int) : Option ((Hd × (List Int))) :=
  (idx down (-1)).bind fun v_5 =>
  (m__law_draw hd 3).bind fun r_6 =>
  (snoc down ((v_5 + r_6.1) - 1)).bind fun down_7 =>
  some (r_6.2, down_7)
def I0__law_sums_right (Z2 : Sl) (Q : Hd × (List Int)) (E : DS) : Prop := ∃ D3, E = ⟨[.val (.cell 0), .own ((eL eI) Q.2), Z2, D3, .no, .no, .no, .no, .no], [Q.1.1]⟩
theorem l0__law_sums_right_bd (Z2 : Sl) (hd : Hd) (down : List Int) (X0 : Int) (E : DS) (HI : I0__law_sums_right Z2 (hd, down) E) {O : (Hd × (List Int))} (H : s0__law_sums_right  hd down X0 = some O) : ∃ E1, asgT (.nm 3) (eI X0) E.e = some E1 ∧ ∃ E2, (bd0__law_sums_right ⟨E1, E.t⟩ = .ok .nx E2 ∨ bd0__law_sums_right ⟨E1, E.t⟩ = .ok .ct E2) ∧ I0__law_sums_right Z2 O E2 := by
  obtain ⟨D3, rfl⟩ := HI
  refine ⟨[.val (.cell 0), .own ((eL eI) down), Z2, .val (eI X0), .no, .no, .no, .no, .no], rfl, ?_⟩
  unfold s0__law_sums_right at H
  obtain ⟨v_5, Hv_5, H⟩ := Option.bind_eq_some_iff.mp H
  have Kv_5 : ixG (.lst (List.map eI down)) (.int (-1)) = some (.int v_5) := by
    have := ixG_L eI down (-1)
    rw [Hv_5] at this
    exact this
  obtain ⟨r_6, Hr_6, H⟩ := Option.bind_eq_some_iff.mp H
  have Kr_6 := w__law_draw hd 3 Hr_6
  obtain ⟨down_7, Hdown_7, H⟩ := Option.bind_eq_some_iff.mp H
  have Kdown_7 : appU (.int ((v_5 + r_6.1) - 1)) (.lst (List.map eI down)) = some ((.lst (List.map eI down_7)), .non) := by
    have := appU_L eI down ((v_5 + r_6.1) - 1)
    rw [Hdown_7] at this
    exact this
  obtain rfl := Option.some.inj H
  refine ⟨⟨[.val (.cell 0), .own ((eL eI) down_7), Z2, .val (eI X0), .no, .no, .no, .no, .no], [r_6.2.1]⟩, .inl ?_, ⟨.val (eI X0), rfl⟩⟩
  (push_cast [bd0__law_sums_right, Kv_5, Kr_6, Kdown_7, Nat.reduceAdd, Nat.reduceSub, Nat.reduceLT, Nat.reduceLeDiff, Int.reduceLT, Int.reduceLE, Int.reduceNeg, Int.reducePow, Int.reduceToNat]; try with_reducible rfl)
def s1__law_sums_right  (hd : Hd) (across : List Int) (X1 : Int) : Option ((Hd × (List Int))) :=
  (idx across (-1)).bind fun v_15 =>
  (m__law_draw hd 3).bind fun r_16 =>
  (snoc across ((v_15 + r_16.1) - 1)).bind fun across_17 =>
  some (r_16.2, across_17)
def I1__law_sums_right (Z1 : Sl) (Q : Hd × (List Int)) (E : DS) : Prop := ∃ D3, E = ⟨[.val (.cell 0), Z1, .own ((eL eI) Q.2), D3, .no, .no, .no, .no, .no], [Q.1.1]⟩
theorem l1__law_sums_right_bd (Z1 : Sl) (hd : Hd) (across : List Int) (X1 : Int) (E : DS) (HI : I1__law_sums_right Z1 (hd, across) E) {O : (Hd × (List Int))} (H : s1__law_sums_right  hd across X1 = some O) : ∃ E1, asgT (.nm 3) (eI X1) E.e = some E1 ∧ ∃ E2, (bd1__law_sums_right ⟨E1, E.t⟩ = .ok .nx E2 ∨ bd1__law_sums_right ⟨E1, E.t⟩ = .ok .ct E2) ∧ I1__law_sums_right Z1 O E2 := by
  obtain ⟨D3, rfl⟩ := HI
  refine ⟨[.val (.cell 0), Z1, .own ((eL eI) across), .val (eI X1), .no, .no, .no, .no, .no], rfl, ?_⟩
  unfold s1__law_sums_right at H
  obtain ⟨v_15, Hv_15, H⟩ := Option.bind_eq_some_iff.mp H
  have Kv_15 : ixG (.lst (List.map eI across)) (.int (-1)) = some (.int v_15) := by
    have := ixG_L eI across (-1)
    rw [Hv_15] at this
    exact this
  obtain ⟨r_16, Hr_16, H⟩ := Option.bind_eq_some_iff.mp H
  have Kr_16 := w__law_draw hd 3 Hr_16
  obtain ⟨across_17, Hacross_17, H⟩ := Option.bind_eq_some_iff.mp H
  have Kacross_17 : appU (.int ((v_15 + r_16.1) - 1)) (.lst (List.map eI across)) = some ((.lst (List.map eI across_17)), .non) := by
    have := appU_L eI across ((v_15 + r_16.1) - 1)
    rw [Hacross_17] at this
    exact this
  obtain rfl := Option.some.inj H
  refine ⟨⟨[.val (.cell 0), Z1, .own ((eL eI) across_17), .val (eI X1), .no, .no, .no, .no, .no], [r_16.2.1]⟩, .inl ?_, ⟨.val (eI X1), rfl⟩⟩
  (push_cast [bd1__law_sums_right, Kv_15, Kr_16, Kacross_17, Nat.reduceAdd, Nat.reduceSub, Nat.reduceLT, Nat.reduceLeDiff, Int.reduceLT, Int.reduceLE, Int.reduceNeg, Int.reducePow, Int.reduceToNat]; try with_reducible rfl)
def s3__law_sums_right (told_so : List (List Int)) (a : Int) (one : Int) (hd : Hd) (X3 : Int × Int) : Option (Fw (Hd) (Bool × Hd)) :=
  (idx told_so a).bind fun v_26 =>
  (idx v_26 X3.1).bind fun v_27 =>
  if v_27 = (max one X3.2) then
    some (.nx hd)
  else
  some (.rt (false, hd))
def I3__law_sums_right (Z1 : Sl) (Z2 : Sl) (Z3 : Sl) (told_so : List (List Int)) (a : Int) (one : Int) (Q : Hd) (E : DS) : Prop := ∃ D7 D8, E = ⟨[.val (.cell 0), Z1, Z2, Z3, .val ((eU (eU eI)) told_so), .val (eI a), .val (eI one), D7, D8], [Q.1]⟩
theorem l3__law_sums_right_bd (Z1 : Sl) (Z2 : Sl) (Z3 : Sl) (told_so : List (List Int)) (a : Int) (one : Int) (hd : Hd) (X3 : Int × Int) (E : DS) (HI : I3__law_sums_right Z1 Z2 Z3 told_so a one hd E) {O : Fw (Hd) (Bool × Hd)} (H : s3__law_sums_right told_so a one hd X3 = some O) : ∃ E1, asgT (.tp [(.nm 7), (.nm 8)]) ((eP2 eI eI) X3) E.e = some E1 ∧ BodyOk bd2__law_sums_right ⟨E1, E.t⟩ (I3__law_sums_right Z1 Z2 Z3 told_so a one) (fun V : (Bool × Hd) => (eB V.1, false)) (fun V E => E.t = [V.2.1]) O := by
  obtain ⟨D7, D8, rfl⟩ := HI
  refine ⟨[.val (.cell 0), Z1, Z2, Z3, .val ((eU (eU eI)) told_so), .val (eI a), .val (eI one), .val (eI X3.1), .val (eI X3.2)], rfl, ?_⟩
  unfold s3__law_sums_right at H
  obtain ⟨v_26, Hv_26, H⟩ := Option.bind_eq_some_iff.mp H
  have Kv_26 : ixG (.tup false (List.map (eU eI) told_so)) (.int a) = some (.tup false (List.map eI v_26)) := by
    have := ixG_U false (eU eI) told_so a
    rw [Hv_26] at this
    exact this
  obtain ⟨v_27, Hv_27, H⟩ := Option.bind_eq_some_iff.mp H
  have Kv_27 : ixG (.tup false (List.map eI v_26)) (.int X3.1) = some (.int v_27) := by
    have := ixG_U false eI v_26 X3.1
    rw [Hv_27] at this
    exact this
  rcases ite_inv H with ⟨C_28, H⟩ | ⟨C_28, H⟩
  · -- +
    replace C_28 := decide_eq_true C_28
    obtain rfl := Option.some.inj H
    refine ⟨⟨[.val (.cell 0), Z1, Z2, Z3, .val ((eU (eU eI)) told_so), .val (eI a), .val (eI one), .val (eI X3.1), .val (eI X3.2)], [hd.1]⟩, .inl ?_, ⟨.val (eI X3.1), .val (eI X3.2), rfl⟩⟩
    (push_cast [bd2__law_sums_right, Kv_26, Kv_27, C_28, Nat.reduceAdd, Nat.reduceSub, Nat.reduceLT, Nat.reduceLeDiff, Int.reduceLT, Int.reduceLE, Int.reduceNeg, Int.reducePow, Int.reduceToNat]; try with_reducible rfl)
  · -- -
    replace C_28 := decide_eq_false C_28
    obtain rfl := Option.some.inj H
    refine ⟨⟨[.val (.cell 0), Z1, Z2, Z3, .val ((eU (eU eI)) told_so), .val (eI a), .val (eI one), .val (eI X3.1), .val (eI X3.2)], [hd.1]⟩, ?_, rfl⟩
    (push_cast [bd2__law_sums_right, Kv_26, Kv_27, C_28, Nat.reduceAdd, Nat.reduceSub, Nat.reduceLT, Nat.reduceLeDiff, Int.reduceLT, Int.reduceLE, Int.reduceNeg, Int.reducePow, Int.reduceToNat]; try with_reducible rfl)
def s2__law_sums_right (across : List Int) (told_so : List (List Int)) (hd : Hd) (X2 : Int × Int) : Option (Fw (Hd) (Bool × Hd)) :=
  (forO (fun Q X3 => s3__law_sums_right told_so X2.1 X2.2 Q X3) (enumT 0 across) hd).bind fun l_29 =>
  sumM l_29 (fun s_34 =>
    some (.nx s_34))
    (fun r_35 => some (.rt r_35))
def I2__law_sums_right (Z1 : Sl) (across : List Int) (Z3 : Sl) (told_so : List (List Int)) (Q : Hd) (E : DS) : Prop := ∃ D5 D6 D7 D8, E = ⟨[.val (.cell 0), Z1, .val ((eL eI) across), Z3, .val ((eU (eU eI)) told_so), D5, D6, D7, D8], [Q.1]⟩
theorem l2__law_sums_right_bd (Z1 : Sl) (across : List Int) (Z3 : Sl) (told_so : List (List Int)) (hd : Hd) (X2 : Int × Int) (E : DS) (HI : I2__law_sums_right Z1 across Z3 told_so hd E) {O : Fw (Hd) (Bool × Hd)} (H : s2__law_sums_right across told_so hd X2 = some O) : ∃ E1, asgT (.tp [(.nm 5), (.nm 6)]) ((eP2 eI eI) X2) E.e = some E1 ∧ BodyOk bd3__law_sums_right ⟨E1, E.t⟩ (I2__law_sums_right Z1 across Z3 told_so) (fun V : (Bool × Hd) => (eB V.1, false)) (fun V E => E.t = [V.2.1]) O := by
  obtain ⟨D5, D6, D7, D8, rfl⟩ := HI
  refine ⟨[.val (.cell 0), Z1, .val ((eL eI) across), Z3, .val ((eU (eU eI)) told_so), .val (eI X2.1), .val (eI X2.2), D7, D8], rfl, ?_⟩
  unfold s2__law_sums_right at H
  have K_25 := enumP_t eI 0 across
  obtain ⟨l_29, Hl_29, H⟩ := Option.bind_eq_some_iff.mp H
  have K_30 : it2__law_sums_right ⟨[.val (.cell 0), Z1, .val ((eL eI) across), Z3, .val ((eU (eU eI)) told_so), .val (eI X2.1), .val (eI X2.2), D7, D8], [hd.1]⟩ = .ok ((enumT 0 across).map (eP2 eI eI)) ⟨[.val (.cell 0), Z1, .val ((eL eI) across), Z3, .val ((eU (eU eI)) told_so), .val (eI X2.1), .val (eI X2.2), D7, D8], [hd.1]⟩ := by (push_cast [it2__law_sums_right, K_25, Nat.reduceAdd, Nat.reduceSub, Nat.reduceLT, Nat.reduceLeDiff, Int.reduceLT, Int.reduceLE, Int.reduceNeg, Int.reducePow, Int.reduceToNat]; try with_reducible rfl)
  have Kl_29 := for_for (I := I3__law_sums_right Z1 (.val ((eL eI) across)) Z3 told_so X2.1 X2.2) (R := (fun V : (Bool × Hd) => (eB V.1, false))) (J := (fun V E => E.t = [V.2.1])) (tg := (.tp [(.nm 7), (.nm 8)])) (b := bd2__law_sums_right) (E := (eP2 eI eI)) (fun Q E X3 O HI H => l3__law_sums_right_bd Z1 (.val ((eL eI) across)) Z3 told_so X2.1 X2.2 Q X3 E HI H) (enumT 0 across) hd ⟨[.val (.cell 0), Z1, .val ((eL eI) across), Z3, .val ((eU (eU eI)) told_so), .val (eI X2.1), .val (eI X2.2), D7, D8], [hd.1]⟩ _ ⟨D7, D8, rfl⟩ Hl_29
  rcases sumM_inv H with ⟨s_34, HO, H⟩ | ⟨r_35, HO, H⟩
  · subst HO
    obtain ⟨E_33, Kl_29, ⟨D_31, D_32, rfl⟩⟩ := Kl_29
    have K_36 : lp2__law_sums_right ⟨[.val (.cell 0), Z1, .val ((eL eI) across), Z3, .val ((eU (eU eI)) told_so), .val (eI X2.1), .val (eI X2.2), D7, D8], [hd.1]⟩ = .ok .nx ⟨[.val (.cell 0), Z1, .val ((eL eI) across), Z3, .val ((eU (eU eI)) told_so), .val (eI X2.1), .val (eI X2.2), D_31, D_32], [s_34.1]⟩ := by
      show forS _ _ _ _ = _
      rw [forS_ap, K_30, bind_ok]; exact Kl_29
    try push_cast [DR.bind_ok] at K_36
    obtain rfl := Option.some.inj H
    refine ⟨⟨[.val (.cell 0), Z1, .val ((eL eI) across), Z3, .val ((eU (eU eI)) told_so), .val (eI X2.1), .val (eI X2.2), D_31, D_32], [s_34.1]⟩, .inl ?_, ⟨.val (eI X2.1), .val (eI X2.2), D_31, D_32, rfl⟩⟩
    (push_cast [bd3__law_sums_right, K_25, K_36, Nat.reduceAdd, Nat.reduceSub, Nat.reduceLT, Nat.reduceLeDiff, Int.reduceLT, Int.reduceLE, Int.reduceNeg, Int.reducePow, Int.reduceToNat]; try with_reducible rfl)
  · subst HO
    obtain ⟨⟨E_37, E_37t⟩, Kl_29, HT⟩ := Kl_29
    replace HT : E_37t = [r_35.2.1] := HT
    rw [HT] at Kl_29
    have K_36 : lp2__law_sums_right ⟨[.val (.cell 0), Z1, .val ((eL eI) across), Z3, .val ((eU (eU eI)) told_so), .val (eI X2.1), .val (eI X2.2), D7, D8], [hd.1]⟩ = .ok (.rt (eB r_35.1) false) ⟨E_37, [r_35.2.1]⟩ := by
      show forS _ _ _ _ = _
      rw [forS_ap, K_30, bind_ok]; exact Kl_29
    try push_cast [DR.bind_ok] at K_36
    obtain rfl := Option.some.inj H
    refine ⟨⟨E_37, [r_35.2.1]⟩, ?_, rfl⟩
    (push_cast [bd3__law_sums_right, K_25, K_36, Nat.reduceAdd, Nat.reduceSub, Nat.reduceLT, Nat.reduceLeDiff, Int.reduceLT, Int.reduceLE, Int.reduceNeg, Int.reducePow, Int.reduceToNat]; try with_reducible rfl)
def m__law_sums_right (hd : Hd) : Option (Bool × Hd) :=
  (m__law_draw hd 3).bind fun r_1 =>
  (m__law_draw r_1.2 3).bind fun r_2 =>
  (m__law_draw r_2.2 5).bind fun r_3 =>
  (rngO 0 (1 + r_3.1)).bind fun g_4 =>
  (foldO (fun Q X0 => s0__law_sums_right  Q.1 Q.2 X0) g_4 (r_3.2, [(0 - r_1.1)])).bind fun l_8 =>
  (m__law_draw l_8.1 5).bind fun r_13 =>
  (rngO 0 (1 + r_13.1)).bind fun g_14 =>
  (foldO (fun Q X1 => s1__law_sums_right  Q.1 Q.2 X1) g_14 (r_13.2, [(0 - r_2.1)])).bind fun l_18 =>
  (m_by_sums l_8.2 l_18.2).bind fun r_23 =>
  (forO (fun Q X2 => s2__law_sums_right l_18.2 r_23 Q X2) (enumT 0 l_8.2) l_18.1).bind fun l_38 =>
  sumM l_38 (fun s_45 =>
    (m_is_heights_1 (l_8.2.length : Int) (l_18.2.length : Int) r_23).bind fun r_48 =>
    some ((decide (r_48 = true)), s_45))
    (fun r_46 => some r_46)
theorem w__law_sums_right (hd : Hd) {V : (Bool × Hd)} (H : m__law_sums_right hd = some V) : F__law_sums_right [.cell 0] [hd.1] = .ok (eB V.1) false [V.2.1] := by
  unfold m__law_sums_right at H
  obtain ⟨r_1, Hr_1, H⟩ := Option.bind_eq_some_iff.mp H
  have Kr_1 := w__law_draw hd 3 Hr_1
  obtain ⟨r_2, Hr_2, H⟩ := Option.bind_eq_some_iff.mp H
  have Kr_2 := w__law_draw r_1.2 3 Hr_2
  obtain ⟨r_3, Hr_3, H⟩ := Option.bind_eq_some_iff.mp H
  have Kr_3 := w__law_draw r_2.2 5 Hr_3
  obtain ⟨g_4, Hg_4, H⟩ := Option.bind_eq_some_iff.mp H
  obtain ⟨l_8, Hl_8, H⟩ := Option.bind_eq_some_iff.mp H
  have K_9 : it0__law_sums_right ⟨[.val (.cell 0), .own ((eL eI) ([(0 - r_1.1)])), .own ((eL eI) ([(0 - r_2.1)])), .no, .no, .no, .no, .no, .no], [r_2.2.1]⟩ = .ok (g_4.map eI) ⟨[.val (.cell 0), .own ((eL eI) ([(0 - r_1.1)])), .own ((eL eI) ([(0 - r_2.1)])), .no, .no, .no, .no, .no, .no], [r_3.2.1]⟩ := by (push_cast [it0__law_sums_right, Kr_1, Kr_2, Kr_3, Hg_4, Nat.reduceAdd, Nat.reduceSub, Nat.reduceLT, Nat.reduceLeDiff, Int.reduceLT, Int.reduceLE, Int.reduceNeg, Int.reducePow, Int.reduceToNat]; try with_reducible rfl)
  have Kl_8 := for_fold (I := I0__law_sums_right (.own ((eL eI) ([(0 - r_2.1)])))) (tg := (.nm 3)) (b := bd0__law_sums_right) (E := eI) (fun Q E X0 O HI H => l0__law_sums_right_bd (.own ((eL eI) ([(0 - r_2.1)]))) Q.1 Q.2 X0 E HI H) g_4 (r_3.2, [(0 - r_1.1)]) ⟨[.val (.cell 0), .own ((eL eI) ([(0 - r_1.1)])), .own ((eL eI) ([(0 - r_2.1)])), .no, .no, .no, .no, .no, .no], [r_3.2.1]⟩ _ ⟨.no, rfl⟩ Hl_8
  obtain ⟨E_11, Kl_8, ⟨D_10, rfl⟩⟩ := Kl_8
  have K_12 : lp0__law_sums_right ⟨[.val (.cell 0), .own ((eL eI) ([(0 - r_1.1)])), .own ((eL eI) ([(0 - r_2.1)])), .no, .no, .no, .no, .no, .no], [r_2.2.1]⟩ = .ok .nx ⟨[.val (.cell 0), .own ((eL eI) l_8.2), .own ((eL eI) ([(0 - r_2.1)])), D_10, .no, .no, .no, .no, .no], [l_8.1.1]⟩ := by
    show forS _ _ _ _ = _
    rw [forS_ap, K_9, bind_ok]; exact Kl_8
  try push_cast [DR.bind_ok] at K_12
  obtain ⟨r_13, Hr_13, H⟩ := Option.bind_eq_some_iff.mp H
  have Kr_13 := w__law_draw l_8.1 5 Hr_13
  obtain ⟨g_14, Hg_14, H⟩ := Option.bind_eq_some_iff.mp H
  obtain ⟨l_18, Hl_18, H⟩ := Option.bind_eq_some_iff.mp H
  have K_19 : it1__law_sums_right ⟨[.val (.cell 0), .own ((eL eI) l_8.2), .own ((eL eI) ([(0 - r_2.1)])), D_10, .no, .no, .no, .no, .no], [l_8.1.1]⟩ = .ok (g_14.map eI) ⟨[.val (.cell 0), .own ((eL eI) l_8.2), .own ((eL eI) ([(0 - r_2.1)])), D_10, .no, .no, .no, .no, .no], [r_13.2.1]⟩ := by (push_cast [it1__law_sums_right, Kr_1, Kr_2, Kr_3, Hg_4, K_12, Kr_13, Hg_14, Nat.reduceAdd, Nat.reduceSub, Nat.reduceLT, Nat.reduceLeDiff, Int.reduceLT, Int.reduceLE, Int.reduceNeg, Int.reducePow, Int.reduceToNat]; try with_reducible rfl)
  have Kl_18 := for_fold (I := I1__law_sums_right (.own ((eL eI) l_8.2))) (tg := (.nm 3)) (b := bd1__law_sums_right) (E := eI) (fun Q E X1 O HI H => l1__law_sums_right_bd (.own ((eL eI) l_8.2)) Q.1 Q.2 X1 E HI H) g_14 (r_13.2, [(0 - r_2.1)]) ⟨[.val (.cell 0), .own ((eL eI) l_8.2), .own ((eL eI) ([(0 - r_2.1)])), D_10, .no, .no, .no, .no, .no], [r_13.2.1]⟩ _ ⟨D_10, rfl⟩ Hl_18
  obtain ⟨E_21, Kl_18, ⟨D_20, rfl⟩⟩ := Kl_18
  have K_22 : lp1__law_sums_right ⟨[.val (.cell 0), .own ((eL eI) l_8.2), .own ((eL eI) ([(0 - r_2.1)])), D_10, .no, .no, .no, .no, .no], [l_8.1.1]⟩ = .ok .nx ⟨[.val (.cell 0), .own ((eL eI) l_8.2), .own ((eL eI) l_18.2), D_20, .no, .no, .no, .no, .no], [l_18.1.1]⟩ := by
    show forS _ _ _ _ = _
    rw [forS_ap, K_19, bind_ok]; exact Kl_18
  try push_cast [DR.bind_ok] at K_22
  obtain ⟨r_23, Hr_23, H⟩ := Option.bind_eq_some_iff.mp H
  have Kr_23 : F_by_sums [(.tup false (List.map eI l_8.2)), (.tup false (List.map eI l_18.2))] ([l_18.1.1]) = .ok (.tup false (List.map (eU eI) r_23)) false ([l_18.1.1]) := w_by_sums l_8.2 l_18.2 ([l_18.1.1]) Hr_23
  have K_24 := enumP_t eI 0 l_8.2
  obtain ⟨l_38, Hl_38, H⟩ := Option.bind_eq_some_iff.mp H
  have K_39 : it3__law_sums_right ⟨[.val (.cell 0), .own ((eL eI) l_8.2), .val ((eL eI) l_18.2), D_20, .val ((eU (eU eI)) r_23), .no, .no, .no, .no], [l_18.1.1]⟩ = .ok ((enumT 0 l_8.2).map (eP2 eI eI)) ⟨[.val (.cell 0), .val ((eL eI) l_8.2), .val ((eL eI) l_18.2), D_20, .val ((eU (eU eI)) r_23), .no, .no, .no, .no], [l_18.1.1]⟩ := by (push_cast [it3__law_sums_right, Kr_1, Kr_2, Kr_3, Hg_4, K_12, Kr_13, Hg_14, K_22, Kr_23, K_24, Nat.reduceAdd, Nat.reduceSub, Nat.reduceLT, Nat.reduceLeDiff, Int.reduceLT, Int.reduceLE, Int.reduceNeg, Int.reducePow, Int.reduceToNat]; try with_reducible rfl)
  have Kl_38 := for_for (I := I2__law_sums_right (.val ((eL eI) l_8.2)) l_18.2 D_20 r_23) (R := (fun V : (Bool × Hd) => (eB V.1, false))) (J := (fun V E => E.t = [V.2.1])) (tg := (.tp [(.nm 5), (.nm 6)])) (b := bd3__law_sums_right) (E := (eP2 eI eI)) (fun Q E X2 O HI H => l2__law_sums_right_bd (.val ((eL eI) l_8.2)) l_18.2 D_20 r_23 Q X2 E HI H) (enumT 0 l_8.2) l_18.1 ⟨[.val (.cell 0), .val ((eL eI) l_8.2), .val ((eL eI) l_18.2), D_20, .val ((eU (eU eI)) r_23), .no, .no, .no, .no], [l_18.1.1]⟩ _ ⟨.no, .no, .no, .no, rfl⟩ Hl_38
  rcases sumM_inv H with ⟨s_45, HO, H⟩ | ⟨r_46, HO, H⟩
  · subst HO
    obtain ⟨E_44, Kl_38, ⟨D_40, D_41, D_42, D_43, rfl⟩⟩ := Kl_38
    have K_47 : lp3__law_sums_right ⟨[.val (.cell 0), .own ((eL eI) l_8.2), .val ((eL eI) l_18.2), D_20, .val ((eU (eU eI)) r_23), .no, .no, .no, .no], [l_18.1.1]⟩ = .ok .nx ⟨[.val (.cell 0), .val ((eL eI) l_8.2), .val ((eL eI) l_18.2), D_20, .val ((eU (eU eI)) r_23), D_40, D_41, D_42, D_43], [s_45.1]⟩ := by
      show forS _ _ _ _ = _
      rw [forS_ap, K_39, bind_ok]; exact Kl_38
    try push_cast [DR.bind_ok] at K_47
    obtain ⟨r_48, Hr_48, H⟩ := Option.bind_eq_some_iff.mp H
    have Kr_48 : F_is_heights [(.int (l_8.2.length : Int)), (.int (l_18.2.length : Int)), (.tup false (List.map (eU eI) r_23))] ([s_45.1]) = .ok (.bl r_48) false ([s_45.1]) := w_is_heights_1 (l_8.2.length : Int) (l_18.2.length : Int) r_23 ([s_45.1]) Hr_48
    obtain rfl := Option.some.inj H
    (push_cast [F__law_sums_right, b__law_sums_right, Kr_1, Kr_2, Kr_3, Hg_4, K_12, Kr_13, Hg_14, K_22, Kr_23, K_24, K_47, Kr_48, Nat.reduceAdd, Nat.reduceSub, Nat.reduceLT, Nat.reduceLeDiff, Int.reduceLT, Int.reduceLE, Int.reduceNeg, Int.reducePow, Int.reduceToNat]; try with_reducible rfl)
  · subst HO
    obtain ⟨⟨E_49, E_49t⟩, Kl_38, HT⟩ := Kl_38
    replace HT : E_49t = [r_46.2.1] := HT
    rw [HT] at Kl_38
    have K_47 : lp3__law_sums_right ⟨[.val (.cell 0), .own ((eL eI) l_8.2), .val ((eL eI) l_18.2), D_20, .val ((eU (eU eI)) r_23), .no, .no, .no, .no], [l_18.1.1]⟩ = .ok (.rt (eB r_46.1) false) ⟨E_49, [r_46.2.1]⟩ := by
      show forS _ _ _ _ = _
      rw [forS_ap, K_39, bind_ok]; exact Kl_38
    try push_cast [DR.bind_ok] at K_47
    obtain rfl := Option.some.inj H
    (push_cast [F__law_sums_right, b__law_sums_right, Kr_1, Kr_2, Kr_3, Hg_4, K_12, Kr_13, Hg_14, K_22, Kr_23, K_24, K_47, Nat.reduceAdd, Nat.reduceSub, Nat.reduceLT, Nat.reduceLeDiff, Int.reduceLT, Int.reduceLE, Int.reduceNeg, Int.reducePow, Int.reduceToNat]; try with_reducible rfl)
def x0_law (hd : Hd) : Option (Bool × Hd) :=
  (m__law_plain_right hd).bind fun r_4 =>
  if r_4.1 = true then
    (m__law_held_right r_4.2).bind fun r_6 =>
    if r_6.1 = true then
      (m__law_sums_right r_6.2).bind fun r_8 =>
      some (r_8.1, r_8.2)
    else
    some (false, r_6.2)
  else
  some (false, r_4.2)
theorem x0_law_ok (Z0 : Sl) (Z2 : Sl) (hd : Hd) {W : (Bool × Hd)} (H : x0_law hd = some W) : xe0_law ⟨[Z0, .val (.cell 0), Z2], [hd.1]⟩ = .ok (eB W.1) ⟨[Z0, .val (.cell 0), Z2], [W.2.1]⟩ := by
  unfold x0_law at H
  obtain ⟨r_4, Hr_4, H⟩ := Option.bind_eq_some_iff.mp H
  have Kr_4 : F__law_plain_right [.cell 0] [hd.1] = .ok (.bl r_4.1) false [r_4.2.1] := w__law_plain_right hd Hr_4
  rcases iteB_inv H with ⟨C_5, H⟩ | ⟨C_5, H⟩
  · -- +
    obtain ⟨r_6, Hr_6, H⟩ := Option.bind_eq_some_iff.mp H
    have Kr_6 : F__law_held_right [.cell 0] [r_4.2.1] = .ok (.bl r_6.1) false [r_6.2.1] := w__law_held_right r_4.2 Hr_6
    rcases iteB_inv H with ⟨C_7, H⟩ | ⟨C_7, H⟩
    · -- +
      obtain ⟨r_8, Hr_8, H⟩ := Option.bind_eq_some_iff.mp H
      have Kr_8 : F__law_sums_right [.cell 0] [r_6.2.1] = .ok (.bl r_8.1) false [r_8.2.1] := w__law_sums_right r_6.2 Hr_8
      obtain rfl := Option.some.inj H
      (push_cast [xe0_law, Kr_4, C_5, Kr_6, C_7, Kr_8, Nat.reduceAdd, Nat.reduceSub, Nat.reduceLT, Nat.reduceLeDiff, Int.reduceLT, Int.reduceLE, Int.reduceNeg, Int.reducePow, Int.reduceToNat]; try with_reducible rfl)
    · -- -
      obtain rfl := Option.some.inj H
      (push_cast [xe0_law, Kr_4, C_5, Kr_6, C_7, Nat.reduceAdd, Nat.reduceSub, Nat.reduceLT, Nat.reduceLeDiff, Int.reduceLT, Int.reduceLE, Int.reduceNeg, Int.reducePow, Int.reduceToNat]; try with_reducible rfl)
  · -- -
    obtain rfl := Option.some.inj H
    (push_cast [xe0_law, Kr_4, C_5, Nat.reduceAdd, Nat.reduceSub, Nat.reduceLT, Nat.reduceLeDiff, Int.reduceLT, Int.reduceLE, Int.reduceNeg, Int.reducePow, Int.reduceToNat]; try with_reducible rfl)
def b0_law  (hd : Hd) (Y0 : Int) : Option (Bool × Hd) :=
  (x0_law hd).bind fun w_9 =>
  some (w_9.1, w_9.2)
theorem c0_law_ok (Z0 : Sl) (hd : Hd) (XS : List Int) (HX : (range1I (constE (.int 3))) ⟨[Z0, .val (.cell 0), .no], [hd.1]⟩ = .ok (XS.map eI) ⟨[Z0, .val (.cell 0), .no], [hd.1]⟩) {Y : List Bool × Hd} (H : compN (b0_law) XS hd = some Y) : cp0_law ⟨[Z0, .val (.cell 0), .no], [hd.1]⟩ = .ok (.lst (Y.1.map eB), true) ⟨[Z0, .val (.cell 0), .no], [Y.2.1]⟩ := by
  refine (lcO_N (T := fun HD : Hd => [HD.1]) (E := eI) (F := eB) (f := b0_law) HX H fun hd Y0 V HD2 H => ⟨[Z0, .val (.cell 0), .val (eI Y0)], rfl, ?_⟩).trans (by rfl)
  unfold b0_law at H
  obtain ⟨w_9, Hw_9, H⟩ := Option.bind_eq_some_iff.mp H
  have Kw_9 := x0_law_ok Z0 (.val (eI Y0)) hd Hw_9
  try push_cast [DR.bind_ok] at Kw_9
  obtain ⟨rfl, rfl⟩ := Prod.mk.inj (Option.some.inj H)
  refine ⟨⟨[Z0, .val (.cell 0), .val (eI Y0)], [w_9.2.1]⟩, ?_, rfl, rfl⟩
  (push_cast [Kw_9, Nat.reduceAdd, Nat.reduceSub, Nat.reduceLT, Nat.reduceLeDiff, Int.reduceLT, Int.reduceLE, Int.reduceNeg, Int.reducePow, Int.reduceToNat]; try with_reducible rfl)
def m_law (hd : Hd) : Option (Bool × Hd) :=
  (m_line_told 2 2 ((0, 0), (1, 1))).bind fun r_1 =>
  if r_1 = [(0, 0), (0, 1)] then
    (compN (b0_law) (rng 0 3) hd).bind fun y_10 =>
    some ((y_10.1.all id), y_10.2)
  else
  some (false, hd)
theorem w_law (NS : List Int) (hd : Hd) (HN : F__law_hand [.scr (NS.map .int)] [] = .ok hd.1 true []) {V : (Bool × Hd)} (H : m_law hd = some V) : F_law [.scr (NS.map .int)] [] = .ok (eB V.1) false [V.2.1] := by
  unfold m_law at H
  obtain ⟨r_1, Hr_1, H⟩ := Option.bind_eq_some_iff.mp H
  have Kr_1 : F_line_told [(.int 2), (.int 2), (.tup false [(.tup false [(.int 0), (.int 0)]), (.tup false [(.int 1), (.int 1)])])] ([hd.1]) = .ok (.tup false (List.map (eP2 eI eI) r_1)) false ([hd.1]) := w_line_told 2 2 ((0, 0), (1, 1)) ([hd.1]) Hr_1
  have K_2 : eqG true (.tup false (List.map (eP2 eI eI) r_1)) (.tup false [(.tup false [(.int 0), (.int 0)]), (.tup false [(.int 0), (.int 1)])]) = some (.bl (true != decide (r_1 = [(0, 0), (0, 1)]))) := eq_t true (eU (eP2 eI eI)) r_1 ([(0, 0), (0, 1)]) (by decide)
  rcases ite_inv H with ⟨C_3, H⟩ | ⟨C_3, H⟩
  · -- +
    replace C_3 := decide_eq_true C_3
    obtain ⟨y_10, Hy_10, H⟩ := Option.bind_eq_some_iff.mp H
    have K_11 : (range1I (constE (.int 3))) ⟨[(.val (.scr (NS.map .int))), .val (.cell 0), .no], [hd.1]⟩ = .ok ((rng 0 3).map eI) ⟨[(.val (.scr (NS.map .int))), .val (.cell 0), .no], [hd.1]⟩ := by (push_cast [HN, Kr_1, K_2, C_3, rngO_ok, Nat.reduceAdd, Nat.reduceSub, Nat.reduceLT, Nat.reduceLeDiff, Int.reduceLT, Int.reduceLE, Int.reduceNeg, Int.reducePow, Int.reduceToNat]; try with_reducible rfl)
    have Ky_10 := c0_law_ok ((.val (.scr (NS.map .int)))) hd (rng 0 3) K_11 Hy_10
    try push_cast [DR.bind_ok] at Ky_10
    obtain rfl := Option.some.inj H
    (push_cast [F_law, b_law, HN, Kr_1, K_2, C_3, Ky_10, Nat.reduceAdd, Nat.reduceSub, Nat.reduceLT, Nat.reduceLeDiff, Int.reduceLT, Int.reduceLE, Int.reduceNeg, Int.reducePow, Int.reduceToNat]; try with_reducible rfl)
  · -- -
    replace C_3 := decide_eq_false C_3
    obtain rfl := Option.some.inj H
    (push_cast [F_law, b_law, HN, Kr_1, K_2, C_3, Nat.reduceAdd, Nat.reduceSub, Nat.reduceLT, Nat.reduceLeDiff, Int.reduceLT, Int.reduceLE, Int.reduceNeg, Int.reducePow, Int.reduceToNat]; try with_reducible rfl)
end K95
namespace K95
open TM TL DR
/-! ### sheets of heights -/
structure Sheet (h w : Nat) (sh : List (List Int)) : Prop where
  h1 : 2 ≤ h
  h2 : h ≤ 8
  w1 : 2 ≤ w
  w2 : w ≤ 8
  len : sh.length = h
  row : ∀ r ∈ sh, r.length = w
  bnd : ∀ r ∈ sh, ∀ x ∈ r, -100 ≤ x ∧ x ≤ 100
  stp : ∀ a b a' b' : Nat, a < h → b < w → a' < h → b' < w → a' ≤ a + 1 → a ≤ a' + 1 → b' ≤ b + 1 → b ≤ b' + 1 → at2 sh a b - at2 sh a' b' ≤ 1
section
variable {h w : Nat} {sh : List (List Int)}
theorem Sheet.rowLen (s : Sheet h w sh) {a : Nat} (ha : a < h) : (sh.getD a []).length = w := s.row _ (getD_mem (by rw [s.len]; exact ha))
theorem Sheet.ix (s : Sheet h w sh) {a : Int} (h0 : 0 ≤ a) (ha : a < h) : idx sh a = some (sh.getD a.toNat []) := idx_ok [] h0 (by rw [s.len]; exact ha)
theorem Sheet.ix2 (s : Sheet h w sh) {a : Nat} {b : Int} (ha : a < h) (h0 : 0 ≤ b) (hb : b < w) : idx (sh.getD a []) b = some (at2 sh a b.toNat) := idx_ok 0 h0 (by rw [s.rowLen ha]; exact hb)
theorem Sheet.sz (s : Sheet h w sh) : h * w ≤ 64 := Nat.mul_le_mul s.h2 s.w2
theorem within_ok {i a b : Int} (h1 : a ≤ i) (h2 : i ≤ b) : m_is_within i a b = true := by
  simp [m_is_within, m_is_integer, h1, h2]
theorem sides_ok {h w : Int} (h1 : 2 ≤ h) (h2 : h ≤ 8) (w1 : 2 ≤ w) (w2 : w ≤ 8) : m_check_sides h w = some () := by
  simp [m_check_sides, within_ok, h1, h2, w1, w2]
theorem tuple_rows {l : List (List Int)} {n : Nat} (h : l.length = n) : m_is_tuple_2 l n n = true := by
  simp [m_is_tuple_2, h]
theorem tuple_row {l : List Int} {a b : Int} (h1 : a ≤ l.length) (h2 : (l.length : Int) ≤ b) : m_is_tuple_3 l a b = true := by
  simp [m_is_tuple_3, h1, h2]
theorem all_id {l : List Bool} (h : ∀ x ∈ l, x = true) : l.all id = true := List.all_eq_true.mpr fun x hx => h x hx
theorem step_ok (s : Sheet h w sh) {a b : Nat} (ha : a < h) (hb : b < w) {x y : Int} (hx0 : 0 ≤ x) (hx1 : x ≤ 1) (hy0 : -1 ≤ y) (hy1 : y ≤ 1) : s2_is_heights_1 h w sh a b (x, y) = some (.nx ()) := by
  have e : x1_is_heights_1 h w sh a b x y = some false := by
    unfold x1_is_heights_1
    by_cases c1 : (a : Int) + x < h
    · by_cases c2 : 0 ≤ (b : Int) + y ∧ (b : Int) + y < w
      · have p := s.stp a b ((a : Int) + x).toNat ((b : Int) + y).toNat ha hb (by omega) (by omega) (by omega) (by omega) (by omega) (by omega)
        have q := s.stp ((a : Int) + x).toNat ((b : Int) + y).toNat a b (by omega) (by omega) ha hb (by omega) (by omega) (by omega) (by omega)
        rw [if_pos c1, if_pos (by simp [c2]), s.ix (by omega) (by omega)]
        simp only [Option.bind_some, Int.toNat_natCast]
        rw [s.ix2 ha (by omega) (by omega)]
        simp only [Option.bind_some, Int.toNat_natCast]
        rw [s.ix (by omega) c1]
        simp only [Option.bind_some]
        rw [s.ix2 (by omega) c2.1 c2.2]
        simp only [Option.bind_some]
        refine congrArg some (decide_eq_false ?_)
        unfold iabs
        split <;> omega
      · rw [if_pos c1, if_neg (by simpa using c2)]
    · rw [if_neg c1]
  unfold s2_is_heights_1
  simp only [e, Option.bind_some]
  rfl
theorem is_heights_ok (s : Sheet h w sh) : m_is_heights_1 h w sh = some true := by
  have h1 := s.h1
  have h2 := s.h2
  have w1 := s.w1
  have w2 := s.w2
  have c0 : m_check_sides h w = some () := sides_ok (by omega) (by omega) (by omega) (by omega)
  have c1 : x0_is_heights_1 h w sh = some false := by
    unfold x0_is_heights_1
    rw [tuple_rows s.len, lenO_ok (by rw [List.length_map, s.len]; omega)]
    simp only [Bool.not_true, if_neg Bool.false_ne_true, Option.bind_some]
    rw [all_id fun x hx => ?_]
    · rfl
    · obtain ⟨r, hr, rfl⟩ := List.mem_map.mp hx
      have := s.row r hr
      exact tuple_row (by omega) (by omega)
  have c2 : comp2O (a1_is_heights_1 sh) (b1_is_heights_1 sh) sh = some (sh.flatMap fun r => r.filterMap fun y => some true) := by
    refine comp2O_ok (fun r => r) (fun r y => some true) ?_ (fun x hx => rfl) fun x hx y hy => ?_
    · have := flat_len (n := 8) (m := 8) (F := fun r : List Int => r.filterMap fun y => some true) (l := sh) (by rw [s.len]; omega) fun r hr => by
        have := List.length_filterMap_le (fun y : Int => some true) r
        have := s.row r hr
        omega
      omega
    · have := s.bnd x hx y hy
      unfold b1_is_heights_1
      rw [within_ok this.1 this.2]
  unfold m_is_heights_1
  rw [c0]
  simp only [Option.bind_some, c1, if_neg Bool.false_ne_true, c2]
  rw [all_id fun x hx => ?_]
  · rw [if_neg (by decide), rngO_0 (by omega)]
    simp only [Option.bind_some]
    rw [for_all fun a ha => ?_]
    · rfl
    · obtain ⟨a, hm, rfl⟩ := List.mem_map.mp ha
      have hm := List.mem_range.mp hm
      unfold s0_is_heights_1
      rw [rngO_0 (by omega)]
      simp only [Option.bind_some]
      rw [for_all fun b hb => ?_]
      · rfl
      · obtain ⟨b, hn, rfl⟩ := List.mem_map.mp hb
        have hn := List.mem_range.mp hn
        unfold s1_is_heights_1
        rw [for_all fun q hq => ?_]
        · rfl
        · simp only [List.mem_cons, List.not_mem_nil, or_false] at hq
          rcases hq with rfl | rfl | rfl | rfl <;> exact step_ok s hm hn (by decide) (by decide) (by decide) (by decide)
  · obtain ⟨r, _, hx⟩ := List.mem_flatMap.mp hx
    obtain ⟨y, _, hx⟩ := List.mem_filterMap.mp hx
    exact (Option.some.inj hx).symm
theorem check_ok (s : Sheet h w sh) : m_check_heights_1 h w sh = some () := by
  unfold m_check_heights_1
  rw [is_heights_ok s]
  rfl
/-! ### held -/
theorem max_le {l : List Int} {m : Int} (hl : l ≠ []) (h : ∀ x ∈ l, x ≤ m) : ∃ v, maxL l = some v ∧ v ≤ m := by
  cases l with
  | nil => exact absurd rfl hl
  | cons i is =>
    refine ⟨_, rfl, ?_⟩
    rcases (foldl_max_mem is i).1 with e | e
    · rw [e]; exact h i (List.mem_cons_self ..)
    · exact h _ (List.mem_cons_of_mem _ e)
theorem le_min {l : List Int} {m : Int} (hl : l ≠ []) (h : ∀ x ∈ l, m ≤ x) : ∃ v, minL l = some v ∧ m ≤ v := by
  cases l with
  | nil => exact absurd rfl hl
  | cons i is =>
    refine ⟨_, rfl, ?_⟩
    rcases (foldl_min_mem is i).1 with e | e
    · rw [e]; exact h i (List.mem_cons_self ..)
    · exact h _ (List.mem_cons_of_mem _ e)
theorem row_ne (s : Sheet h w sh) {a : Nat} (ha : a < h) : sh.getD a [] ≠ [] := fun e => by
  have := s.rowLen ha
  have := s.w1
  rw [e] at *
  simp at *
  omega
structure UD (h : Nat) (sh : List (List Int)) : Prop where
  lo : ∀ x ∈ sh.getD 0 [], x ≤ 0
  hi : ∀ x ∈ sh.getD (h - 1) [], 0 ≤ x
structure LR (w : Nat) (sh : List (List Int)) : Prop where
  lo : ∀ r ∈ sh, r.getD 0 0 ≤ 0
  hi : ∀ r ∈ sh, 0 ≤ r.getD (w - 1) 0
theorem ix_last (s : Sheet h w sh) : idx sh (-1) = some (sh.getD (h - 1) []) := by
  have := s.h1
  have l := s.len
  rw [idx_last [] (by omega), l]
theorem up_down_ok (s : Sheet h w sh) (u : UD h sh) : m_is_up_down_1 sh = some true := by
  have h1 := s.h1
  obtain ⟨v, e1, l1⟩ := max_le (row_ne s (a := 0) (by omega)) u.lo
  obtain ⟨y, e2, l2⟩ := le_min (row_ne s (a := h - 1) (by omega)) u.hi
  unfold m_is_up_down_1 x0_is_up_down_1
  rw [s.ix (a := 0) (by decide) (by omega)]
  simp only [Option.bind_some, Int.toNat_zero, e1, if_pos l1, ix_last s, e2, l2, decide_true]
theorem left_right_ok (s : Sheet h w sh) (u : LR w sh) : m_is_left_right sh = some true := by
  have h1 := s.h1
  have h2 := s.h2
  have w1 := s.w1
  have l := s.len
  have c0 : compM (b0_is_left_right sh) sh = some (sh.map fun r => r.getD 0 0) := compM_ok _ (by omega) fun r hr => by
    have := s.row r hr
    unfold b0_is_left_right
    rw [idx_ok 0 (by decide) (by omega)]
    rfl
  have c1 : compM (b1_is_left_right sh) sh = some (sh.map fun r => r.getD (w - 1) 0) := compM_ok _ (by omega) fun r hr => by
    have := s.row r hr
    unfold b1_is_left_right
    rw [idx_last 0 (by omega), this]
    rfl
  have ne : ∀ g : List Int → Int, sh.map g ≠ [] := fun g e => by
    have := congrArg List.length e
    simp at this
    rw [this] at l
    simp at l
    omega
  obtain ⟨v, e1, l1⟩ := max_le (ne _) (m := 0) fun x hx => by
    obtain ⟨r, hr, rfl⟩ := List.mem_map.mp hx
    exact u.lo r hr
  obtain ⟨y, e2, l2⟩ := le_min (ne _) (m := 0) fun x hx => by
    obtain ⟨r, hr, rfl⟩ := List.mem_map.mp hx
    exact u.hi r hr
  unfold m_is_left_right x0_is_left_right
  simp only [Option.bind_some, c0, c1, e1, if_pos l1, e2, l2, decide_true]
/-! ### noughts -/
def grid (h w : Nat) (P : Nat → Nat → Bool) : List (Int × Int) := ((List.range h).map fun (i : Nat) => (i : Int)).flatMap fun a => ((List.range w).map fun (i : Nat) => (i : Int)).filterMap fun b => if P a.toNat b.toNat = true then some (a, b) else none
theorem grid_len (P : Nat → Nat → Bool) : (grid h w P).length ≤ h * w := by
  unfold grid
  refine flat_len (by simp) fun x hx => Nat.le_trans (List.length_filterMap_le _ _) (by simp)
theorem grid_mem {P : Nat → Nat → Bool} {x : Int × Int} : x ∈ grid h w P ↔ (0 ≤ x.1 ∧ x.1 < h ∧ 0 ≤ x.2 ∧ x.2 < w) ∧ P x.1.toNat x.2.toNat = true := by
  unfold grid
  simp only [List.mem_flatMap, List.mem_map, List.mem_range, List.mem_filterMap]
  constructor
  · rintro ⟨_, ⟨a, ha, rfl⟩, _, ⟨b, hb, rfl⟩, e⟩
    split at e
    · rename_i p
      rw [← Option.some.inj e]
      exact ⟨by simp only; omega, p⟩
    · cases e
  · rintro ⟨hx, p⟩
    refine ⟨x.1, ⟨x.1.toNat, by omega, by omega⟩, x.2, ⟨x.2.toNat, by omega, by omega⟩, ?_⟩
    rw [if_pos p]
def zero (sh : List (List Int)) (a b : Nat) : Bool := decide (at2 sh a b = 0)
theorem noughts_ok (s : Sheet h w sh) : m_noughts h w sh = some (grid h w (zero sh)) := by
  have sz := s.sz
  have h2 := s.h2
  have w2 := s.w2
  unfold m_noughts
  rw [check_ok s, rngO_0 (by omega)]
  simp only [Option.bind_some]
  rw [comp2O_ok (fun _ => (List.range w).map fun (i : Nat) => (i : Int)) (fun a b => if zero sh a.toNat b.toNat = true then some (a, b) else none) ?_ (fun x hx => ?_) fun x hx y hy => ?_]
  · rfl
  · have := grid_len (h := h) (w := w) (zero sh)
    unfold grid at this
    omega
  · unfold a0_noughts
    rw [rngO_0 (by omega)]
    rfl
  · obtain ⟨a, hm, rfl⟩ := List.mem_map.mp hx
    have hm := List.mem_range.mp hm
    obtain ⟨b, hn, rfl⟩ := List.mem_map.mp hy
    have hn := List.mem_range.mp hn
    unfold b0_noughts zero
    rw [s.ix (by omega) (by omega)]
    simp only [Option.bind_some, Int.toNat_natCast]
    rw [s.ix2 hm (by omega) (by omega)]
    simp only [Option.bind_some, Int.toNat_natCast]
    by_cases z : at2 sh a b = 0 <;> simp [z]
theorem both_ok {st : List (List Int)} (s : Sheet h w sh) (s' : Sheet h w st) : m_both_noughts h w sh st = some (grid h w fun a b => zero sh a b && zero st a b) := by
  have sz := s.sz
  have h2 := s.h2
  have w2 := s.w2
  unfold m_both_noughts
  rw [check_ok s, check_ok s', rngO_0 (by omega)]
  simp only [Option.bind_some]
  rw [comp2O_ok (fun _ => (List.range w).map fun (i : Nat) => (i : Int)) (fun a b => if (zero sh a.toNat b.toNat && zero st a.toNat b.toNat) = true then some (a, b) else none) ?_ (fun x hx => ?_) fun x hx y hy => ?_]
  · rfl
  · have := grid_len (h := h) (w := w) fun a b => zero sh a b && zero st a b
    exact Nat.le_trans this (by omega)
  · unfold a0_both_noughts
    rw [rngO_0 (by omega)]
    rfl
  · obtain ⟨a, hm, rfl⟩ := List.mem_map.mp hx
    have hm := List.mem_range.mp hm
    obtain ⟨b, hn, rfl⟩ := List.mem_map.mp hy
    have hn := List.mem_range.mp hn
    unfold b0_both_noughts x0_both_noughts zero
    rw [s.ix (by omega) (by omega)]
    simp only [Option.bind_some, Int.toNat_natCast]
    rw [s.ix2 hm (by omega) (by omega)]
    simp only [Option.bind_some, Int.toNat_natCast]
    by_cases z : at2 sh a b = 0
    · rw [if_pos z, s'.ix (by omega) (by omega)]
      simp only [Option.bind_some, Int.toNat_natCast]
      rw [s'.ix2 hm (by omega) (by omega)]
      simp only [Option.bind_some, Int.toNat_natCast]
      by_cases z' : at2 st a b = 0 <;> simp [z, z']
    · rw [if_neg z]
      simp [z]
end
end K95
namespace K95
open TM TL DR
section
variable {h w : Nat} {sh : List (List Int)}
/-! ### turned, backed -/
def flip (sh : List (List Int)) (w : Nat) : List (List Int) := (List.range w).map fun b => sh.map fun r => r.getD b 0
theorem turned_ok (s : Sheet h w sh) : m_turned h w sh = some (flip sh w) := by
  have h2 := s.h2
  have w2 := s.w2
  have l := s.len
  unfold m_turned
  rw [check_ok s, rngO_0 (by omega)]
  simp only [Option.bind_some]
  rw [compM_ok (fun b : Int => sh.map fun r => r.getD b.toNat 0) (by simp; omega) fun b hb => ?_]
  · simp only [Option.bind_some, flip, List.map_map]
    refine congrArg some (List.map_congr_left fun b hb => ?_)
    simp
  · obtain ⟨b, hn, rfl⟩ := List.mem_map.mp hb
    have hn := List.mem_range.mp hn
    unfold b0_turned
    rw [compM_ok (fun r : List Int => r.getD b 0) (by omega) fun r hr => ?_]
    · rfl
    · have := s.row r hr
      unfold b1_turned
      rw [idx_nat 0 (by omega)]
      rfl
theorem flip_at (s : Sheet w h sh) {a b : Nat} (ha : a < h) (hb : b < w) : at2 (flip sh h) a b = at2 sh b a := by
  have l := s.len
  unfold at2 flip
  simp only [List.getD_eq_getElem?_getD, List.getElem?_map]
  rw [List.getElem?_range ha]
  simp only [Option.map_some, Option.getD_some, List.getElem?_map, List.getElem?_eq_getElem (show b < sh.length by omega)]
theorem flip_sheet (s : Sheet w h sh) : Sheet h w (flip sh h) := by
  refine ⟨s.w1, s.w2, s.h1, s.h2, by simp [flip], fun r hr => ?_, fun r hr x hx => ?_, fun a b a' b' ha hb ha' hb' d1 d2 d3 d4 => ?_⟩
  · obtain ⟨a, _, rfl⟩ := List.mem_map.mp hr
    rw [List.length_map, s.len]
  · obtain ⟨a, ha, rfl⟩ := List.mem_map.mp hr
    obtain ⟨r, hr, rfl⟩ := List.mem_map.mp hx
    exact s.bnd r hr _ (getD_mem (by rw [s.row r hr]; exact List.mem_range.mp ha))
  · rw [flip_at s ha hb, flip_at s ha' hb']
    exact s.stp b a b' a' hb ha hb' ha' d3 d4 d1 d2
theorem flip_getD {a i : Nat} (hi : i < sh.length) : (sh.map fun r => r.getD a 0).getD i 0 = (sh.getD i []).getD a 0 := by
  simp only [List.getD_eq_getElem?_getD, List.getElem?_map, List.getElem?_eq_getElem hi, Option.map_some, Option.getD_some]
theorem flip_lr (s : Sheet w h sh) (u : UD w sh) : LR w (flip sh h) := by
  have w1 := s.h1
  have l := s.len
  refine ⟨fun r hr => ?_, fun r hr => ?_⟩
  · obtain ⟨a, ha, rfl⟩ := List.mem_map.mp hr
    have ha := List.mem_range.mp ha
    rw [flip_getD (by omega)]
    exact u.lo _ (getD_mem (by rw [s.rowLen (by omega)]; exact ha))
  · obtain ⟨a, ha, rfl⟩ := List.mem_map.mp hr
    have ha := List.mem_range.mp ha
    rw [flip_getD (by omega)]
    exact u.hi _ (getD_mem (by rw [s.rowLen (by omega)]; exact ha))
def back (sh : List (List Int)) : List (List Int) := sh.reverse.map fun r => r.map fun x => -x
theorem backed_ok (s : Sheet h w sh) : m_backed h w sh = some (back sh) := by
  have h2 := s.h2
  have w2 := s.w2
  have l := s.len
  unfold m_backed
  rw [check_ok s]
  simp only [Option.bind_some]
  rw [compM_ok (fun r : List Int => r.map fun x => -x) (by rw [List.length_reverse]; omega) fun r hr => ?_]
  · rfl
  · have := s.row r (List.mem_reverse.mp hr)
    unfold b0_backed
    rw [lenO_ok (by rw [List.length_map]; omega)]
    rfl
theorem back_getD (s : Sheet h w sh) {i : Nat} (hi : i < h) : (back sh).getD i [] = (sh.getD (h - 1 - i) []).map fun x => -x := by
  have l := s.len
  unfold back
  simp only [List.getD_eq_getElem?_getD, List.getElem?_map]
  rw [List.getElem?_reverse (by omega), l, List.getElem?_eq_getElem (show h - 1 - i < sh.length by omega)]
  rfl
theorem back_sheet (s : Sheet h w sh) : Sheet h w (back sh) := by
  have h1 := s.h1
  have l := s.len
  refine ⟨s.h1, s.h2, s.w1, s.w2, by simp [back, l], fun r hr => ?_, fun r hr x hx => ?_, fun a b a' b' ha hb ha' hb' d1 d2 d3 d4 => ?_⟩
  · obtain ⟨a, ha, rfl⟩ := List.mem_map.mp hr
    rw [List.length_map, s.row a (List.mem_reverse.mp ha)]
  · obtain ⟨q, hq, rfl⟩ := List.mem_map.mp hr
    obtain ⟨y, hy, rfl⟩ := List.mem_map.mp hx
    have := s.bnd q (List.mem_reverse.mp hq) y hy
    omega
  · have e : ∀ {a b : Nat}, a < h → b < w → at2 (back sh) a b = - at2 sh (h - 1 - a) b := fun {a b} ha hb => by
      unfold at2
      rw [back_getD s ha]
      have := s.rowLen (a := h - 1 - a) (by omega)
      simp only [List.getD_eq_getElem?_getD, List.getElem?_map]
      rw [List.getD_eq_getElem?_getD] at this
      rw [List.getElem?_eq_getElem (by omega)]
      rfl
    rw [e ha hb, e ha' hb']
    have := s.stp (h - 1 - a') b' (h - 1 - a) b (by omega) hb' (by omega) hb (by omega) (by omega) (by omega) (by omega)
    omega
theorem back_ud (s : Sheet h w sh) (u : UD h sh) : UD h (back sh) := by
  have h1 := s.h1
  refine ⟨fun x hx => ?_, fun x hx => ?_⟩
  · rw [back_getD s (by omega)] at hx
    obtain ⟨y, hy, rfl⟩ := List.mem_map.mp hx
    have := u.hi y hy
    omega
  · rw [back_getD s (by omega)] at hx
    obtain ⟨y, hy, rfl⟩ := List.mem_map.mp hx
    rw [show h - 1 - (h - 1) = 0 by omega] at hy
    have := u.lo y hy
    omega
/-! ### places on a board -/
theorem nodup_bound : ∀ (n : Nat) (l : List Nat), l.Nodup → (∀ x ∈ l, x < n) → l.length ≤ n
  | 0, l, _, h => by
    cases l with
    | nil => simp
    | cons a l => exact absurd (h a List.mem_cons_self) (by omega)
  | n + 1, l, hd, h => by
    have h1 : (l.erase n).length ≤ n := nodup_bound n (l.erase n) (hd.erase n) fun x hx => by
      have := (hd.mem_erase_iff).mp hx
      have := h x this.2
      omega
    by_cases hm : n ∈ l
    · rw [List.length_erase_of_mem hm] at h1
      omega
    · rw [List.erase_of_not_mem hm] at h1
      omega
abbrev On (h w : Nat) (x : Int × Int) : Prop := 0 ≤ x.1 ∧ x.1 < h ∧ 0 ≤ x.2 ∧ x.2 < w
def Board (h w : Nat) (l : List (Int × Int)) : Prop := l.Nodup ∧ ∀ x ∈ l, On h w x
theorem Board.le {l : List (Int × Int)} (b : Board h w l) : l.length ≤ h * w := by
  obtain ⟨hd, hb⟩ := b
  have e : (l.map fun x => x.1.toNat * w + x.2.toNat).length ≤ h * w := by
    refine nodup_bound _ _ ?_ fun y hy => ?_
    · rw [List.Nodup, List.pairwise_map]
      refine List.Pairwise.imp_of_mem (fun {x y} hx hy hne z => hne ?_) hd
      have hx := hb x hx
      have hy := hb y hy
      have hw : 0 < w := by omega
      have d1 : (x.1.toNat * w + x.2.toNat) / w = x.1.toNat := by
        rw [Nat.mul_comm, Nat.mul_add_div hw, Nat.div_eq_of_lt (by omega)]; omega
      have d2 : (y.1.toNat * w + y.2.toNat) / w = y.1.toNat := by
        rw [Nat.mul_comm, Nat.mul_add_div hw, Nat.div_eq_of_lt (by omega)]; omega
      rw [z, d2] at d1
      rw [d1] at z
      have e1 : x.1 = y.1 := by omega
      have e2 : x.2 = y.2 := by omega
      exact Prod.ext e1 e2
    · obtain ⟨x, hx, rfl⟩ := List.mem_map.mp hy
      have := hb x hx
      have h1 : x.1.toNat + 1 ≤ h := by omega
      have h2 : (x.1.toNat + 1) * w ≤ h * w := Nat.mul_le_mul_right w h1
      rw [Nat.add_mul] at h2
      omega
  rwa [List.length_map] at e
theorem Board.snoc {l : List (Int × Int)} (b : Board h w l) {x : Int × Int} (hx : x ∉ l) (hb : On h w x) : Board h w (l ++ [x]) := by
  refine ⟨?_, fun y hy => ?_⟩
  · rw [List.nodup_append]
    refine ⟨b.1, by simp, fun y hy z hz e => ?_⟩
    rw [List.mem_singleton.mp hz] at e
    exact hx (e ▸ hy)
  · rcases List.mem_append.mp hy with z | z
    · exact b.2 y z
    · rw [List.mem_singleton.mp z]; exact hb
def nb8 (x : Int × Int) : List (Int × Int) := [(x.1 + -1, x.2 + -1), (x.1 + -1, x.2 + 0), (x.1 + -1, x.2 + 1), (x.1 + 0, x.2 + -1), (x.1 + 0, x.2 + 1), (x.1 + 1, x.2 + -1), (x.1 + 1, x.2 + 0), (x.1 + 1, x.2 + 1)]
def inB (h w : Nat) (x : Int × Int) : Bool := ((decide (0 ≤ x.1)) && (decide (x.1 < h))) && ((decide (0 ≤ x.2)) && (decide (x.2 < w)))
theorem inB_iff {x : Int × Int} : inB h w x = true ↔ On h w x := by
  unfold inB On
  simp [and_assoc]
def nb (h w : Nat) (x : Int × Int) : List (Int × Int) := (nb8 x).filter (inB h w)
theorem around_ok (x : Int × Int) : m_around h w x = some (nb h w x) := by
  have c : comp2O (a0_around x) (b0_around x) [-1, 0, 1] = some (nb8 x) := by rfl
  unfold m_around
  rw [c]
  simp only [Option.bind_some, List.map_id']
  rw [lenO_ok]
  · rfl
  · have := List.length_filter_le (fun Y1 : Int × Int => (((decide (0 ≤ Y1.1)) && (decide (Y1.1 < h))) && ((decide (0 ≤ Y1.2)) && (decide (Y1.2 < w))))) (nb8 x)
    have e : (nb8 x).length = 8 := rfl
    omega
theorem nb_iff {x y : Int × Int} : y ∈ nb h w x ↔ On h w y ∧ x ≠ y ∧ y.1 ≤ x.1 + 1 ∧ x.1 ≤ y.1 + 1 ∧ y.2 ≤ x.2 + 1 ∧ x.2 ≤ y.2 + 1 := by
  unfold nb
  rw [List.mem_filter, inB_iff]
  obtain ⟨x1, x2⟩ := x
  obtain ⟨y1, y2⟩ := y
  simp only [nb8, List.mem_cons, List.not_mem_nil, or_false, Prod.mk.injEq, ne_eq, On]
  omega
end
end K95
namespace K95
open TM TL DR
/-! ### the line of noughts -/
abbrev Cell := Int × Int
abbrev En := Cell × Option Cell
structure Tree (sh : List (List Int)) (h w : Nat) (E : List En) : Prop where
  bd : Board h w (E.map (·.1))
  zr : ∀ e ∈ E, at2 sh e.1.1.toNat e.1.2.toNat = 0
  rt : ∀ e ∈ E, e.2 = none → e.1.2 = 0
  up : ∀ (i : Nat) (e : En) (p : Cell), E[i]? = some e → e.2 = some p → ∃ (j : Nat) (e' : En), j < i ∧ E[j]? = some e' ∧ e'.1 = p ∧ e.1 ∈ nb h w p
section
variable {h w : Nat} {sh : List (List Int)}
theorem Tree.snoc {E : List En} (T : Tree sh h w E) {c : Cell} {o : Option Cell} (hn : dlook E c = none) (hb : On h w c) (hz : at2 sh c.1.toNat c.2.toNat = 0) (hr : o = none → c.2 = 0) (hu : ∀ p, o = some p → p ∈ E.map (·.1) ∧ c ∈ nb h w p) : Tree sh h w (E ++ [(c, o)]) := by
  refine ⟨?_, fun e he => ?_, fun e he => ?_, fun i e p hi hp => ?_⟩
  · rw [List.map_append]
    exact T.bd.snoc (dlook_none.mp hn) hb
  · rcases List.mem_append.mp he with z | z
    · exact T.zr e z
    · rw [List.mem_singleton.mp z]; exact hz
  · rcases List.mem_append.mp he with z | z
    · exact T.rt e z
    · rw [List.mem_singleton.mp z]; exact hr
  · by_cases hl : i < E.length
    · rw [List.getElem?_append_left hl] at hi
      obtain ⟨j, e', h1, h2, h3⟩ := T.up i e p hi hp
      exact ⟨j, e', h1, by rw [List.getElem?_append_left (by omega)]; exact h2, h3⟩
    · rw [List.getElem?_append_right (by omega)] at hi
      have hi0 : i = E.length := by
        have := (List.getElem?_eq_some_iff.mp hi).1
        simp at this
        omega
      subst hi0
      rw [Nat.sub_self] at hi
      cases hi
      obtain ⟨m1, m2⟩ := hu p hp
      obtain ⟨e', he', rfl⟩ := List.mem_map.mp m1
      obtain ⟨j, hj, rfl⟩ := List.mem_iff_getElem.mp he'
      exact ⟨j, E[j], hj, by rw [List.getElem?_append_left hj, List.getElem?_eq_getElem hj], rfl, m2⟩
theorem Tree.le {E : List En} (s : Sheet h w sh) (T : Tree sh h w E) : E.length ≤ 64 := by
  have := T.bd.le
  rw [List.length_map] at this
  exact Nat.le_trans this s.sz
theorem step3 (s : Sheet h w sh) {E : List En} (T : Tree sh h w E) {o c : Cell} (ho : o ∈ E.map (·.1)) (hc : c ∈ nb h w o) : ∃ E', s3_line_of_1 sh o E (E.map (·.1)) c = some (E', E'.map (·.1)) ∧ Tree sh h w E' ∧ E <+: E' ∧ (at2 sh c.1.toNat c.2.toNat = 0 → c ∈ E'.map (·.1)) := by
  have le := T.le s
  have on := (nb_iff.mp hc).1
  obtain ⟨o1, o2, o3, o4⟩ := id on
  unfold s3_line_of_1 j1_line_of_1 x0_line_of_1
  cases hk : dlook E c with
  | some v =>
    refine ⟨E, rfl, T, List.prefix_refl _, fun _ => ?_⟩
    obtain ⟨i, hi⟩ := dlook_some hk
    exact List.mem_map.mpr ⟨_, List.mem_of_getElem? hi, rfl⟩
  | none =>
    rw [if_pos (by rfl), s.ix o1 o2]
    simp only [Option.bind_some]
    rw [s.ix2 (by omega) o3 o4]
    simp only [Option.bind_some]
    by_cases z : at2 sh c.1.toNat c.2.toNat = 0
    · refine ⟨E ++ [(c, some o)], ?_, T.snoc hk on z (fun e => by cases e) (fun p hp => by cases hp; exact ⟨ho, hc⟩), List.prefix_append _ _, fun _ => by simp⟩
      rw [if_pos (by simpa using z), dputO_ok (by omega), dput_new hk, snoc_ok (by rw [List.length_map]; omega)]
      simp
    · refine ⟨E, ?_, T, List.prefix_refl _, fun y => absurd y z⟩
      rw [if_neg (by simpa using z)]
      rfl
theorem fold3 (s : Sheet h w sh) {E : List En} (T : Tree sh h w E) {o : Cell} (ho : o ∈ E.map (·.1)) : ∃ E', foldO (fun Q X3 => s3_line_of_1 sh o Q.1 Q.2 X3) (nb h w o) (E, E.map (·.1)) = some (E', E'.map (·.1)) ∧ Tree sh h w E' ∧ E <+: E' ∧ ∀ c ∈ nb h w o, at2 sh c.1.toNat c.2.toNat = 0 → c ∈ E'.map (·.1) := by
  obtain ⟨s', e, E', rfl, k1, k2, k3⟩ := fold_inv (f := fun (Q : List En × List Cell) X3 => s3_line_of_1 sh o Q.1 Q.2 X3) (fun a s => ∃ E', s = (E', E'.map (·.1)) ∧ Tree sh h w E' ∧ E <+: E' ∧ ∀ c ∈ a, at2 sh c.1.toNat c.2.toNat = 0 → c ∈ E'.map (·.1)) (nb h w o) [] (E, E.map (·.1)) ⟨E, rfl, T, List.prefix_refl _, fun c hc => (nomatch hc)⟩ fun a s' c ⟨b, hb⟩ ⟨E1, e1, k1, k2, k3⟩ => by
    subst e1
    have hc : c ∈ nb h w o := by
      rw [List.nil_append] at hb
      rw [hb]
      simp
    have ho1 : o ∈ E1.map (·.1) := by
      obtain ⟨m, rfl⟩ := k2
      rw [List.map_append]
      exact List.mem_append_left _ ho
    obtain ⟨E2, e2, m1, m2, m3⟩ := step3 s k1 ho1 hc
    refine ⟨_, e2, E2, rfl, m1, k2.trans m2, fun c' hc' hz => ?_⟩
    rcases List.mem_append.mp hc' with y | y
    · obtain ⟨m, rfl⟩ := m2
      rw [List.map_append]
      exact List.mem_append_left _ (k3 c' y hz)
    · rw [List.mem_singleton.mp y] at hz ⊢
      exact m3 hz
  exact ⟨E', e, k1, k2, by simpa using k3⟩
/-! the way back -/
structure Way (sh : List (List Int)) (h w : Nat) (P : List Cell) : Prop where
  bd : Board h w P
  zr : ∀ x ∈ P, at2 sh x.1.toNat x.2.toNat = 0
  ch : Ch (fun x y => y ∈ nb h w x) P
theorem way_back (s : Sheet h w sh) {E : List En} (T : Tree sh h w E) {i : Nat} {e : En} (he : E[i]? = some e) :
    ∃ P, Way sh h w P ∧ (∃ x, P.head? = some x ∧ x.2 = 0) ∧ P.getLast? = some e.1 ∧ whileO (β := Option (List Cell)) (fun Q => c2_line_of_1 E Q.1 Q.2) (fun Q => s2_line_of_1 E Q.1 Q.2) fuel (some e.1, []) = some (.inl (none, P.reverse)) := by
  have le := T.le s
  have hi : i < E.length := (List.getElem?_eq_some_iff.mp he).1
  refine (fun key : ∃ o, whileO (β := Option (List Cell)) (fun Q => c2_line_of_1 E Q.1 Q.2) (fun Q => s2_line_of_1 E Q.1 Q.2) fuel (some e.1, []) = some o ∧ ∃ P, Way sh h w P ∧ (∃ x, P.head? = some x ∧ x.2 = 0) ∧ P.getLast? = some e.1 ∧ o = .inl (none, P.reverse) => (match key with | ⟨o, e1, P, k1, k2, k3, k4⟩ => ⟨P, k1, k2, k3, by rw [e1, k4]⟩)) ?_
  refine while_ok (c := fun Q : Option Cell × List Cell => c2_line_of_1 E Q.1 Q.2) (f := fun Q => s2_line_of_1 E Q.1 Q.2) (fun m Q => ∃ P, Q.2 = P.reverse ∧ Way sh h w P ∧ (∀ x ∈ P, ∃ j e', m ≤ j ∧ E[j]? = some e' ∧ e'.1 = x) ∧ (P ≠ [] → P.getLast? = some e.1) ∧
      match Q.1 with
      | none => ∃ x, P.head? = some x ∧ x.2 = 0
      | some c => ∃ (j : Nat) (e2 : En), E[j]? = some e2 ∧ e2.1 = c ∧ m = j + 1 ∧ (∀ x, P.head? = some x → x ∈ nb h w c) ∧ (P = [] → c = e.1))
    (fun z => ∃ P, Way sh h w P ∧ (∃ x, P.head? = some x ∧ x.2 = 0) ∧ P.getLast? = some e.1 ∧ z = (.inl (none, P.reverse) : (Option Cell × List Cell) ⊕ Option (List Cell))) (i + 1) fuel (some e.1, []) (by unfold fuel; omega) ⟨[], rfl, ⟨⟨by simp, fun x hx => (nomatch hx)⟩, fun x hx => (nomatch hx), trivial⟩, fun x hx => (nomatch hx), fun z => absurd rfl z, i, e, he, rfl, rfl, fun x hx => (nomatch hx), fun _ => rfl⟩ ?_
  rintro m ⟨o, F⟩ ⟨P, rfl, k1, k2, k3, k4⟩
  cases o with
  | none =>
    refine ⟨false, rfl, .inl ⟨rfl, P, k1, k4, k3 ?_, rfl⟩⟩
    rintro rfl
    obtain ⟨x, hx, _⟩ := k4
    cases hx
  | some c =>
    obtain ⟨j, e2, q1, rfl, rfl, q3, q4⟩ := k4
    have hj : j < E.length := (List.getElem?_eq_some_iff.mp q1).1
    have hm := List.mem_of_getElem? q1
    have hb := T.bd.2 e2.1 (List.mem_map.mpr ⟨e2, hm, rfl⟩)
    have lk := dlook_at T.bd.1 q1
    have pl : P.length ≤ 64 := Nat.le_trans k1.bd.le s.sz
    have new : e2.1 ∉ P := fun hx => by
      obtain ⟨j', e', l1, l2, l3⟩ := k2 _ hx
      have nd := T.bd.1
      have hj' : j' < E.length := (List.getElem?_eq_some_iff.mp l2).1
      have z1 : (E.map (·.1))[j]? = some e2.1 := by rw [List.getElem?_map, q1]; rfl
      have z2 : (E.map (·.1))[j']? = some e2.1 := by rw [List.getElem?_map, l2, ← l3]; rfl
      have := (List.getElem?_inj (by rw [List.length_map]; exact hj) nd).mp (z1.trans z2.symm)
      omega
    have wy : Way sh h w (e2.1 :: P) := by
      refine ⟨⟨List.nodup_cons.mpr ⟨new, k1.bd.1⟩, fun x hx => ?_⟩, fun x hx => ?_, ⟨fun b hb => q3 b hb, k1.ch⟩⟩
      · rcases List.mem_cons.mp hx with rfl | y
        · exact hb
        · exact k1.bd.2 x y
      · rcases List.mem_cons.mp hx with rfl | y
        · exact T.zr e2 hm
        · exact k1.zr x y
    have last : (e2.1 :: P).getLast? = some e.1 := by
      cases P with
      | nil => rw [q4 rfl]; rfl
      | cons a l => rw [List.getLast?_cons_cons]; exact k3 (by simp)
    refine ⟨true, rfl, .inr ⟨rfl, .nx (e2.2, (e2.1 :: P).reverse), ?_, ?_⟩⟩
    · unfold s2_line_of_1
      show (snoc P.reverse e2.1).bind _ = _
      rw [snoc_ok (by rw [List.length_reverse]; omega)]
      simp only [Option.bind_some, lk, List.reverse_cons]
    · cases ho : e2.2 with
      | none =>
        refine ⟨0, by omega, e2.1 :: P, rfl, wy, fun x hx => ?_, fun _ => last, e2.1, rfl, T.rt e2 hm ho⟩
        rcases List.mem_cons.mp hx with rfl | y
        · exact ⟨j, e2, by omega, q1, rfl⟩
        · obtain ⟨j', e', l1, l2, l3⟩ := k2 x y
          exact ⟨j', e', by omega, l2, l3⟩
      | some p =>
        obtain ⟨j', e', r1, r2, r3, r4⟩ := T.up j e2 p q1 ho
        refine ⟨j' + 1, by omega, e2.1 :: P, rfl, wy, fun x hx => ?_, fun _ => last, j', e', r2, r3, rfl, fun x hx => ?_, fun z => (nomatch z)⟩
        · rcases List.mem_cons.mp hx with rfl | y
          · exact ⟨j, e2, by omega, q1, rfl⟩
          · obtain ⟨j'', e'', l1, l2, l3⟩ := k2 x y
            exact ⟨j'', e'', by omega, l2, l3⟩
        · cases hx
          exact r4
end
end K95
namespace K95
open TM TL DR
section
variable {h w : Nat} {sh : List (List Int)}
/-- noughts hang together from side to side -/
def Conn (sh : List (List Int)) (h w : Nat) : Prop := ∀ S : Cell → Prop, (∀ a : Nat, a < h → at2 sh a 0 = 0 → S ((a : Int), 0)) → (∀ x y, S x → y ∈ nb h w x → at2 sh y.1.toNat y.2.toNat = 0 → S y) → ∃ x, S x ∧ x.2 = (w : Int) - 1
theorem first_ok (s : Sheet h w sh) : ∃ E, foldO (fun (Q : List En × List Cell) X0 => s0_line_of_1 sh Q.1 Q.2 X0) ((List.range h).map fun (i : Nat) => (i : Int)) ([], []) = some (E, E.map (·.1)) ∧ Tree sh h w E ∧ ∀ i : Nat, i < h → at2 sh i 0 = 0 → ((i : Int), (0 : Int)) ∈ E.map (·.1) := by
  have w1 := s.w1
  obtain ⟨s', e, E, rfl, k1, k2, k3⟩ := fold_rng (f := fun (Q : List En × List Cell) X0 => s0_line_of_1 sh Q.1 Q.2 X0) (fun i s => ∃ E, s = (E, E.map (·.1)) ∧ Tree sh h w E ∧ (∀ j : Nat, j < i → at2 sh j 0 = 0 → ((j : Int), (0 : Int)) ∈ E.map (·.1)) ∧ ∀ e ∈ E, e.1.1 < (i : Int)) h ([], []) ⟨[], rfl, ⟨⟨by simp, fun x hx => by simp at hx⟩, fun e he => (nomatch he), fun e he => (nomatch he), fun i e p hi => by simp at hi⟩, fun j hj => by omega, fun e he => (nomatch he)⟩ fun i s' hi ⟨E, e0, k1, k2, k3⟩ => by
    subst e0
    have le := k1.le s
    have hk : dlook E ((i : Int), (0 : Int)) = none := by
      rw [dlook_none]
      intro hm
      obtain ⟨e, he, z⟩ := List.mem_map.mp hm
      have := k3 e he
      rw [z] at this
      simp at this
    have i1 := s.ix (a := (i : Int)) (by omega) (by omega)
    have i2 := s.ix2 (a := i) (b := 0) hi (by decide) (by omega)
    rw [Int.toNat_natCast] at i1
    rw [Int.toNat_zero] at i2
    unfold s0_line_of_1 j0_line_of_1
    simp only [i1, i2, Option.bind_some]
    by_cases z : at2 sh i 0 = 0
    · refine ⟨(E ++ [(((i : Int), (0 : Int)), none)], (E ++ [(((i : Int), (0 : Int)), none)]).map (fun e : En => e.1)), ?_, _, rfl, k1.snoc hk (by simp only [On]; omega) (by simpa using z) (fun _ => rfl) (fun p hp => by cases hp), fun j hj hz => ?_, fun e he => ?_⟩
      · rw [if_pos z, dputO_ok (by omega), dput_new hk, snoc_ok (by rw [List.length_map]; omega)]
        simp
      · rw [List.map_append]
        by_cases hji : j = i
        · subst hji
          exact List.mem_append_right _ (by simp)
        · exact List.mem_append_left _ (k2 j (by omega) hz)
      · rcases List.mem_append.mp he with y | y
        · have := k3 e y
          omega
        · rw [List.mem_singleton.mp y]
          simp only
          omega
    · refine ⟨(E, E.map (·.1)), ?_, _, rfl, k1, fun j hj hz => ?_, fun e he => ?_⟩
      · rw [if_neg z]
        rfl
      · by_cases hji : j = i
        · subst hji
          exact absurd hz z
        · exact k2 j (by omega) hz
      · have := k3 e he
        omega
  exact ⟨E, e, k1, k2⟩
theorem search_ok (s : Sheet h w sh) (cn : Conn sh h w) {E : List En} (T : Tree sh h w E) (first : ∀ i : Nat, i < h → at2 sh i 0 = 0 → ((i : Int), (0 : Int)) ∈ E.map (·.1)) : ∃ o, whileO (β := Option (List Cell)) (fun (Q : List En × List Cell × Int) => c1_line_of_1 sh h w Q.1 Q.2.1 Q.2.2) (fun Q => s1_line_of_1 sh h w Q.1 Q.2.1 Q.2.2) fuel (E, E.map (·.1), 0) = some o ∧ ∃ P, Way sh h w P ∧ (∃ x, P.head? = some x ∧ x.2 = 0) ∧ (∃ x, P.getLast? = some x ∧ x.2 = (w : Int) - 1) ∧ o = .inr (some P) := by
  refine while_ok (fun (m : Nat) (Q : List En × List Cell × Int) => ∃ E1 : List En, Q.1 = E1 ∧ Q.2.1 = E1.map (·.1) ∧ Tree sh h w E1 ∧ (∀ i : Nat, i < h → at2 sh i 0 = 0 → ((i : Int), (0 : Int)) ∈ E1.map (·.1)) ∧ 0 ≤ Q.2.2 ∧ Q.2.2 ≤ (E1.length : Int) ∧ m = (64 - Q.2.2).toNat ∧
    ∀ (i : Nat) (e : En), i < Q.2.2.toNat → E1[i]? = some e → e.1.2 ≠ (w : Int) - 1 ∧ ∀ y ∈ nb h w e.1, at2 sh y.1.toNat y.2.toNat = 0 → y ∈ E1.map (·.1)) _ 64 fuel _ (by unfold fuel; omega) ⟨E, rfl, rfl, T, first, Int.le_refl _, Int.natCast_nonneg _, rfl, fun i e hi => by simp at hi⟩ ?_
  rintro m ⟨E1, W1, at1⟩ ⟨E2, rfl, q, k1, k2, k3, k4, rfl, k6⟩
  simp only at q k1 k2 k3 k4 k6
  subst q
  have le := k1.le s
  by_cases c : at1 < E1.length
  · refine ⟨true, congrArg some (decide_eq_true (by rw [List.length_map]; exact c)), .inr ⟨rfl, ?_⟩⟩
    have hl : at1.toNat < E1.length := by omega
    obtain ⟨e, he⟩ : ∃ e, E1[at1.toNat]? = some e := ⟨_, List.getElem?_eq_getElem hl⟩
    have i1 : idx (E1.map (·.1)) at1 = some e.1 := by
      rw [idx_get k3 (by rw [List.length_map]; exact c), List.getElem?_map, he]
      rfl
    have em : e.1 ∈ E1.map (·.1) := List.mem_map.mpr ⟨e, List.mem_of_getElem? he, rfl⟩
    unfold s1_line_of_1
    simp only [i1, Option.bind_some]
    by_cases z : e.1.2 = (w : Int) - 1
    · obtain ⟨P, p1, p2, p3, p4⟩ := way_back s k1 he
      refine ⟨.rt (some P), ?_, P, p1, p2, ⟨e.1, p3, z⟩, rfl⟩
      rw [if_pos z, p4]
      simp only [Option.bind_some, sumM, List.reverse_reverse]
    · rw [if_neg z, around_ok]
      simp only [Option.bind_some]
      obtain ⟨E2, m1, m2, m3, m4⟩ := fold3 s k1 em
      refine ⟨.nx (E2, E2.map (·.1), at1 + 1), ?_, (64 - (at1 + 1)).toNat, ?_, E2, rfl, rfl, m2, fun i hi hz => ?_, Int.add_nonneg k3 (by decide), ?_, rfl, fun i e' hi he' => ?_⟩
      · rw [m1]
        rfl
      · omega
      · obtain ⟨mm, rfl⟩ := m3
        rw [List.map_append]
        exact List.mem_append_left _ (k2 i hi hz)
      · have := m3.length_le
        show at1 + 1 ≤ (E2.length : Int)
        omega
      · have old : ∀ {i : Nat} {e' : En}, i < E1.length → E2[i]? = some e' → E1[i]? = some e' := fun {i e'} hj he' => by
          obtain ⟨mm, rfl⟩ := m3
          rwa [List.getElem?_append_left hj] at he'
        have hi : i < (at1 + 1).toNat := hi
        by_cases hji : i = at1.toNat
        · subst hji
          have := old hl he'
          rw [he] at this
          cases this
          exact ⟨z, m4⟩
        · obtain ⟨n1, n2⟩ := k6 i e' (by omega) (old (by omega) he')
          refine ⟨n1, fun y hy hz => ?_⟩
          obtain ⟨mm, rfl⟩ := m3
          rw [List.map_append]
          exact List.mem_append_left _ (n2 y hy hz)
  · -- all gone through: then a last one is among them
    exfalso
    have : at1.toNat = E1.length := by omega
    obtain ⟨x, hx, hw⟩ := cn (fun x => x ∈ E1.map (·.1)) k2 fun x y hx hy hz => by
      obtain ⟨e, he, rfl⟩ := List.mem_map.mp hx
      obtain ⟨i, hi, rfl⟩ := List.mem_iff_getElem.mp he
      exact (k6 i E1[i] (by omega) (List.getElem?_eq_getElem hi)).2 y hy hz
    obtain ⟨e, he, rfl⟩ := List.mem_map.mp hx
    obtain ⟨i, hi, rfl⟩ := List.mem_iff_getElem.mp he
    exact (k6 i E1[i] (by omega) (List.getElem?_eq_getElem hi)).1 hw
theorem line_ok (s : Sheet h w sh) (cn : Conn sh h w) : ∃ P, Way sh h w P ∧ (∃ x, P.head? = some x ∧ x.2 = 0) ∧ (∃ x, P.getLast? = some x ∧ x.2 = (w : Int) - 1) ∧ m_line_of_1 sh = some (some P) := by
  have h1 := s.h1
  have h2 := s.h2
  have w1 := s.w1
  have w2 := s.w2
  have i0 := s.ix (a := 0) (by decide) (by omega)
  rw [Int.toNat_zero] at i0
  have rl := s.rowLen (a := 0) (by omega)
  have l := s.len
  subst l
  subst rl
  obtain ⟨E, e0, T, first⟩ := first_ok s
  obtain ⟨o, e1, P, k1, k2, k3, rfl⟩ := search_ok s cn T first
  refine ⟨P, k1, k2, k3, ?_⟩
  unfold m_line_of_1
  rw [i0, Option.bind_some, rngO_0 (by omega), Option.bind_some, e0, Option.bind_some, e1, Option.bind_some]
  rfl
theorem line_told_ok (s : Sheet h w sh) (u : UD h sh) (cn : Conn sh h w) : ∃ P, Way sh h w P ∧ (∃ x, P.head? = some x ∧ x.2 = 0) ∧ (∃ x, P.getLast? = some x ∧ x.2 = (w : Int) - 1) ∧ m_line_told_1 h w sh = some P := by
  obtain ⟨P, k1, k2, k3, k4⟩ := line_ok s cn
  refine ⟨P, k1, k2, k3, ?_⟩
  unfold m_line_told_1
  rw [check_ok s, up_down_ok s u]
  simp only [Option.bind_some, Bool.not_true, if_neg Bool.false_ne_true, k4]
theorem idx0 {P : List Cell} {x : Cell} (h : P.head? = some x) : idx P 0 = some x := by
  cases P with
  | nil => cases h
  | cons a l => cases h; exact idx_head
theorem idxL {P : List Cell} {x : Cell} (h : P.getLast? = some x) : idx P (-1) = some x := by
  obtain ⟨l, rfl⟩ := List.getLast?_eq_some_iff.mp h
  exact idx_snoc
theorem dfold_true : ∀ (l : List Cell) (d : List (Cell × Bool)), (d.map (·.1) ++ l).Nodup → d.length + l.length ≤ 1000 → ∀ g : Cell → Option (Option (Cell × Bool)), (∀ x, g x = some (some (x, true))) → dfold g l d = some (d ++ l.map fun x => (x, true))
  | [], d, _, _, g, _ => by simp [dfold]
  | x :: l, d, hn, hl, g, hg => by
    have hx : dlook d x = none := by
      rw [dlook_none]
      intro hm
      exact (List.nodup_append.mp hn).2.2 x hm x (List.mem_cons_self ..) rfl
    unfold dfold
    rw [hg x]
    simp only [Option.bind_some]
    simp only [List.length_cons] at hl
    rw [dputO_ok (by omega), dput_new hx]
    simp only [Option.bind_some]
    rw [dfold_true l (d ++ [(x, true)]) (by simpa using hn) (by simp; omega) g hg]
    simp
theorem any_id {l : List Bool} (h : ∀ x ∈ l, x = false) : l.any id = false := by
  rw [List.any_eq_false]
  intro x hx
  rw [h x hx]
  decide
theorem is_line_ok (s : Sheet h w sh) {P : List Cell} (k : Way sh h w P) (k2 : ∃ x, P.head? = some x ∧ x.2 = 0) (k3 : ∃ x, P.getLast? = some x ∧ x.2 = (w : Int) - 1) : m_is_line h w sh P = some true := by
  obtain ⟨x, hx, x0⟩ := k2
  obtain ⟨y, hy, y0⟩ := k3
  have pl : P.length ≤ 64 := Nat.le_trans k.bd.le s.sz
  have p1 : 1 ≤ P.length := by
    cases P with
    | nil => cases hx
    | cons a l => simp
  have c0 : x0_is_line P = some false := by
    unfold x0_is_line
    rw [if_neg (by simp [m_is_tuple_4]; omega), lenO_ok (by rw [List.length_map]; omega)]
    simp only [Option.bind_some]
    rw [all_id]
    · rfl
    · intro b hb
      obtain ⟨q, _, rfl⟩ := List.mem_map.mp hb
      rfl
  have c1 : x2_is_line sh P = some false := by
    unfold x2_is_line
    rw [dfold_true P [] (by simpa using k.bd.1) (by simp; omega) (b0_is_lined P) fun x => rfl]
    simp only [Option.bind_some]
    rw [if_neg (by simp), compM_ok (fun _ => false) (by omega) fun q hq => ?_]
    · simp only [Option.bind_some]
      rw [any_id]
      intro b hb
      obtain ⟨q, _, rfl⟩ := List.mem_map.mp hb
      rfl
    · obtain ⟨o1, o2, o3, o4⟩ := k.bd.2 q hq
      have z := k.zr q hq
      unfold b2_is_line
      rw [s.ix o1 o2]
      simp only [Option.bind_some]
      rw [s.ix2 (by omega) o3 o4]
      simp only [Option.bind_some, z]
      rfl
  have c2 : x3_is_line w P = some false := by
    unfold x3_is_line
    rw [idx0 hx, idxL hy]
    simp [x0, y0]
  unfold m_is_line
  rw [check_ok s, c0]
  simp only [Option.bind_some, if_neg Bool.false_ne_true]
  rw [lenO_ok (by rw [List.length_map]; omega)]
  simp only [Option.bind_some]
  rw [if_neg ?_, c1]
  · simp only [Option.bind_some, if_neg Bool.false_ne_true, c2]
    rw [cut_drop (by decide), compM_ok (fun _ => true) (by rw [List.length_zip]; omega) fun q hq => ?_]
    · simp only [Option.bind_some]
      rw [all_id]
      intro b hb
      obtain ⟨q, _, rfl⟩ := List.mem_map.mp hb
      rfl
    · unfold b3_is_line
      rw [around_ok]
      exact congrArg some (decide_eq_true (k.ch.zip q hq))
  · rw [all_id]
    · decide
    · intro b hb
      obtain ⟨q, hq, rfl⟩ := List.mem_map.mp hb
      obtain ⟨o1, o2, o3, o4⟩ := k.bd.2 q hq
      rw [within_ok o1 (by omega), within_ok o3 (by omega)]
      rfl
end
end K95
namespace K95
open TM TL DR
/-! ### rows of steps -/
structure Stair (n : Nat) (xs : List Int) : Prop where
  len : xs.length = n
  st : ∀ j : Nat, j + 1 < n → xs.getD (j + 1) 0 ≤ xs.getD j 0 + 1 ∧ xs.getD j 0 ≤ xs.getD (j + 1) 0 + 1
  bnd : ∀ x ∈ xs, -(4 + (n : Int)) ≤ x ∧ x ≤ 4 + n
theorem Stair.one {x : Int} (h : -5 ≤ x ∧ x ≤ 5) : Stair 1 [x] := ⟨rfl, fun j hj => by omega, fun y hy => by
  rw [List.mem_singleton.mp hy]
  omega⟩
theorem Stair.snoc {n : Nat} {xs : List Int} (s : Stair (n + 1) xs) {y : Int} (h : y ≤ xs.getD n 0 + 1 ∧ xs.getD n 0 ≤ y + 1) : Stair (n + 2) (xs ++ [y]) := by
  have l := s.len
  refine ⟨by rw [List.length_append, l]; rfl, fun j hj => ?_, fun x hx => ?_⟩
  · rw [getD_snoc (i := j) (by omega)]
    by_cases c : j + 1 < n + 1
    · rw [getD_snoc (by omega)]
      exact s.st j c
    · rw [getD_end (by omega)]
      obtain rfl : j = n := by omega
      exact h
  · rcases List.mem_append.mp hx with q | q
    · have := s.bnd x q
      omega
    · rw [List.mem_singleton.mp q]
      have := s.bnd _ (getD_mem (l := xs) (i := n) (d := 0) (by omega))
      omega
theorem Stair.near {n : Nat} {xs : List Int} (s : Stair n xs) {i j : Nat} (hi : i < n) (hj : j < n) (d1 : i ≤ j + 1) (d2 : j ≤ i + 1) : xs.getD i 0 ≤ xs.getD j 0 + 1 := by
  by_cases e : i = j
  · subst e; omega
  · by_cases l : i < j
    · obtain rfl : j = i + 1 := by omega
      have := s.st i hj
      omega
    · obtain rfl : i = j + 1 := by omega
      have := s.st j hi
      omega
theorem Stair.at {n : Nat} {xs : List Int} (s : Stair n xs) {i : Nat} (hi : i < n) : -(4 + (n : Int)) ≤ xs.getD i 0 ∧ xs.getD i 0 ≤ 4 + n := s.bnd _ (getD_mem (by rw [s.len]; exact hi))
/-- steps drawn -/
theorem stair_draws {f : Hd × List Int → Int → Option (Hd × List Int)} (hf : ∀ Q X, f Q X = (idx Q.2 (-1)).bind fun v => (m__law_draw Q.1 3).bind fun r => (snoc Q.2 ((v + r.1) - 1)).bind fun l => some (r.2, l)) {x : Int} (h : -5 ≤ x ∧ x ≤ 5) (n : Nat) (hn : n ≤ 100) (hd : Hd) : ∃ hd' xs, foldO f ((List.range n).map fun (i : Nat) => (i : Int)) (hd, [x]) = some (hd', xs) ∧ Stair (n + 1) xs := by
  obtain ⟨s', e, hd', xs, rfl, k⟩ := fold_rng (f := f) (fun i Q => ∃ hd' xs, Q = (hd', xs) ∧ Stair (i + 1) xs) n (hd, [x]) ⟨hd, [x], rfl, Stair.one h⟩ fun i Q hi ⟨hd1, xs, e0, k⟩ => by
    subst e0
    have l := k.len
    obtain ⟨V, e1, v0, v1⟩ := draw_ok hd1 (m := 3) (by decide) (by decide)
    refine ⟨(V.2, xs ++ [xs.getD i 0 + V.1 - 1]), ?_, _, _, rfl, k.snoc (y := xs.getD i 0 + V.1 - 1) (by omega)⟩
    rw [hf]
    dsimp only
    rw [idx_last 0 (by omega), l]
    simp only [Option.bind_some, e1, Nat.add_sub_cancel]
    rw [snoc_ok (by omega)]
    rfl
  exact ⟨hd', xs, e, k⟩
/-- steps told -/
theorem stair_told {f : List Int → Int → Option (List Int)} (hf : ∀ Q X, f Q X = (idx Q (-1)).bind fun v => (snoc Q (v + X)).bind fun l => some l) (ys : List Int) (hy : ∀ y ∈ ys, -1 ≤ y ∧ y ≤ 1) (hl : ys.length ≤ 100) : ∃ xs, foldO f ys [0] = some xs ∧ Stair (ys.length + 1) xs := by
  obtain ⟨xs, e, k⟩ := fold_get (f := f) 0 (fun i Q => Stair (i + 1) Q) ys [0] (Stair.one (by decide)) fun i xs hi k => by
    have l := k.len
    have y := hy _ (getD_mem (d := 0) hi)
    refine ⟨xs ++ [xs.getD i 0 + ys.getD i 0], ?_, k.snoc (y := xs.getD i 0 + ys.getD i 0) (by omega)⟩
    rw [hf, idx_last 0 (by omega), l]
    simp only [Option.bind_some, Nat.add_sub_cancel]
    rw [snoc_ok (by omega)]
    rfl
  exact ⟨xs, e, k⟩
/-! ### sheets of a kind -/
def mk (h w : Nat) (F : Nat → Nat → Int) : List (List Int) := (List.range h).map fun a => (List.range w).map fun b => F a b
section
variable {h w : Nat} {F : Nat → Nat → Int}
theorem mk_row {a : Nat} (ha : a < h) : (mk h w F).getD a [] = (List.range w).map fun b => F a b := by
  unfold mk
  rw [List.getD_eq_getElem?_getD, List.getElem?_map, List.getElem?_range ha]
  rfl
theorem mk_at {a b : Nat} (ha : a < h) (hb : b < w) : at2 (mk h w F) a b = F a b := by
  unfold at2
  rw [mk_row ha, List.getD_eq_getElem?_getD, List.getElem?_map, List.getElem?_range hb]
  rfl
theorem mk_sheet (h1 : 2 ≤ h) (h2 : h ≤ 8) (w1 : 2 ≤ w) (w2 : w ≤ 8) (bd : ∀ a b, a < h → b < w → -100 ≤ F a b ∧ F a b ≤ 100) (st : ∀ a b a' b' : Nat, a < h → b < w → a' < h → b' < w → a' ≤ a + 1 → a ≤ a' + 1 → b' ≤ b + 1 → b ≤ b' + 1 → F a b - F a' b' ≤ 1) : Sheet h w (mk h w F) := by
  refine ⟨h1, h2, w1, w2, by simp [mk], fun r hr => ?_, fun r hr x hx => ?_, fun a b a' b' ha hb ha' hb' d1 d2 d3 d4 => ?_⟩
  · obtain ⟨a, ha, rfl⟩ := List.mem_map.mp hr
    simp
  · obtain ⟨a, ha, rfl⟩ := List.mem_map.mp hr
    obtain ⟨b, hb, rfl⟩ := List.mem_map.mp hx
    exact bd a b (List.mem_range.mp ha) (List.mem_range.mp hb)
  · rw [mk_at ha hb, mk_at ha' hb']
    exact st a b a' b' ha hb ha' hb' d1 d2 d3 d4
theorem mk_ud (h1 : 2 ≤ h) (lo : ∀ b, b < w → F 0 b ≤ 0) (hi : ∀ b, b < w → 0 ≤ F (h - 1) b) : UD h (mk h w F) := by
  refine ⟨fun x hx => ?_, fun x hx => ?_⟩
  · rw [mk_row (by omega)] at hx
    obtain ⟨b, hb, rfl⟩ := List.mem_map.mp hx
    exact lo b (List.mem_range.mp hb)
  · rw [mk_row (by omega)] at hx
    obtain ⟨b, hb, rfl⟩ := List.mem_map.mp hx
    exact hi b (List.mem_range.mp hb)
/-- the greater of two rows -/
theorem maxes_eq {p q : List Int} (hp : p.length = h) (hq : q.length = w) : (p.map fun x => q.map fun y => max x y) = mk h w fun a b => max (p.getD a 0) (q.getD b 0) := by
  unfold mk
  refine List.ext_getElem (by simp [hp]) fun i h1 h2 => ?_
  rw [List.length_map] at h1
  simp only [List.getElem_map, List.getElem_range]
  refine List.ext_getElem (by simp [hq]) fun j h3 h4 => ?_
  rw [List.length_map] at h3
  simp only [List.getElem_map, List.getElem_range]
  simp [List.getD_eq_getElem?_getD, List.getElem?_eq_getElem h1, List.getElem?_eq_getElem h3]
theorem maxes_sheet {p q : List Int} (sp : Stair h p) (sq : Stair w q) (h1 : 2 ≤ h) (h2 : h ≤ 8) (w1 : 2 ≤ w) (w2 : w ≤ 8) : Sheet h w (mk h w fun a b => max (p.getD a 0) (q.getD b 0)) := by
  refine mk_sheet h1 h2 w1 w2 (fun a b ha hb => ?_) fun a b a' b' ha hb ha' hb' d1 d2 d3 d4 => ?_
  · have := sp.at ha
    have := sq.at hb
    omega
  · have := sp.near ha ha' d2 d1
    have := sq.near hb hb' d4 d3
    omega
end
end K95
namespace K95
open TM TL DR
/-! ### steep sheets -/
section
variable {h w : Nat} {u x : List Int} {g lift : Int}
def stF (u x : List Int) (lift g : Int) (a b : Nat) : Int := min (max (u.getD a 0 + lift) (x.getD b 0)) ((a : Int) - g)
theorem steep_sheet (su : Stair h u) (sx : Stair w x) (h1 : 2 ≤ h) (h2 : h ≤ 8) (w1 : 2 ≤ w) (w2 : w ≤ 8) (g0 : 0 ≤ g) (g1 : g < h) (l0 : 0 ≤ lift) (l1 : lift ≤ 20) : Sheet h w (mk h w (stF u x lift g)) := by
  refine mk_sheet h1 h2 w1 w2 (fun a b ha hb => ?_) fun a b a' b' ha hb ha' hb' d1 d2 d3 d4 => ?_
  · have := su.at ha
    have := sx.at hb
    unfold stF
    omega
  · have := su.near ha ha' d2 d1
    have := sx.near hb hb' d4 d3
    unfold stF
    omega
theorem steep_ud (h1 : 2 ≤ h) (g0 : 0 ≤ g) (g1 : g < h) (up : 0 ≤ u.getD (h - 1) 0 + lift) : UD h (mk h w (stF u x lift g)) := by
  refine mk_ud h1 (fun b hb => ?_) fun b hb => ?_
  · unfold stF
    omega
  · unfold stF
    omega
/-- the first from g on that is not below nought -/
theorem first_up {c : Nat → Int} {h : Nat} (sl : ∀ j, j + 1 < h → c (j + 1) ≤ c j + 1) (up : 0 ≤ c (h - 1)) : ∀ (k g : Nat), g + k + 1 = h → c g ≤ 0 → ∃ t, g ≤ t ∧ t < h ∧ c t = 0 ∧ ∀ a, g ≤ a → a ≤ t → c a ≤ 0
  | 0, g, e, lo => ⟨g, by omega, by omega, by rw [show h - 1 = g by omega] at up; omega, fun a h1 h2 => by rw [show a = g by omega]; exact lo⟩
  | k + 1, g, e, lo => by
    by_cases z : c g = 0
    · exact ⟨g, by omega, by omega, z, fun a h1 h2 => by rw [show a = g by omega]; exact lo⟩
    · have := sl g (by omega)
      obtain ⟨t, t1, t2, t3, t4⟩ := first_up sl up k (g + 1) (by omega) (by omega)
      refine ⟨t, by omega, t2, t3, fun a h1 h2 => ?_⟩
      by_cases q : a = g
      · rw [q]; exact lo
      · exact t4 a (by omega) h2
theorem steep_conn (su : Stair h u) (sx : Stair w x) (h1 : 2 ≤ h) (w1 : 2 ≤ w) (g0 : 0 ≤ g) (g1 : g < h) (up : 0 ≤ u.getD (h - 1) 0 + lift) : Conn (mk h w (stF u x lift g)) h w := by
  intro S first step
  obtain ⟨n, rfl⟩ : ∃ n : Nat, g = n := ⟨g.toNat, by omega⟩
  have hn : n < h := by omega
  have ends : ∀ a : Nat, a < h → S ((a : Int), ((w - 1 : Nat) : Int)) → ∃ x, S x ∧ x.2 = (w : Int) - 1 := fun a _ s => ⟨_, s, by simp only; omega⟩
  have st0 : ∀ {a : Nat}, a < h → stF u x lift n a 0 = 0 → S ((a : Int), ((0 : Nat) : Int)) := fun {a} ha z => first a ha (by rw [mk_at ha (by omega)]; exact z)
  have go : ∀ {a b a' b' : Nat}, S ((a : Int), (b : Int)) → a' < h → b' < w → (a ≠ a' ∨ b ≠ b') → a' ≤ a + 1 → a ≤ a' + 1 → b' ≤ b + 1 → b ≤ b' + 1 → stF u x lift n a' b' = 0 → S ((a' : Int), (b' : Int)) := fun {a b a' b'} s ha hb ne d1 d2 d3 d4 z => step _ _ s (nb_iff.mpr ⟨⟨by simp only; omega, by simp only; omega, by simp only; omega, by simp only; omega⟩, by rw [ne_eq, Prod.mk.injEq]; omega, by simp only; omega, by simp only; omega, by simp only; omega, by simp only; omega⟩) (by simp only [Int.toNat_natCast]; rw [mk_at ha hb]; exact z)
  by_cases c : 0 ≤ u.getD n 0 + lift
  · -- the row n is of noughts
    have z : ∀ b, stF u x lift n n b = 0 := fun b => by
      unfold stF
      omega
    have all : ∀ b : Nat, b < w → S ((n : Int), (b : Int)) := fun b => by
      induction b with
      | zero => exact fun _ => st0 hn (z 0)
      | succ b ih => exact fun hb => go (ih (by omega)) hn hb (by omega) (by omega) (by omega) (by omega) (by omega) (z _)
    exact ends n hn (all (w - 1) (by omega))
  · obtain ⟨t, t1, t2, t3, t4⟩ := first_up (c := fun a => u.getD a 0 + lift) (h := h) (fun j hj => by
      have := su.st j hj
      omega) up (h - 1 - n) n (by omega) (by omega)
    have zn : ∀ b, 0 ≤ x.getD b 0 → stF u x lift n n b = 0 := fun b hb => by
      have := t4 n (by omega) t1
      unfold stF
      omega
    have zt : ∀ b, x.getD b 0 ≤ 0 → stF u x lift n t b = 0 := fun b hb => by
      unfold stF
      omega
    have zm : ∀ b a, x.getD b 0 = 0 → n ≤ a → a ≤ t → stF u x lift n a b = 0 := fun b a hb h1 h2 => by
      have := t4 a h1 h2
      unfold stF
      omega
    have climb : ∀ b : Nat, b < w → x.getD b 0 = 0 → S ((n : Int), (b : Int)) → ∀ k, n + k ≤ t → S (((n + k : Nat) : Int), (b : Int)) := fun b hb z s k => by
      induction k with
      | zero => exact fun _ => s
      | succ k ih => exact fun hk => go (ih (by omega)) (by omega) hb (by omega) (by omega) (by omega) (by omega) (by omega) (zm b _ z (by omega) hk)
    have fall : ∀ b : Nat, b < w → x.getD b 0 = 0 → S ((t : Int), (b : Int)) → ∀ k, n + k ≤ t → S (((t - k : Nat) : Int), (b : Int)) := fun b hb z s k => by
      induction k with
      | zero => exact fun _ => s
      | succ k ih => exact fun hk => go (ih (by omega)) (by omega) hb (by omega) (by omega) (by omega) (by omega) (by omega) (zm b _ z (by omega) (by omega))
    have all : ∀ b : Nat, b < w → (0 ≤ x.getD b 0 → S ((n : Int), (b : Int))) ∧ (x.getD b 0 ≤ 0 → S ((t : Int), (b : Int))) := fun b => by
      induction b with
      | zero => exact fun _ => ⟨fun q => st0 hn (zn 0 q), fun q => st0 t2 (zt 0 q)⟩
      | succ b ih =>
        intro hb
        obtain ⟨i1, i2⟩ := ih (by omega)
        have sb := sx.st b hb
        have right1 : 0 ≤ x.getD b 0 → 0 ≤ x.getD (b + 1) 0 → S ((n : Int), ((b + 1 : Nat) : Int)) := fun q q' => go (i1 q) hn hb (by omega) (by omega) (by omega) (by omega) (by omega) (zn _ q')
        have right2 : x.getD b 0 ≤ 0 → x.getD (b + 1) 0 ≤ 0 → S ((t : Int), ((b + 1 : Nat) : Int)) := fun q q' => go (i2 q) t2 hb (by omega) (by omega) (by omega) (by omega) (by omega) (zt _ q')
        refine ⟨fun q => ?_, fun q => ?_⟩
        · by_cases p : 0 ≤ x.getD b 0
          · exact right1 p q
          · have z : x.getD (b + 1) 0 = 0 := by omega
            have := fall (b + 1) hb z (right2 (by omega) (by omega)) (t - n) (by omega)
            rwa [show t - (t - n) = n by omega] at this
        · by_cases p : x.getD b 0 ≤ 0
          · exact right2 p q
          · have z : x.getD (b + 1) 0 = 0 := by omega
            have := climb (b + 1) hb z (right1 (by omega) (by omega)) (t - n) (by omega)
            rwa [show n + (t - n) = t by omega] at this
    obtain ⟨a1, a2⟩ := all (w - 1) (by omega)
    by_cases q : 0 ≤ x.getD (w - 1) 0
    · exact ends n hn (a1 q)
    · exact ends t t2 (a2 (by omega))
end
section
variable {h w : Nat} {sh st : List (List Int)}
theorem UD.at0 (s : Sheet h w sh) (u : UD h sh) {b : Nat} (hb : b < w) : at2 sh 0 b ≤ 0 := u.lo _ (getD_mem (by rw [s.rowLen (by have := s.h1; omega)]; exact hb))
/-- a line of noughts meets what is held left and right -/
theorem meet (s : Sheet h w sh) (s' : Sheet h w st) (cn : Conn sh h w) (u : LR w st) : ∃ a b : Nat, a < h ∧ b < w ∧ at2 sh a b = 0 ∧ at2 st a b = 0 := by
  by_cases no : ∃ a b : Nat, a < h ∧ b < w ∧ at2 sh a b = 0 ∧ at2 st a b = 0
  · exact no
  exfalso
  have w1 := s.w1
  have l := s'.len
  obtain ⟨x, ⟨on, lt⟩, e⟩ := cn (fun x => On h w x ∧ at2 st x.1.toNat x.2.toNat < 0) (fun a ha z => ⟨by simp only [On]; omega, by
    simp only [Int.toNat_natCast, Int.toNat_zero]
    have h1 : at2 st a 0 ≤ 0 := u.lo _ (getD_mem (by omega))
    have h2 : at2 st a 0 ≠ 0 := fun q => no ⟨a, 0, ha, by omega, z, q⟩
    omega⟩) fun x y ⟨on, lt⟩ hy z => by
    obtain ⟨oy, ne, d1, d2, d3, d4⟩ := nb_iff.mp hy
    refine ⟨oy, ?_⟩
    obtain ⟨p1, p2, p3, p4⟩ := on
    obtain ⟨q1, q2, q3, q4⟩ := oy
    have := s'.stp y.1.toNat y.2.toNat x.1.toNat x.2.toNat (by omega) (by omega) (by omega) (by omega) (by omega) (by omega) (by omega) (by omega)
    have h2 : at2 st y.1.toNat y.2.toNat ≠ 0 := fun q => no ⟨_, _, by omega, by omega, z, q⟩
    omega
  obtain ⟨p1, p2, p3, p4⟩ := on
  have h1 : 0 ≤ at2 st x.1.toNat (w - 1) := u.hi _ (getD_mem (by omega))
  rw [show x.2.toNat = w - 1 by omega] at lt
  omega
end
end K95
namespace K95
open TM TL DR
/-! ### the law's parts -/
theorem walk_ok (hd : Hd) {n : Nat} (h1 : 1 ≤ n) (h2 : n ≤ 8) : ∃ xs hd', m__law_walk hd n = some (xs, hd') ∧ Stair n xs := by
  obtain ⟨V, e1, v0, v1⟩ := draw_ok hd (m := 5) (by decide) (by decide)
  obtain ⟨hd', xs, e2, k⟩ := stair_draws (f := fun Q X0 => s0__law_walk Q.1 Q.2 X0) (fun Q X => rfl) (x := V.1 - 2) (by omega) (n - 1) (by omega) V.2
  refine ⟨xs, hd', ?_, ?_⟩
  · unfold m__law_walk
    rw [e1]
    simp only [sb]
    rw [rngO_I (by omega) (by omega), show ((n : Int) - 1).toNat = n - 1 by omega]
    simp only [sb, e2]
  · rwa [show n - 1 + 1 = n by omega] at k
theorem steep_ok (hd : Hd) {h w : Nat} (h1 : 2 ≤ h) (h2 : h ≤ 8) (w1 : 2 ≤ w) (w2 : w ≤ 8) : ∃ sh hd', m__law_steep hd h w = some (sh, hd') ∧ Sheet h w sh ∧ UD h sh ∧ Conn sh h w := by
  obtain ⟨u, hd1, e1, su⟩ := walk_ok hd (n := h) (by omega) h2
  obtain ⟨x, hd2, e2, sx⟩ := walk_ok hd1 (n := w) (by omega) w2
  obtain ⟨V, e3, v0, v1⟩ := draw_ok hd2 (m := (h : Int)) (by omega) (by omega)
  have ul := su.len
  have xl := sx.len
  have ub := su.at (i := h - 1) (by omega)
  obtain ⟨L, hL⟩ : ∃ L, L = max 0 (0 - u.getD (h - 1) 0) := ⟨_, rfl⟩
  have row : ∀ a : Nat, a < h → compM (b0__law_steep w u x V.1 L a) ((List.range w).map fun (i : Nat) => (i : Int)) = some ((List.range w).map fun b => stF u x L V.1 a b) := fun a ha => by
    rw [compM_ok (fun b : Int => stF u x L V.1 a b.toNat) (by simp; omega) fun b hb => ?_]
    · rw [List.map_map]
      rfl
    · obtain ⟨b, hn, rfl⟩ := List.mem_map.mp hb
      have hn := List.mem_range.mp hn
      unfold b0__law_steep stF
      rw [idx_nat 0 (by omega), idx_nat 0 (by omega)]
      rfl
  obtain ⟨s', e4, k⟩ := fold_rng (f := fun Q X0 => s0__law_steep w u x V.1 L Q X0) (fun i s => s = (List.range i).map fun a => (List.range w).map fun b => stF u x L V.1 a b) h [] rfl fun i s hi k => by
    refine ⟨_, ?_, rfl⟩
    subst k
    unfold s0__law_steep
    rw [rngO_0 (by omega)]
    simp only [sb, row i hi]
    rw [snoc_ok (by simp; omega), List.range_succ, List.map_append]
    rfl
  refine ⟨mk h w (stF u x L V.1), V.2, ?_, steep_sheet su sx h1 h2 w1 w2 v0 v1 (by omega) (by omega), steep_ud h1 v0 v1 (by omega), steep_conn su sx h1 w1 v0 v1 (by omega)⟩
  unfold m__law_steep
  rw [e1]
  simp only [sb, e2, e3]
  rw [idx_last 0 (by omega), ul]
  simp only [sb]
  rw [rngO_0 (by omega)]
  simp only [sb, ← hL]
  rw [e4, k]
  rfl
section
variable {h w : Nat} {sh st : List (List Int)}
theorem both_eq (s' : Sheet h w st) : compO (b2__law_held_right h w sh st) (grid h w (zero sh)) = some (grid h w fun a b => zero sh a b && zero st a b) := by
  have hl := grid_len (h := h) (w := w) (zero sh)
  have sz := s'.sz
  rw [compO_ok (fun x : Cell => if at2 st x.1.toNat x.2.toNat = 0 then some x else none) (by omega) fun x hx => ?_]
  · refine congrArg some ?_
    unfold grid
    rw [flat_filter]
    refine congrArg (fun F => List.flatMap F _) (funext fun a => ?_)
    rw [List.filterMap_filterMap]
    refine congrArg (fun F => List.filterMap F _) (funext fun b => ?_)
    unfold zero
    by_cases p : at2 sh a.toNat b.toNat = 0 <;> by_cases q : at2 st a.toNat b.toNat = 0 <;> simp [p, q]
  · obtain ⟨⟨o1, o2, o3, o4⟩, _⟩ := grid_mem.mp hx
    unfold b2__law_held_right
    rw [s'.ix o1 o2]
    simp only [sb]
    rw [s'.ix2 (by omega) o3 o4]
    simp only [sb]
    split <;> rfl
theorem held_ok (hd : Hd) : ∃ hd', m__law_held_right hd = some (true, hd') := by
  obtain ⟨V1, e1, a0, a1⟩ := draw_ok hd (m := 5) (by decide) (by decide)
  obtain ⟨V2, e2, b0, b1⟩ := draw_ok V1.2 (m := 5) (by decide) (by decide)
  obtain ⟨h, hh⟩ : ∃ h : Nat, 2 + V1.1 = h := ⟨(2 + V1.1).toNat, by omega⟩
  obtain ⟨w, hw⟩ : ∃ w : Nat, 2 + V2.1 = w := ⟨(2 + V2.1).toNat, by omega⟩
  obtain ⟨one, hd3, e3, s3, u3, cn⟩ := steep_ok V2.2 (h := h) (w := w) (by omega) (by omega) (by omega) (by omega)
  obtain ⟨oth, hd4, e4, s4, u4, _⟩ := steep_ok hd3 (h := w) (w := h) (by omega) (by omega) (by omega) (by omega)
  have e5 := turned_ok s4
  have s5 := flip_sheet s4
  have u5 := flip_lr s4 u4
  obtain ⟨P, way, k2, k3, e6⟩ := line_told_ok s3 u3 cn
  have e7 := is_line_ok s3 way k2 k3
  have pl : P.length ≤ 64 := Nat.le_trans way.bd.le s3.sz
  have c0 : x0__law_held_right one (flip oth h) = some false := by
    unfold x0__law_held_right
    rw [up_down_ok s3 u3]
    simp only [sb, if_pos, left_right_ok s5 u5]
    rfl
  have c1 : x1__law_held_right h w one P = some false := by
    obtain ⟨x, hx, x0⟩ := k2
    obtain ⟨y, hy, y0⟩ := k3
    unfold x1__law_held_right
    rw [e7]
    simp only [sb, if_pos, idx0 hx, idxL hy, x0, y0]
    simp
  have c2 : compM (b0__law_held_right one P) P = some (P.map fun _ => false) := compM_ok _ (by omega) fun q hq => by
    obtain ⟨o1, o2, o3, o4⟩ := way.bd.2 q hq
    have z := way.zr q hq
    unfold b0__law_held_right
    rw [s3.ix o1 o2]
    simp only [sb]
    rw [s3.ix2 (by omega) o3 o4]
    simp only [sb, z]
    rfl
  have c3 : x2__law_held_right h w one (flip oth h) (grid h w fun a b => zero one a b && zero (flip oth h) a b) = some false := by
    obtain ⟨a, b, ha, hb, z1, z2⟩ := meet s3 s5 cn u5
    have m : ((a : Int), (b : Int)) ∈ grid h w fun a b => zero one a b && zero (flip oth h) a b := grid_mem.mpr ⟨⟨by simp only; omega, by simp only; omega, by simp only; omega, by simp only; omega⟩, by simp [zero, z1, z2]⟩
    obtain ⟨x, l, e⟩ : ∃ x l, (grid h w fun a b => zero one a b && zero (flip oth h) a b) = x :: l := by
      cases q : (grid h w fun a b => zero one a b && zero (flip oth h) a b) with
      | nil => rw [q] at m; cases m
      | cons x l => exact ⟨x, l, rfl⟩
    have cm : m_common h w one (flip oth h) = some x := by
      unfold m_common x0_common
      rw [check_ok s3, check_ok s5]
      simp only [sb, up_down_ok s3 u3, left_right_ok s5 u5, Bool.not_true, if_neg Bool.false_ne_true, both_ok s3 s5]
      rw [e, idx_head]
      rfl
    unfold x2__law_held_right
    rw [both_ok s3 s5]
    simp only [sb, if_pos, cm]
    rw [e, idx_head]
    simp
  refine ⟨hd4, ?_⟩
  unfold m__law_held_right
  rw [e1]
  simp only [sb, e2, hh, hw, e3, e4, e5, c0, if_neg Bool.false_ne_true, e6, c1, c2]
  rw [any_id fun b hb => by obtain ⟨q, _, rfl⟩ := List.mem_map.mp hb; rfl, if_neg Bool.false_ne_true, cut_drop (by decide), lenO_ok (by rw [List.length_map, List.length_zip]; omega)]
  simp only [sb]
  rw [all_id, if_neg (by decide), noughts_ok s3]
  · simp only [sb, both_eq s5, c3, if_neg Bool.false_ne_true, backed_ok s3, up_down_ok (back_sheet s3) (back_ud s3 u3)]
    rfl
  · intro b hb
    obtain ⟨q, hq, rfl⟩ := List.mem_map.mp hb
    obtain ⟨_, ne, d1, d2, d3, d4⟩ := nb_iff.mp (way.ch.zip q hq)
    obtain ⟨⟨q1, q2⟩, ⟨q3, q4⟩⟩ := q
    simp only [ne_eq, Prod.mk.injEq] at ne d1 d2 d3 d4
    unfold m__law_about iabs
    refine decide_eq_true ?_
    simp only
    split <;> split <;> omega
end
end K95
namespace K95
open TM TL DR
/-! ### heights by digits -/
theorem digits_ok {k base : Int} (hk : 0 ≤ k) (hb : 0 < base) (hb2 : base < 1000) (n : Nat) (hn : n ≤ 100) : ∃ l, m_digits k n base = some l ∧ l.length = n ∧ ∀ x ∈ l, 0 ≤ x ∧ x < base := by
  obtain ⟨⟨k', l⟩, e, h1, h2, h3⟩ := fold_rng (f := fun (Q : Int × List Int) X0 => s0_digits base Q.1 Q.2 X0) (fun i Q => 0 ≤ Q.1 ∧ Q.2.length = i ∧ ∀ x ∈ Q.2, 0 ≤ x ∧ x < base) n (k, []) ⟨hk, rfl, fun x hx => (nomatch hx)⟩ fun i Q hi ⟨h1, h2, h3⟩ => by
    have m1 := Int.emod_nonneg Q.1 (b := base) (by omega)
    have m2 := Int.emod_lt_of_pos Q.1 hb
    refine ⟨(Q.1 / base, Q.2 ++ [Q.1 % base]), ?_, Int.ediv_nonneg h1 (by omega), by simp [h2], fun x hx => ?_⟩
    · unfold s0_digits modO divO
      rw [if_pos hb, sb, snoc_ok (by omega), sb, if_pos ⟨hb, by omega⟩, sb]
    · rcases List.mem_append.mp hx with q | q
      · exact h3 x q
      · rw [List.mem_singleton.mp q]
        exact ⟨m1, m2⟩
  refine ⟨l, ?_, h2, h3⟩
  unfold m_digits
  rw [rngO_0 (by omega), sb, e, sb]
theorem drawn_ok {h w : Nat} (h1 : 2 ≤ h) (h2 : h ≤ 8) (w1 : 2 ≤ w) (w2 : w ≤ 8) {k : Int} (k0 : 0 ≤ k) (k1 : k < 1073741824) : ∃ sh, m_drawn_heights h w k = some sh ∧ Sheet h w sh := by
  obtain ⟨l, e1, l1, l2⟩ := digits_ok k0 (base := 3) (by decide) (by decide) (h + w - 2) (by omega)
  have c0 : m_check_number k = some () := by
    unfold m_check_number
    rw [within_ok k0 (by omega)]
    rfl
  have ys : ∀ y ∈ l.map (fun Y0 => Y0 - 1), -1 ≤ y ∧ y ≤ 1 := fun y hy => by
    obtain ⟨x, hx, rfl⟩ := List.mem_map.mp hy
    have := l2 x hx
    omega
  have yl : (l.map (fun Y0 => Y0 - 1)).length = h + w - 2 := by rw [List.length_map, l1]
  obtain ⟨p, e2, sp⟩ := stair_told (f := fun Q X0 => s0_drawn_heights Q X0) (fun Q X => rfl) ((l.map (fun Y0 => Y0 - 1)).take (h - 1)) (fun y hy => ys y (List.mem_of_mem_take hy)) (by rw [List.length_take]; omega)
  obtain ⟨q, e3, sq⟩ := stair_told (f := fun Q X0 => s1_drawn_heights Q X0) (fun Q X => rfl) ((l.map (fun Y0 => Y0 - 1)).drop (h - 1)) (fun y hy => ys y (List.mem_of_mem_drop hy)) (by rw [List.length_drop]; omega)
  rw [List.length_take, yl, show min (h - 1) (h + w - 2) + 1 = h by omega] at sp
  rw [List.length_drop, yl, show h + w - 2 - (h - 1) + 1 = w by omega] at sq
  have pl := sp.len
  have ql := sq.len
  refine ⟨_, ?_, maxes_sheet sp sq h1 h2 w1 w2⟩
  rw [← maxes_eq pl ql]
  unfold m_drawn_heights
  rw [c0, sb, within_ok (by omega) (by omega), within_ok (by omega) (by omega), if_neg (by decide), show ((h : Int) + w) - 2 = ((h + w - 2 : Nat) : Int) by omega, e1, sb, lenO_ok (by omega), sb, cut_take (by omega), show ((h : Int) - 1).toNat = h - 1 by omega, e2, sb, cut_drop (by omega), show ((h : Int) - 1).toNat = h - 1 by omega, e3, sb]
  rw [compM_ok (fun x : Int => q.map fun y => max x y) (by omega) fun x hx => ?_, sb]
  unfold b1_drawn_heights
  rw [lenO_ok (by rw [List.length_map]; omega), sb]
section
variable {h w : Nat} {sh : List (List Int)}
theorem own_ok (s : Sheet h w sh) : foldO (fun Q X0 => s0__law_plain_right Q X0) (enumT 0 sh) [] = some (grid h w (zero sh)) := by
  have l := s.len
  have h2 := s.h2
  have w2 := s.w2
  obtain ⟨s', e, k⟩ := fold_get (f := fun Q X0 => s0__law_plain_right Q X0) (0, []) (fun i Q => Q = grid i w (zero sh)) (enumT 0 sh) [] rfl fun i Q hi k => by
    subst k
    rw [enum_len] at hi
    refine ⟨_, ?_, rfl⟩
    have rl := s.rowLen (a := i) (by omega)
    have row : ((enumT 0 (sh.getD i [])).filter fun Y0 => (decide (Y0.2 = 0))).map (fun Y0 => ((i : Int), Y0.1)) = ((List.range w).map fun (b : Nat) => (b : Int)).filterMap fun b => if zero sh i b.toNat = true then some ((i : Int), b) else none := by
      rw [TL.filter_map_eq, enumT_eq 0, rl, List.filterMap_map, List.filterMap_map]
      refine congrArg (fun F => List.filterMap F _) (funext fun b => ?_)
      simp [zero, at2]
    have g : grid (i + 1) w (zero sh) = grid i w (zero sh) ++ ((List.range w).map fun (b : Nat) => (b : Int)).filterMap fun b => if zero sh i b.toNat = true then some ((i : Int), b) else none := by
      unfold grid
      rw [List.range_succ, List.map_append, List.flatMap_append]
      simp
    have gl := grid_len (h := i) (w := w) (zero sh)
    have gz : i * w ≤ 8 * 8 := Nat.mul_le_mul (by omega) w2
    have rz : (((List.range w).map fun (b : Nat) => (b : Int)).filterMap fun b => if zero sh i b.toNat = true then some ((i : Int), b) else none).length ≤ w := Nat.le_trans (List.length_filterMap_le _ _) (by simp)
    rw [enum_getD [] hi]
    unfold s0__law_plain_right
    dsimp only
    rw [row, lenO_ok (by omega), sb, appO_ok (by omega), sb, g]
  rw [e, k, enum_len, l]
theorem due_ok (s : Sheet h w sh) : ∃ b, x0_is_up_down_1 sh = some b := by
  have h1 := s.h1
  obtain ⟨m, e1⟩ : ∃ m, maxL (sh.getD 0 []) = some m := by
    cases q : sh.getD 0 [] with
    | nil => exact absurd q (row_ne s (by omega))
    | cons i is => exact ⟨_, rfl⟩
  obtain ⟨n, e2⟩ : ∃ m, minL (sh.getD (h - 1) []) = some m := by
    cases q : sh.getD (h - 1) [] with
    | nil => exact absurd q (row_ne s (by omega))
    | cons i is => exact ⟨_, rfl⟩
  unfold x0_is_up_down_1
  rw [s.ix (a := 0) (by decide) (by omega), sb, Int.toNat_zero, e1, sb, ix_last s, sb, e2, sb]
  split
  · exact ⟨_, rfl⟩
  · exact ⟨_, rfl⟩
theorem col_eq (s : Sheet h w sh) {a : Nat} (ha : a < h) : (flip sh w).map (fun r => r.getD a 0) = sh.getD a [] := by
  have rl := s.rowLen ha
  have l := s.len
  unfold flip
  rw [List.map_map]
  refine List.ext_getElem (by rw [List.length_map, List.length_range, rl]) fun i h1 h2 => ?_
  simp only [List.getElem_map, List.getElem_range, Function.comp_apply]
  rw [flip_getD (by omega), List.getD_eq_getElem?_getD (l := sh.getD a []), List.getElem?_eq_getElem h2]
  rfl
theorem lr_flip (s : Sheet h w sh) : m_is_left_right (flip sh w) = x0_is_up_down_1 sh := by
  have s' := flip_sheet (h := w) (w := h) s
  have l := s'.len
  have h1 := s.h1
  have w2 := s.w2
  have c0 : compM (b0_is_left_right (flip sh w)) (flip sh w) = some (sh.getD 0 []) := by
    rw [compM_ok (fun r : List Int => r.getD 0 0) (by omega) fun r hr => ?_, col_eq s (by omega)]
    have := s'.row r hr
    unfold b0_is_left_right
    rw [idx_ok 0 (by decide) (by omega), sb]
    rfl
  have c1 : compM (b1_is_left_right (flip sh w)) (flip sh w) = some (sh.getD (h - 1) []) := by
    rw [compM_ok (fun r : List Int => r.getD (h - 1) 0) (by omega) fun r hr => ?_, col_eq s (by omega)]
    have := s'.row r hr
    unfold b1_is_left_right
    rw [idx_last 0 (by omega), sb, this]
  unfold m_is_left_right x0_is_left_right x0_is_up_down_1
  rw [s.ix (a := 0) (by decide) (by omega), sb, Int.toNat_zero, c0, sb, ix_last s, c1, sb]
  cases maxL (sh.getD 0 []) with
  | none => rfl
  | some m =>
    simp only [sb]
    by_cases z : m ≤ 0
    · rw [if_pos z]
      cases minL (sh.getD (h - 1) []) with
      | none => rfl
      | some n => simp only [sb]
    · rw [if_neg z, sb]
theorem plain_ok (hd : Hd) : ∃ hd', m__law_plain_right hd = some (true, hd') := by
  obtain ⟨V1, e1, a0, a1⟩ := draw_ok hd (m := 5) (by decide) (by decide)
  obtain ⟨V2, e2, b0, b1⟩ := draw_ok V1.2 (m := 5) (by decide) (by decide)
  obtain ⟨V3, e3, c0, c1⟩ := draw_ok V2.2 (m := 1000000000) (by decide) (by decide)
  obtain ⟨h, hh⟩ : ∃ h : Nat, 2 + V1.1 = h := ⟨(2 + V1.1).toNat, by omega⟩
  obtain ⟨w, hw⟩ : ∃ w : Nat, 2 + V2.1 = w := ⟨(2 + V2.1).toNat, by omega⟩
  obtain ⟨sh, e4, s⟩ := drawn_ok (h := h) (w := w) (by omega) (by omega) (by omega) (by omega) c0 (by omega)
  obtain ⟨b, e5⟩ := due_ok s
  have e6 : x0__law_plain_right sh = some b := e5
  have e7 : m_is_up_down_1 sh = some b := by
    unfold m_is_up_down_1
    rw [e5, sb]
  refine ⟨V3.2, ?_⟩
  unfold m__law_plain_right
  rw [e1, sb, e2, sb, e3, sb, hh, hw, e4, sb, is_heights_ok s, sb, if_pos rfl, own_ok s, sb, noughts_ok s, sb, if_pos rfl, e6, sb, e7, sb, if_pos rfl, turned_ok s, sb, lr_flip s, e5, sb]
  simp
end
/-! ### the greater of two drawn rows -/
theorem zip_near {n : Nat} {xs : List Int} (s : Stair n xs) : ∀ q ∈ List.zip xs (xs.drop 1), iabs (q.1 - q.2) ≤ 1 := fun q hq => by
  obtain ⟨i, hi, rfl⟩ := List.mem_iff_getElem.mp hq
  rw [List.length_zip, List.length_drop] at hi
  have l := s.len
  have := s.st i (by omega)
  simp only [List.getElem_zip, List.getElem_drop]
  rw [List.getD_eq_getElem?_getD, List.getD_eq_getElem?_getD, List.getElem?_eq_getElem (show i + 1 < xs.length by omega), List.getElem?_eq_getElem (show i < xs.length by omega)] at this
  simp only [Option.getD_some] at this
  have e : xs[1 + i]'(by omega) = xs[i + 1]'(by omega) := by congr 1; omega
  rw [e]
  unfold iabs
  split <;> omega
theorem by_sums_ok {h w : Nat} {p q : List Int} (sp : Stair h p) (sq : Stair w q) (h1 : 2 ≤ h) (h2 : h ≤ 8) (w1 : 2 ≤ w) (w2 : w ≤ 8) : m_by_sums p q = some (p.map fun x => q.map fun y => max x y) := by
  have one : ∀ {n : Nat} {xs : List Int}, Stair n xs → 2 ≤ n → n ≤ 8 → s0_by_sums xs = some () := fun {n xs} s n1 n2 => by
    have l := s.len
    have c0 : x0_by_sums xs = some false := by
      unfold x0_by_sums
      rw [tuple_row (by omega) (by omega), if_neg (by decide), lenO_ok (by rw [List.length_map]; omega), sb, all_id]
      · rfl
      · intro b hb
        obtain ⟨x, hx, rfl⟩ := List.mem_map.mp hb
        have := s.bnd x hx
        exact within_ok (by omega) (by omega)
    unfold s0_by_sums
    rw [c0, sb, if_neg Bool.false_ne_true, cut_drop (by decide), lenO_ok (by rw [List.length_map, List.length_zip]; omega), sb, all_id]
    · rfl
    · intro b hb
      obtain ⟨z, hz, rfl⟩ := List.mem_map.mp hb
      exact decide_eq_true (zip_near s z hz)
  have pl := sp.len
  have ql := sq.len
  have lp : foldO (fun (Q : Unit) X0 => s0_by_sums X0) [p, q] () = some () := by
    unfold foldO
    rw [one sp h1 h2, sb]
    unfold foldO
    rw [one sq w1 w2, sb]
    rfl
  unfold m_by_sums
  rw [lp, sb, compM_ok (fun x : Int => q.map fun y => max x y) (by omega) fun x hx => ?_, sb]
  unfold b2_by_sums
  rw [lenO_ok (by rw [List.length_map]; omega), sb]
theorem sums_ok (hd : Hd) : ∃ hd', m__law_sums_right hd = some (true, hd') := by
  obtain ⟨V1, e1, a0, a1⟩ := draw_ok hd (m := 3) (by decide) (by decide)
  obtain ⟨V2, e2, b0, b1⟩ := draw_ok V1.2 (m := 3) (by decide) (by decide)
  obtain ⟨V3, e3, c0, c1⟩ := draw_ok V2.2 (m := 5) (by decide) (by decide)
  obtain ⟨hd4, p, e4, sp⟩ := stair_draws (f := fun Q X0 => s0__law_sums_right Q.1 Q.2 X0) (fun Q X => rfl) (x := 0 - V1.1) (by omega) (1 + V3.1).toNat (by omega) V3.2
  obtain ⟨V5, e5, d0, d1⟩ := draw_ok hd4 (m := 5) (by decide) (by decide)
  obtain ⟨hd6, q, e6, sq⟩ := stair_draws (f := fun Q X0 => s1__law_sums_right Q.1 Q.2 X0) (fun Q X => rfl) (x := 0 - V2.1) (by omega) (1 + V5.1).toNat (by omega) V5.2
  obtain ⟨h, hh⟩ : ∃ h : Nat, (1 + V3.1).toNat + 1 = h := ⟨_, rfl⟩
  obtain ⟨w, hw⟩ : ∃ w : Nat, (1 + V5.1).toNat + 1 = w := ⟨_, rfl⟩
  rw [hh] at sp
  rw [hw] at sq
  have e7 := by_sums_ok sp sq (by omega) (by omega) (by omega) (by omega)
  have sh := maxes_sheet sp sq (by omega) (by omega) (by omega) (by omega)
  have pl := sp.len
  have ql := sq.len
  rw [maxes_eq pl ql] at e7
  have inner : ∀ (a : Nat) (hd : Hd), a < h → s2__law_sums_right q (mk h w fun a b => max (p.getD a 0) (q.getD b 0)) hd ((a : Int), p.getD a 0) = some (.nx hd) := fun a hd ha => by
    obtain ⟨s', e, k⟩ := for_get (f := fun Q X3 => s3__law_sums_right (mk h w fun a b => max (p.getD a 0) (q.getD b 0)) (a : Int) (p.getD a 0) Q X3) (0, 0) (fun _ Q => Q = hd) (enumT 0 q) [] hd rfl fun i Q hi k => by
      subst k
      rw [List.nil_append] at hi ⊢
      rw [enum_len] at hi
      refine ⟨Q, ?_, rfl⟩
      rw [enum_getD 0 hi]
      unfold s3__law_sums_right
      dsimp only
      rw [sh.ix (by omega) (by omega), sb, Int.toNat_natCast, sh.ix2 ha (by omega) (by omega), sb, Int.toNat_natCast, mk_at ha (by omega), if_pos rfl]
    subst k
    unfold s2__law_sums_right
    dsimp only
    rw [e, sb]
    rfl
  obtain ⟨s', e8, k⟩ := for_get (f := fun Q X2 => s2__law_sums_right q (mk h w fun a b => max (p.getD a 0) (q.getD b 0)) Q X2) (0, 0) (fun _ Q => Q = hd6) (enumT 0 p) [] hd6 rfl fun i Q hi k => by
    subst k
    rw [List.nil_append] at hi ⊢
    rw [enum_len] at hi
    refine ⟨Q, ?_, rfl⟩
    rw [enum_getD 0 hi]
    exact inner i Q (by omega)
  subst k
  have e9 := is_heights_ok sh
  refine ⟨s', ?_⟩
  unfold m__law_sums_right
  rw [e1, sb, e2, sb, e3, sb, rngO_I (by omega) (by omega), sb, e4, sb, e5, sb, rngO_I (by omega) (by omega), sb, e6, sb, e7, sb, e8, sb]
  unfold sumM
  dsimp only
  rw [pl, ql, e9, sb]
  rfl
/-! ### the law -/
theorem told2 : m_line_told 2 2 ((0, 0), (1, 1)) = some [(0, 0), (0, 1)] := by decide +kernel
theorem law_true (hd : Hd) : ∃ hd', m_law hd = some (true, hd') := by
  have item : ∀ (hd : Hd) (x : Int), ∃ hd', b0_law hd x = some (true, hd') := fun hd x => by
    obtain ⟨hd1, e1⟩ := plain_ok hd
    obtain ⟨hd2, e2⟩ := held_ok hd1
    obtain ⟨hd3, e3⟩ := sums_ok hd2
    refine ⟨hd3, ?_⟩
    unfold b0_law x0_law
    rw [e1, sb, if_pos rfl, e2, sb, if_pos rfl, e3, sb, sb]
  obtain ⟨hd', e⟩ := compN_ok (f := b0_law) item (l := rng 0 3) (by decide) hd
  refine ⟨hd', ?_⟩
  unfold m_law
  rw [told2, sb, if_pos rfl, e, sb]
  rfl
theorem law_holds (NS : List Int) (hl : NS.length ≤ 63) : ∃ t, F_law [.scr (NS.map .int)] [] = .ok (.bl true) false t := by
  obtain ⟨hd, e⟩ := hand_ex NS hl
  obtain ⟨hd', k⟩ := law_true hd
  exact ⟨_, w_law NS hd e k⟩
end K95
open PySem PySem.W PySem.Calls PyProof.Rows
theorem PySem.Challenge.rw_doorroads_k95_whole_two_heights_that_mee_holds_of (law : ∀ ns : List Int, ns.length ≤ 63 → ∃ t, K95.F_law [.scr (ns.map .int)] [] = .ok (.bl true) false t) : PySem.Challenge.rw_doorroads_k95_whole_two_heights_that_mee.Holds := by
  w_on; o_law
  refine HandSHeadRun.head_any (r := K95.R) (q := view K95.R.prog [40]) (H := K95.hk) (ob := K95.ob) (M := 3000) (loose := K95.loose) (d := HandSHeadRun.topDef K95.R.prog 40) (kwd := []) K95.ob_eq
    (by kernel_rfl) (fun s => by kernel_rfl) K95.run (by kernel_rfl) (by kernel_rfl) (by kernel_rfl) (by rfl) (by first | assumption | decide +kernel) (by decide +kernel) ⟨rfl, rfl, rfl, rfl, rfl, by decide +kernel⟩ ?hw ?hc
  case hw => w_witness2
  case hc =>
    refine DR.walkW (l := PySem.Challenge.rw_doorroads_k95_whole_two_heights_that_mee) (n := 63) (k := 9) (x := "script") (CX := fun w => L2.CX (PySem.Challenge.rw_doorroads_k95_whole_two_heights_that_mee).prog w) rfl (by decide) (by kernel_rfl) ⟨rfl, by decide, by decide⟩ DR.cx_closed ?_
    intro w mg fa h Y G hmg0
    obtain ⟨K, KX, c⟩ := Y
    have hmg : mg ("law" : PySem.Str) = some (.ref fa) := by
      have e : (HandSHeadRun.topDef K95.R.prog 40).name = ("law" : PySem.Str) := by kernel_rfl
      rw [← e]
      exact hmg0
    obtain ⟨fd, hb, hF⟩ := K95.facts (P := (PySem.Challenge.rw_doorroads_k95_whole_two_heights_that_mee).prog) (w := w) KX G hmg c
    exact ⟨K, fd, DR.spF K 1 K95.F_law, KX, hb, DR.promise law, hF⟩
theorem PySem.Challenge.cw_doorroads_k95_whole_two_heights_that_mee_holds : PySem.Challenge.rw_doorroads_k95_whole_two_heights_that_mee.Holds := by
  exact PySem.Challenge.rw_doorroads_k95_whole_two_heights_that_mee_holds_of K95.law_holds
