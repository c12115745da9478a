import PyProof.Rows.All
import Wide.All
import OpenK.AllK
import Wide.FinOn
import HandS.ForMost
import HandS.ForExc
import HandS.Walk
import HandS.Lambda
import HandS.CallSlots
import HandS.Defaults
import HandS.TupAny
import HandS.TupLe
import HandS.IsInst
import HandS.Style
import HandS.Wide
import HandS.Zip
import HandS.SortInts
import HandS.Deep
import HandS.Dict
import HandS.Small
import HandS.TupLen
import HandS.Text
import KE.DatumOrd
import HandS.EndTab
import HandS.EndBits
import HandS.HeadWalk
import HandS.HeadEnd
import HandS.HeadHook2
import HandS.Head2
import KE.SortData
import HandS.RaiseMore
import HandS.SetFor
import KE.GoesEnum
import HandS.Iter
import HandS.DictComp
import HandS.TupSets
import HandS.Conv
import KE.KExcSuper
import HandS.ExcInit
import HandS.TryOnly
import HandS.ExcIs
import KE.KExcIs
import HandS.ExcField
import KE.KLam
import HandS.HeadHook4
import KE.KDflt
import KE.GoesZip
import HandS.TupMul
import PySem.Challenge.RW_doorroads_k67_whole_tables_that_stand
set_option Elab.async false
set_option linter.all false
set_option maxRecDepth 100000
/-! DR core: Python values as trees, the heap hidden. -/
namespace DR
open PySem PySem.Spec PyProof.Rows L2
/-! ### values -/
inductive PV where
  | non | bl (b : Bool) | int (i : Int) | str (x : Str) | ty (n : String) | fn (a : Addr) | cell (k : Nat)
  | tup (c : Bool) (xs : List PV) | lst (xs : List PV) | scr (xs : List PV)
  | dK (kvs : List (Key × PV)) | dT (kvs : List (List Key × PV))
  | ins (C : Addr) (fs : List (Str × PV)) | exn (C : Addr) (b : Bool) (fs : List (Str × PV)) | tab (P : Addr) (q : Str) | lam (f c : Addr) (q : Str) (ps : List PV) (vs : List V)
  deriving Inhabited
/-- an exception in hand: its record at a, its dict at d -/
def exi (a C : Addr) (d : Option Addr) : HO := .ext fun h => ∃ (vs : Array Value) (sl : Array (Option Value)), h.get? a = some { cls := .ref C, dict := d, data := .fields vs, slots := sl }
/-- a table of code objects that all bear the name q -/
def TabOk (H : Hp) (q : Str) (ps : Array Value) : Prop := TriplesOk ps.toList ∧ ∀ (pos : Pos) (cv : Value), codeAmong pos ps.toList = some cv → ∃ c, cv = .ref c ∧ H c = some (LamX.CodeO c q)
theorem TabOk.mono {H H' : Hp} {q : Str} {ps : Array Value} (s : Same H H') (t : TabOk H q ps) : TabOk H' q ps := ⟨t.1, fun pos cv h => let ⟨c, e1, e2⟩ := t.2 pos cv h; ⟨c, e1, s _ _ e2⟩⟩
mutual
def Rep (K : PySem.W.Frag) (cs : List Addr) (H : Hp) : PV → V → Prop
  | .non, v => v = .non
  | .bl b, v => v = .bl b
  | .int i, v => v = .int i
  | .str x, v => v = .str x
  | .ty n, v => v = .ty n
  | .fn a, v => v = .ref a
  | .cell k, v => ∃ a, v = .ref a ∧ cs[k]? = some a
  | .tup c ps, v => ∃ a vs, v = .ref a ∧ (if c = true then SqT K H a vs else H a = some (.tup vs)) ∧ Reps K cs H ps vs
  | .lst ps, v => ∃ a vs, v = .ref a ∧ H a = some (.lst vs) ∧ Reps K cs H ps vs
  | .scr ps, v => ∃ a vs, v = .ref a ∧ SqL K H a vs ∧ Reps K cs H ps vs
  | .dK kvs, v => ∃ a ws, v = .ref a ∧ H a = some (.dK ws) ∧ RepK K cs H kvs ws
  | .dT kvs, v => ∃ a ws, v = .ref a ∧ H a = some (.dT ws) ∧ RepT K cs H kvs ws
  | .ins C fs, v => ∃ a dx ws, v = .ref a ∧ H a = some (.ins C dx ws) ∧ RepF K cs H fs ws
  | .exn C b fs, v => ∃ (a : Addr) (d : Option Addr) (ws : List (Str × V)), v = .ref a ∧ H a = some (exi a C d) ∧ RepF K cs H fs ws ∧ (if b = true then ∃ dd, d = some dd ∧ H dd = some (.xd ws) else d = none)
  | .tab P q, v => ∃ ps, v = .ref P ∧ H P = some (.tbl ps) ∧ TabOk H q ps
  | .lam f c q ps vs, v => v = .ref f ∧ H c = some (LamX.CodeO c q) ∧ Reps K cs H ps vs
def Reps (K : PySem.W.Frag) (cs : List Addr) (H : Hp) : List PV → List V → Prop
  | [], vs => vs = []
  | p :: ps, vs => ∃ v r, vs = v :: r ∧ Rep K cs H p v ∧ Reps K cs H ps r
def RepK (K : PySem.W.Frag) (cs : List Addr) (H : Hp) : List (Key × PV) → List (Key × V) → Prop
  | [], ws => ws = []
  | (k, p) :: ps, ws => ∃ v r, ws = (k, v) :: r ∧ Rep K cs H p v ∧ RepK K cs H ps r
def RepT (K : PySem.W.Frag) (cs : List Addr) (H : Hp) : List (List Key × PV) → List (List Key × V) → Prop
  | [], ws => ws = []
  | (k, p) :: ps, ws => ∃ v r, ws = (k, v) :: r ∧ Rep K cs H p v ∧ RepT K cs H ps r
def RepF (K : PySem.W.Frag) (cs : List Addr) (H : Hp) : List (Str × PV) → List (Str × V) → Prop
  | [], ws => ws = []
  | (k, p) :: ps, ws => ∃ v r, ws = (k, v) :: r ∧ Rep K cs H p v ∧ RepF K cs H ps r
end
def Pre (cs cs' : List Addr) : Prop := ∀ (k : Nat) (a : Addr), cs[k]? = some a → cs'[k]? = some a
theorem Pre.refl (cs : List Addr) : Pre cs cs := fun _ _ h => h
theorem Pre.trans {a b c : List Addr} (h : Pre a b) (g : Pre b c) : Pre a c := fun k x e => g k x (h k x e)
theorem Pre.app (cs more : List Addr) : Pre cs (cs ++ more) := fun k a e => by
  have hk : k < cs.length := (List.getElem?_eq_some_iff.mp e).1
  rw [List.getElem?_append_left hk]
  exact e
theorem rd_mono {H H' : Hp} {a : Addr} {u : HO} (s : Same H H') (r : Rd H a u) : Rd H' a u := by
  rcases r with r | ⟨o, r⟩
  · exact .inl (s _ _ r)
  · exact .inr ⟨o, s _ _ r⟩
theorem sqL_mono {K : PySem.W.Frag} {H H' : Hp} {a : Addr} {vs : List V} (s : Same H H') (r : SqL K H a vs) : SqL K H' a vs := r.imp (rd_mono s) id
theorem sqT_mono {K : PySem.W.Frag} {H H' : Hp} {a : Addr} {vs : List V} (s : Same H H') (r : SqT K H a vs) : SqT K H' a vs := r.imp (rd_mono s) id
section
variable {K : PySem.W.Frag} {cs cs' : List Addr} {H H' : Hp}
mutual
theorem Rep.mono (hc : Pre cs cs') (s : Same H H') : ∀ (p : PV) (v : V), Rep K cs H p v → Rep K cs' H' p v
  | .non, _, h => by unfold Rep at h ⊢; exact h
  | .bl _, _, h => by unfold Rep at h ⊢; exact h
  | .int _, _, h => by unfold Rep at h ⊢; exact h
  | .str _, _, h => by unfold Rep at h ⊢; exact h
  | .ty _, _, h => by unfold Rep at h ⊢; exact h
  | .fn _, _, h => by unfold Rep at h ⊢; exact h
  | .cell _, _, h => by
    unfold Rep at h ⊢
    obtain ⟨a, e, h⟩ := h
    exact ⟨a, e, hc _ _ h⟩
  | .tup true ps, _, h => by
    unfold Rep at h ⊢
    obtain ⟨a, vs, e, h, r⟩ := h
    rw [if_pos rfl] at h
    exact ⟨a, vs, e, by rw [if_pos rfl]; exact sqT_mono s h, Reps.mono hc s ps vs r⟩
  | .tup false ps, _, h => by
    unfold Rep at h ⊢
    obtain ⟨a, vs, e, h, r⟩ := h
    rw [if_neg (by decide)] at h
    exact ⟨a, vs, e, by rw [if_neg (by decide)]; exact s _ _ h, Reps.mono hc s ps vs r⟩
  | .lst ps, _, h => by
    unfold Rep at h ⊢
    obtain ⟨a, vs, e, h, r⟩ := h
    exact ⟨a, vs, e, s _ _ h, Reps.mono hc s ps vs r⟩
  | .scr ps, _, h => by
    unfold Rep at h ⊢
    obtain ⟨a, vs, e, h, r⟩ := h
    exact ⟨a, vs, e, sqL_mono s h, Reps.mono hc s ps vs r⟩
  | .dK ps, _, h => by
    unfold Rep at h ⊢
    obtain ⟨a, vs, e, h, r⟩ := h
    exact ⟨a, vs, e, s _ _ h, RepK.mono hc s ps vs r⟩
  | .dT ps, _, h => by
    unfold Rep at h ⊢
    obtain ⟨a, vs, e, h, r⟩ := h
    exact ⟨a, vs, e, s _ _ h, RepT.mono hc s ps vs r⟩
  | .ins C ps, _, h => by
    unfold Rep at h ⊢
    obtain ⟨a, dx, vs, e, h, r⟩ := h
    exact ⟨a, dx, vs, e, s _ _ h, RepF.mono hc s ps vs r⟩
  | .exn C b ps, _, h => by
    unfold Rep at h ⊢
    obtain ⟨a, d, ws, e, h, r, z⟩ := h
    refine ⟨a, d, ws, e, s _ _ h, RepF.mono hc s ps ws r, ?_⟩
    cases b with
    | false => exact z
    | true =>
      rw [if_pos rfl] at z ⊢
      obtain ⟨dd, e1, e2⟩ := z
      exact ⟨dd, e1, s _ _ e2⟩
  | .tab P q, _, h => by
    unfold Rep at h ⊢
    obtain ⟨ps, e, h, r⟩ := h
    exact ⟨ps, e, s _ _ h, r.mono s⟩
  | .lam f c q ps vs, _, h => by
    unfold Rep at h ⊢
    obtain ⟨e, h, r⟩ := h
    exact ⟨e, s _ _ h, Reps.mono hc s ps vs r⟩
theorem Reps.mono (hc : Pre cs cs') (s : Same H H') : ∀ (ps : List PV) (vs : List V), Reps K cs H ps vs → Reps K cs' H' ps vs
  | [], _, h => by unfold Reps at h ⊢; exact h
  | p :: ps, _, h => by
    unfold Reps at h ⊢
    obtain ⟨v, r, e, a, b⟩ := h
    exact ⟨v, r, e, Rep.mono hc s p v a, Reps.mono hc s ps r b⟩
theorem RepK.mono (hc : Pre cs cs') (s : Same H H') : ∀ (ps : List (Key × PV)) (vs : List (Key × V)), RepK K cs H ps vs → RepK K cs' H' ps vs
  | [], _, h => by unfold RepK at h ⊢; exact h
  | (k, p) :: ps, _, h => by
    unfold RepK at h ⊢
    obtain ⟨v, r, e, a, b⟩ := h
    exact ⟨v, r, e, Rep.mono hc s p v a, RepK.mono hc s ps r b⟩
theorem RepT.mono (hc : Pre cs cs') (s : Same H H') : ∀ (ps : List (List Key × PV)) (vs : List (List Key × V)), RepT K cs H ps vs → RepT K cs' H' ps vs
  | [], _, h => by unfold RepT at h ⊢; exact h
  | (k, p) :: ps, _, h => by
    unfold RepT at h ⊢
    obtain ⟨v, r, e, a, b⟩ := h
    exact ⟨v, r, e, Rep.mono hc s p v a, RepT.mono hc s ps r b⟩
theorem RepF.mono (hc : Pre cs cs') (s : Same H H') : ∀ (ps : List (Str × PV)) (vs : List (Str × V)), RepF K cs H ps vs → RepF K cs' H' ps vs
  | [], _, h => by unfold RepF at h ⊢; exact h
  | (k, p) :: ps, _, h => by
    unfold RepF at h ⊢
    obtain ⟨v, r, e, a, b⟩ := h
    exact ⟨v, r, e, Rep.mono hc s p v a, RepF.mono hc s ps r b⟩
end
theorem rep_tup {c : Bool} {ps : List PV} {v : V} (r : Rep K cs H (.tup c ps) v) : ∃ a vs, v = .ref a ∧ SqT K H a vs ∧ Reps K cs H ps vs := by
  unfold Rep at r
  obtain ⟨a, vs, e, h, g⟩ := r
  refine ⟨a, vs, e, ?_, g⟩
  cases c with
  | true => rw [if_pos rfl] at h; exact h
  | false => rw [if_neg (by decide)] at h; exact SqT.of h
theorem rep_tup_mk {c : Bool} {ps : List PV} {a : Addr} {vs : List V} (h : H a = some (.tup vs)) (g : Reps K cs H ps vs) : Rep K cs H (.tup c ps) (.ref a) := by
  unfold Rep
  refine ⟨a, vs, rfl, ?_, g⟩
  cases c with
  | true => rw [if_pos rfl]; exact SqT.of h
  | false => rw [if_neg (by decide)]; exact h
theorem rep_tup_mkT {ps : List PV} {a : Addr} {vs : List V} (h : SqT K H a vs) (g : Reps K cs H ps vs) : Rep K cs H (.tup true ps) (.ref a) := by
  unfold Rep
  exact ⟨a, vs, rfl, by rw [if_pos rfl]; exact h, g⟩
theorem rep_tup_up {c d : Bool} {ps : List PV} {v : V} (hcd : c = true → d = true) (r : Rep K cs H (.tup c ps) v) : Rep K cs H (.tup d ps) v := by
  cases d with
  | true => obtain ⟨a, vs, rfl, h, g⟩ := rep_tup r; exact rep_tup_mkT h g
  | false =>
    cases c with
    | true => exact nomatch hcd rfl
    | false => exact r
theorem reps_cons {p : PV} {ps : List PV} {v : V} {vs : List V} (a : Rep K cs H p v) (b : Reps K cs H ps vs) : Reps K cs H (p :: ps) (v :: vs) := by
  unfold Reps
  exact ⟨v, vs, rfl, a, b⟩
theorem reps_nil : Reps K cs H [] [] := by unfold Reps; rfl
theorem Reps.len : ∀ {ps : List PV} {vs : List V}, Reps K cs H ps vs → vs.length = ps.length
  | [], _, h => by unfold Reps at h; subst h; rfl
  | p :: ps, _, h => by
    unfold Reps at h
    obtain ⟨v, r, e, a, b⟩ := h
    subst e
    simp [Reps.len b]
theorem Reps.get : ∀ {ps : List PV} {vs : List V} {i : Nat} {p : PV}, Reps K cs H ps vs → ps[i]? = some p → ∃ v, vs[i]? = some v ∧ Rep K cs H p v
  | [], _, _, _, _, e => by simp at e
  | p :: ps, _, 0, q, h, e => by
    unfold Reps at h
    obtain ⟨v, r, e1, a, b⟩ := h
    subst e1
    simp at e
    subst e
    exact ⟨v, rfl, a⟩
  | p :: ps, _, i + 1, q, h, e => by
    unfold Reps at h
    obtain ⟨v, r, e1, a, b⟩ := h
    subst e1
    simpa using Reps.get (i := i) b (by simpa using e)
theorem Reps.get' {ps : List PV} {vs : List V} {i : Nat} {v : V} (h : Reps K cs H ps vs) (e : vs[i]? = some v) : ∃ p, ps[i]? = some p ∧ Rep K cs H p v := by
  have hi : i < ps.length := by
    have := (List.getElem?_eq_some_iff.mp e).1
    rw [h.len] at this
    exact this
  obtain ⟨w, e2, r⟩ := h.get (List.getElem?_eq_getElem hi)
  rw [e] at e2
  cases e2
  exact ⟨_, List.getElem?_eq_getElem hi, r⟩
theorem Reps.app : ∀ {ps qs : List PV} {vs ws : List V}, Reps K cs H ps vs → Reps K cs H qs ws → Reps K cs H (ps ++ qs) (vs ++ ws)
  | [], _, _, _, h, g => by unfold Reps at h; subst h; exact g
  | p :: ps, _, _, _, h, g => by
    unfold Reps at h
    obtain ⟨v, r, e1, a, b⟩ := h
    subst e1
    exact reps_cons a (Reps.app b g)
theorem Reps.set : ∀ {ps : List PV} {vs : List V} {i : Nat} {p : PV} {v : V}, Reps K cs H ps vs → Rep K cs H p v → Reps K cs H (ps.set i p) (vs.set i v)
  | [], _, _, _, _, h, g => by unfold Reps at h; subst h; exact reps_nil
  | p :: ps, _, 0, _, _, h, g => by
    unfold Reps at h
    obtain ⟨v, r, e1, a, b⟩ := h
    subst e1
    exact reps_cons g b
  | p :: ps, _, i + 1, _, _, h, g => by
    unfold Reps at h
    obtain ⟨v, r, e1, a, b⟩ := h
    subst e1
    exact reps_cons a (Reps.set b g)
theorem Reps.take : ∀ {ps : List PV} {vs : List V} (n : Nat), Reps K cs H ps vs → Reps K cs H (ps.take n) (vs.take n)
  | [], _, n, h => by unfold Reps at h; subst h; simpa using reps_nil
  | p :: ps, _, 0, h => by simpa using reps_nil
  | p :: ps, _, n + 1, h => by
    unfold Reps at h
    obtain ⟨v, r, e1, a, b⟩ := h
    subst e1
    exact reps_cons a (Reps.take n b)
theorem Reps.drop : ∀ {ps : List PV} {vs : List V} (n : Nat), Reps K cs H ps vs → Reps K cs H (ps.drop n) (vs.drop n)
  | [], _, n, h => by unfold Reps at h; subst h; simpa using reps_nil
  | p :: ps, _, 0, h => h
  | p :: ps, _, n + 1, h => by
    unfold Reps at h
    obtain ⟨v, r, e1, a, b⟩ := h
    subst e1
    exact Reps.drop n b
theorem Reps.rev : ∀ {ps : List PV} {vs : List V}, Reps K cs H ps vs → Reps K cs H ps.reverse vs.reverse
  | [], _, h => by unfold Reps at h; subst h; exact reps_nil
  | p :: ps, _, h => by
    unfold Reps at h
    obtain ⟨v, r, e1, a, b⟩ := h
    subst e1
    simp only [List.reverse_cons]
    exact (Reps.rev b).app (reps_cons a reps_nil)
end
/-! ### masks and worlds -/
/-- the heap without the addresses of L -/
def msk (L : List Addr) (H : Hp) : Hp := fun a => if a ∈ L then none else H a
theorem msk_in {L : List Addr} {H : Hp} {a : Addr} (h : a ∈ L) : msk L H a = none := if_pos h
theorem msk_out {L : List Addr} {H : Hp} {a : Addr} (h : a ∉ L) : msk L H a = H a := if_neg h
theorem msk_some {L : List Addr} {H : Hp} {a : Addr} {o : HO} : msk L H a = some o ↔ a ∉ L ∧ H a = some o := by
  unfold msk
  split
  · simp [*]
  · simp [*]
theorem msk_sub (L : List Addr) (H : Hp) : Same (msk L H) H := fun b o e => (msk_some.mp e).2
/-- O: what only one name (or a value in flight) reaches; S: the store; P: what the code around keeps to itself -/
structure Wd where
  O : List Addr
  S : List Addr
  P : List Addr
def Wd.L (W : Wd) : List Addr := W.O ++ (W.S ++ W.P)
theorem Wd.notL {W : Wd} {a : Addr} : a ∉ W.L ↔ a ∉ W.O ∧ a ∉ W.S ∧ a ∉ W.P := by simp [Wd.L]
def Wd.m (W : Wd) (H : Hp) : Hp := msk W.L H
structure Step (W : Wd) (H : Hp) (W' : Wd) (H' : Hp) : Prop where
  same : Same (W.m H) (W'.m H')
  there : ∀ b, H' b = none → H b = none
  new : ∀ b ∈ W'.O, b ∈ W.O ∨ H b = none
  pre : Pre W.S W'.S
  sto : ∀ b ∈ W'.S, b ∈ W.S ∨ b ∈ W.O ∨ H b = none
  prv : W'.P = W.P
  pk : ∀ b ∈ W.P, H' b = H b
theorem Step.refl (W : Wd) (H : Hp) : Step W H W H := ⟨Same.refl _, fun _ h => h, fun _ h => .inl h, Pre.refl _, fun _ h => .inl h, rfl, fun _ _ => rfl⟩
theorem Step.trans {W W1 W2 : Wd} {H H1 H2 : Hp} (a : Step W H W1 H1) (b : Step W1 H1 W2 H2) : Step W H W2 H2 where
  same := a.same.trans b.same
  there := fun c h => a.there c (b.there c h)
  new := fun c h => (b.new c h).elim (a.new c) fun h => .inr (a.there c h)
  pre := a.pre.trans b.pre
  sto := fun c h => (b.sto c h).elim (a.sto c) fun h => h.elim (fun h => .inr (a.new c h)) fun h => .inr (.inr (a.there c h))
  prv := b.prv.trans a.prv
  pk := fun c h => (b.pk c (by rw [a.prv]; exact h)).trans (a.pk c h)
section
variable {K : PySem.W.Frag} {W W' : Wd} {H H' : Hp}
/-- p as v, reached by anything -/
abbrev RV (K : PySem.W.Frag) (W : Wd) (H : Hp) (p : PV) (v : V) : Prop := Rep K W.S (W.m H) p v
abbrev RVs (K : PySem.W.Frag) (W : Wd) (H : Hp) (p : List PV) (v : List V) : Prop := Reps K W.S (W.m H) p v
theorem Step.rv {p : PV} {v : V} (s : Step W H W' H') (r : RV K W H p v) : RV K W' H' p v := r.mono s.pre s.same
theorem Step.rvs {p : List PV} {v : List V} (s : Step W H W' H') (r : RVs K W H p v) : RVs K W' H' p v := r.mono s.pre s.same
/-- what stands at a, the object itself perhaps owned -/
def Con (K : PySem.W.Frag) (W : Wd) (H : Hp) (p : PV) (a : Addr) : Prop :=
  match p with
  | .lst ps => ∃ vs, H a = some (.lst vs) ∧ Reps K W.S (W.m H) ps vs
  | .dK ps => ∃ vs, H a = some (.dK vs) ∧ RepK K W.S (W.m H) ps vs
  | .dT ps => ∃ vs, H a = some (.dT vs) ∧ RepT K W.S (W.m H) ps vs
  | .ins C ps => ∃ dx vs, H a = some (.ins C dx vs) ∧ RepF K W.S (W.m H) ps vs
  | .tab P q => a = P ∧ ∃ ps, H a = some (.tbl ps) ∧ TabOk (W.m H) q ps
  | _ => False
theorem Con.step {p : PV} {a : Addr} (s : Step W H W' H') (h : Con K W H p a) (e : H' a = H a) : Con K W' H' p a := by
  cases p with
  | lst ps => obtain ⟨vs, h1, h2⟩ := h; exact ⟨vs, e.trans h1, h2.mono s.pre s.same⟩
  | dK ps => obtain ⟨vs, h1, h2⟩ := h; exact ⟨vs, e.trans h1, h2.mono s.pre s.same⟩
  | dT ps => obtain ⟨vs, h1, h2⟩ := h; exact ⟨vs, e.trans h1, h2.mono s.pre s.same⟩
  | ins C ps => obtain ⟨dx, vs, h1, h2⟩ := h; exact ⟨dx, vs, e.trans h1, h2.mono s.pre s.same⟩
  | tab P q => obtain ⟨h0, ps, h1, h2⟩ := h; exact ⟨h0, ps, e.trans h1, h2.mono s.same⟩
  | _ => exact h.elim
theorem Con.there {p : PV} {a : Addr} (h : Con K W H p a) : ∃ o, H a = some o := by
  cases p with
  | lst ps => obtain ⟨vs, h1, h2⟩ := h; exact ⟨_, h1⟩
  | dK ps => obtain ⟨vs, h1, h2⟩ := h; exact ⟨_, h1⟩
  | dT ps => obtain ⟨vs, h1, h2⟩ := h; exact ⟨_, h1⟩
  | ins C ps => obtain ⟨dx, vs, h1, h2⟩ := h; exact ⟨_, h1⟩
  | tab P q => obtain ⟨h0, ps, h1, h2⟩ := h; exact ⟨_, h1⟩
  | _ => exact h.elim
/-- there, and no tuple -/
def Th (H : Hp) (a : Addr) : Prop := ∃ o, H a = some o ∧ ∀ vs, o ≠ .tup vs
theorem Con.th {p : PV} {a : Addr} (h : Con K W H p a) : Th H a := by
  cases p with
  | lst ps => obtain ⟨vs, h1, h2⟩ := h; exact ⟨_, h1, fun _ z => nomatch z⟩
  | dK ps => obtain ⟨vs, h1, h2⟩ := h; exact ⟨_, h1, fun _ z => nomatch z⟩
  | dT ps => obtain ⟨vs, h1, h2⟩ := h; exact ⟨_, h1, fun _ z => nomatch z⟩
  | ins C ps => obtain ⟨dx, vs, h1, h2⟩ := h; exact ⟨_, h1, fun _ z => nomatch z⟩
  | tab P q => obtain ⟨h0, ps, h1, h2⟩ := h; exact ⟨_, h1, fun _ z => nomatch z⟩
  | _ => exact h.elim
theorem Con.nt {p : PV} {a : Addr} {o : HO} (h : Con K W (upd H a o) p a) : ∀ vs, o ≠ .tup vs := by
  obtain ⟨o', e, n⟩ := h.th
  rw [upd_same] at e
  cases e
  exact n
/-- no longer owned: a plain value -/
theorem Con.rv {p : PV} {a : Addr} (h : Con K W H p a) (ha : a ∉ W.L) : RV K W H p (.ref a) := by
  have q : ∀ o, H a = some o → W.m H a = some o := fun o e => msk_some.mpr ⟨ha, e⟩
  cases p with
  | lst ps => obtain ⟨vs, h1, h2⟩ := h; unfold RV Rep; exact ⟨a, vs, rfl, q _ h1, h2⟩
  | dK ps => obtain ⟨vs, h1, h2⟩ := h; unfold RV Rep; exact ⟨a, vs, rfl, q _ h1, h2⟩
  | dT ps => obtain ⟨vs, h1, h2⟩ := h; unfold RV Rep; exact ⟨a, vs, rfl, q _ h1, h2⟩
  | ins C ps => obtain ⟨dx, vs, h1, h2⟩ := h; unfold RV Rep; exact ⟨a, dx, vs, rfl, q _ h1, h2⟩
  | tab P q' => obtain ⟨h0, ps, h1, h2⟩ := h; subst h0; unfold RV Rep; exact ⟨ps, rfl, q _ h1, h2⟩
  | _ => exact h.elim
end
/-! ### frames: slots, the store -/
inductive Sl where
  | no | val (p : PV) | own (p : PV)
  deriving Inhabited
abbrev DE := List Sl
abbrev DT := List PV
structure RE (K : PySem.W.Frag) (W : Wd) (H : Hp) (e : DE) (σ : L2.St) : Prop where
  len : e.length = σ.length
  at_ : ∀ (i : Nat) (p : PV), e[i]? = some (.val p) → ∃ v, σ[i]? = some (some v) ∧ RV K W H p v
  ow : ∀ (i : Nat) (p : PV), e[i]? = some (.own p) → ∃ a, σ[i]? = some (some (.ref a)) ∧ a ∈ W.O ∧ Con K W H p a
  inj : ∀ (i j : Nat) (p q : PV) (a : Addr), e[i]? = some (.own p) → e[j]? = some (.own q) → σ[i]? = some (some (.ref a)) → σ[j]? = some (some (.ref a)) → i = j
structure RS (K : PySem.W.Frag) (W : Wd) (H : Hp) (t : DT) : Prop where
  len : t.length = W.S.length
  at_ : ∀ (k : Nat) (p : PV) (a : Addr), t[k]? = some p → W.S[k]? = some a → Con K W H p a
  nd : W.S.Nodup
  ap : ∀ a ∈ W.O, a ∉ W.S
  pt : ∀ a ∈ W.P, Th H a
  pa : ∀ a ∈ W.O, a ∉ W.P
  ps : ∀ a ∈ W.S, a ∉ W.P
  ot : ∀ a ∈ W.O, Th H a
structure DS where
  e : DE
  t : DT
/-- the whole state -/
structure RSt (K : PySem.W.Frag) (W : Wd) (H : Hp) (s : DS) (σ : L2.St) : Prop where
  e : RE K W H s.e σ
  t : RS K W H s.t
end DR
set_option maxHeartbeats 4000000
/-! DR: room, and no guard under way; defs called so. -/
namespace DR
open PySem PySem.Spec PyProof.Rows L2
structure RoomG (k : Nat) (A : Around) : Prop where
  r : Room k A
  g : A.guards = some []
theorem RoomG.mono {j k : Nat} {A : Around} (h : RoomG k A) (hj : j ≤ k) : RoomG j A := ⟨h.r.mono hj, h.g⟩
theorem RoomG.deeper {k : Nat} {A : Around} (h : RoomG (k + 1) A) (env : PySem.Env) : RoomG k (A.deeper env) := ⟨h.r.deeper env, h.g⟩
theorem RoomG.hd {k : Nat} {A : Around} (h : RoomG k A) : A.handled = none := h.r.hd
theorem RoomG.depth {k : Nat} {A : Around} (h : RoomG k A) : A.depth < recursionLimit := h.r.depth
/-- FnOk, called where no guard is under way -/
structure FnG (P : Program) (w : World) (K : PySem.W.Frag) (mg : Str → Option Value) (base : Heap) (CX : CXT) (k : Nat) (f : Addr) (fd : FuncData) (ps : List Str) (sp : Sp) : Prop where
  len : ∀ vs H Q E, sp vs H Q E → vs.length = ps.length
  run : ∀ (A : Around) (outer : List PySem.Env) (s : Shared) (H : Hp) (as : Args) (us : List Value) (vs : List V) (Q : VK) (E : XK), RoomG k A → Env0 P w K mg base A outer s H → BindsTo s fd as (ps.zip us) → Vals vs us → sp vs H Q E →
    codeAny (model P w) A (.call (.ref f) as) (CR CX outer P w H s Q E) s
theorem FnG.mono {P : Program} {w : World} {K : PySem.W.Frag} {mg : Str → Option Value} {base : Heap} {CX : CXT} {j k : Nat} {f : Addr} {fd : FuncData} {ps : List Str} {sp : Sp} (F : FnG P w K mg base CX j f fd ps sp) (h : j ≤ k) : FnG P w K mg base CX k f fd ps sp :=
  ⟨F.len, fun A outer s H as us vs Q E hr => F.run A outer s H as us vs Q E (hr.mono h)⟩
theorem fn_ofG {CX : CXT} {P : Program} {w : World} {K : PySem.W.Frag} {mg : Str → Option Value} {base : Heap} {k : Nat} {f : Addr} {nm qual : Str} {params : Arguments} {body : List Stmt} {scope : Scope} {dV kV doc pm cdv ct oc : Value} {an od : Option Addr}
    {osl : Array (Option Value)} {N ps : List Str} {sp : Sp} (lk : K.lookup f = some ⟨oc, od, .func (PySem.W.fnOf nm qual params body scope dV kV doc pm an cdv ct), osl⟩) (hcd : PySem.W.codeIn K cdv qual = true) (S : FnScope N ps scope)
    (len : ∀ vs H Q E, sp vs H Q E → vs.length = ps.length)
    (hb : ∀ (A : Around) (outer : List PySem.Env) (s : Shared) (H : Hp) (vs : List V) (Q : VK) (E : XK), RoomG k (A.deeper (envOfC qual scope s.heap.objs.size f cdv)) → sp vs H Q E →
      ∃ t, PSs (cxOf CX P w K mg base N qual scope f cdv A outer s H E) body t ∧ t { nx := fun _ H' => Q .non H', rt := Q } (start N vs) H) :
    FnG P w K mg base CX (k + 1) f (PySem.W.fnOf nm qual params body scope dV kV doc pm an cdv ct) ps sp := by
  refine ⟨len, fun A outer s H as us vs Q E hr e0 bd rv hsp => ?_⟩
  have lens := len _ _ _ _ hsp
  have kin : K.In s.heap := e0.mod.kin.keeps fun b o e => (e0.bs b o e).1
  have nolim : s.heap.NoLimit := e0.mod.nolimit.keeps fun b o e => (e0.bs b o e).1
  have kinds : ∀ y ∈ ps.zip us, scope.names.lookup y.1 = some .local ∨ (scope.names.lookup y.1 = some .cell ∧ ((cellsFrom (s.heap.objs.size + 1) scope.names []).lookup y.1).isSome = true) := fun ⟨n, v⟩ hy => by
    rcases S.par n (List.of_mem_zip hy).1 with z | z
    · exact .inl z
    · exact .inr ⟨z, PySem.W.cellsFrom_some _ _ _ (.inl z)⟩
  refine codeAny_call_function hr.depth (kin _ _ lk) rfl S.co S.gen rfl (PySem.W.codeRec_of kin hcd) (bd _ _ _ _ ?_)
  refine wpAny_newFunctionEnv_cells S.kind kinds fun env he s1 x => ?_
  subst he
  refine ⟨nolim.keeps x.toInCall.keep, codeAny_func ?_⟩
  obtain ⟨t, ht, hq⟩ := hb A outer s H vs Q E (hr.deeper _) hsp
  have I : Inv (cxOf CX P w K mg base N qual scope f cdv A outer s H E) [] (start N vs) H s1 := inv_start S hr.hd e0 lens rv x
  refine wpAny_mono (ht.run [] s1 (start N vs) H _ I hq) (fun fl s' hs => ?_) fun e s' hs => hs
  have done : ∀ {σ' : L2.St} {H' : Hp} {v : V} {u : Value}, Inv (cxOf CX P w K mg base N qual scope f cdv A outer s H E) [] σ' H' s' → RelV v u → Q v H' → CE outer P w H s Q u s' :=
    fun {σ' H' v u} J r q => ⟨v, H', J.os, J.bare, J.base, J.hok, r, q⟩
  cases fl with
  | ret u =>
    obtain ⟨v, σ', H', J, r, q⟩ := hs
    exact done J r q
  | next =>
    obtain ⟨σ', H', J, q⟩ := hs
    exact done (v := V.non) (u := Value.none) J rfl q
  | brk => obtain ⟨_, _, _, q⟩ := hs; exact q.elim
  | cont => obtain ⟨_, _, _, q⟩ := hs; exact q.elim
section
variable {X : Cx} {CX : CXT} {k : Nat} {f : Addr} {fd : FuncData} {ps : List Str} {sp : Sp} {dvs : List V} {ds : List Value} {E : L2.St → XK} {x : Str} {p pos : Pos} {e : Expr} {es : List Expr} {t : TA}
theorem run_fnG {pins : List (Addr × Obj)} {σ : L2.St} {H : Hp} {s : Shared} {Q : VK} {us : List Value} {vs : List V} (F : FnG X.prog X.w X.K X.mg X.base CX k f fd ps sp) (hr : RoomG k X.A) (bd : Binds X.K fd ps ds) (hd : Vals dvs ds) (hx : PassesAt CX X σ (E σ))
    (I : Inv X pins σ H s) (rv : Vals vs us) (h : sp (vs ++ dvs) H Q (E σ)) : wpAny (model X.prog X.w) X.A (call (.ref f) us) (EP X pins σ Q) X.xe s := by
  have rv2 : Vals (vs ++ dvs) (us ++ ds) := rv.append hd
  have lens : (us ++ ds).length = ps.length := by rw [← rv2.length]; exact F.len _ _ _ _ h
  refine wpAny_call (codeAny_mono (F.run X.A X.stack s H ⟨us, []⟩ (us ++ ds) (vs ++ dvs) Q (E σ) hr I.env0 (bd s us I.kIn lens) rv2 h) fun r s' q => ?_)
  cases r with
  | error e => exact hx pins H s e s' I q
  | ok fl =>
    cases fl with
    | ret u => exact I.after q
    | next => exact q.elim
    | brk => exact q.elim
    | cont => exact q.elim
theorem pe_callG (F : FnG X.prog X.w X.K X.mg X.base CX k f fd ps sp) (hr : RoomG k X.A) (hg : Gl X x) (hm : X.mg x = some (.ref f)) (hk : PySem.W.keepIn X.K (.ref f) = true) (bd : Binds X.K fd ps ds) (hd : Vals dvs ds) (hx : ∀ σ, PassesAt CX X σ (E σ))
    (ha : PA X (e :: es) t) (hdb : (x == ("__debug__" : Str)) = false := by decide) (he : starEach (e :: es) X.env = (false, eval e X.env) :: starEach es X.env := by rfl) (hpl : (backTo pos (starEach es X.env)).any (·.1) = false := by rfl) :
    PE X (.Call (.Name x p) (e :: es) [] pos) (tCallSD sp dvs E t) := by
  refine ⟨fun pins s σ H Q I h => wpAny_Call_Name_kw (ld_glob I hg hm ?_ hdb)⟩
  exact PySem.W.callWith_K (h₀ := X.base) I.ok.mod.kin hk (thn (ha.run pos pins s σ H _ I h) fun us s1 ⟨vs, H1, I1, rv, q⟩ => ⟨I1.kIn, run_fnG F hr bd hd (hx σ) I1 rv q⟩) he hpl
end
end DR
/-! DR: results, readings, names, displays, statements. -/
namespace DR
open PySem PySem.Spec PyProof.Rows L2
structure Exn where
  C : Addr
  fs : Option (List (Str × PV))
inductive Re (α : Type) where
  | ok (a : α) (s : DS) | exc (x : Exn) (s : DS) | bad
def Re.bind {α β : Type} (r : Re α) (g : α → DS → Re β) : Re β :=
  match r with
  | .ok a s => g a s
  | .exc x s => .exc x s
  | .bad => .bad
inductive Fl where
  | nx | rt (p : PV) (fr : Bool) | bk | ct
abbrev EM := DS → Re PV
abbrev OM := DS → Re (PV × Bool)
abbrev AM := DS → Re (List PV)
abbrev TM := DS → Re Bool
abbrev SM := DS → Re Fl
section
variable {K : PySem.W.Frag} {W W' W1 : Wd} {H H' H1 : Hp} {s s1 : DS} {σ : L2.St} {Z : WX}
/-- an exception as it lies -/
def XR (K : PySem.W.Frag) (W : Wd) (H : Hp) (x : Exn) (d : Option Addr) : Prop :=
  match x.fs with
  | none => d = none
  | some l => ∃ dd ws, d = some dd ∧ W.m H dd = some (.xd ws) ∧ RepF K W.S (W.m H) l ws
abbrev RT (α β : Type) := PySem.W.Frag → L2.St → Wd → Hp → DS → α → β → Prop
def Post {α β : Type} (R : RT α β) (K : PySem.W.Frag) (Z : WX) (σ : L2.St) (W : Wd) (H : Hp) (r : Re α) (Q : β → Hp → Prop) : Prop :=
  match r with
  | .ok a s' => ∀ b W' H', Step W H W' H' → RSt K W' H' s' σ → R K σ W' H' s' a b → Q b H'
  | .exc x s' => ∀ d W' H', Step W H W' H' → RSt K W' H' s' σ → XR K W' H' x d → Z (.ref x.C) d σ H'
  | .bad => False
def tG {α β : Type} (R : RT α β) (K : PySem.W.Frag) (Z : WX) (f : DS → Re α) : L2.St → Hp → (β → Hp → Prop) → Prop := fun σ H Q => ∃ W s, RSt K W H s σ ∧ Post R K Z σ W H (f s) Q
def rE : RT PV V := fun K _ W H _ p v => RV K W H p v
def rA : RT (List PV) (List V) := fun K _ W H _ p v => RVs K W H p v
def rT : RT Bool Bool := fun _ _ _ _ _ b c => c = b
/-- owned: a value that nothing else reaches -/
def Own (K : PySem.W.Frag) (σ : L2.St) (W : Wd) (H : Hp) (s : DS) (p : PV) (v : V) : Prop := ∃ a, v = .ref a ∧ a ∈ W.O ∧ Con K W H p a ∧ ∀ (i : Nat) (q : PV), s.e[i]? = some (.own q) → σ[i]? ≠ some (some (.ref a))
def rO : RT (PV × Bool) V := fun K σ W H s p v => if p.2 = true then Own K σ W H s p.1 v else RV K W H p.1 v
abbrev tE := @tG PV V rE
abbrev tA := @tG (List PV) (List V) rA
abbrev tT := @tG Bool Bool rT
abbrev tO := @tG (PV × Bool) V rO
def PostS (K : PySem.W.Frag) (Z : WX) (W : Wd) (H : Hp) (r : Re Fl) (D : Ends) : Prop :=
  match r with
  | .ok .nx s' => ∀ σ' W' H', Step W H W' H' → RSt K W' H' s' σ' → D.nx σ' H'
  | .ok .bk s' => ∀ σ' W' H', Step W H W' H' → RSt K W' H' s' σ' → D.bk σ' H'
  | .ok .ct s' => ∀ σ' W' H', Step W H W' H' → RSt K W' H' s' σ' → D.ct σ' H'
  | .ok (.rt p fr) s' => ∀ σ' v W' H', Step W H W' H' → RSt K W' H' s' σ' → rO K σ' W' H' s' (p, fr) v → D.rt v H'
  | .exc x s' => ∀ σ' d W' H', Step W H W' H' → RSt K W' H' s' σ' → XR K W' H' x d → Z (.ref x.C) d σ' H'
  | .bad => False
def tS (K : PySem.W.Frag) (Z : WX) (f : SM) : TS := fun D σ H => ∃ W s, RSt K W H s σ ∧ PostS K Z W H (f s) D
theorem Post.step {α β : Type} {R : RT α β} {r : Re α} {Q : β → Hp → Prop} (h : Post R K Z σ W H r Q) (st : Step W H W1 H1) : Post R K Z σ W1 H1 r Q := by
  cases r with
  | ok a s' => exact fun b W' H' st' rs rr => h b W' H' (st.trans st') rs rr
  | exc x s' => exact fun d W' H' st' rs rr => h d W' H' (st.trans st') rs rr
  | bad => exact h
theorem PostS.step {r : Re Fl} {D : Ends} (h : PostS K Z W H r D) (st : Step W H W1 H1) : PostS K Z W1 H1 r D := by
  cases r with
  | ok a s' =>
    cases a with
    | nx => exact fun b W' H' st' rs => h b W' H' (st.trans st') rs
    | bk => exact fun b W' H' st' rs => h b W' H' (st.trans st') rs
    | ct => exact fun b W' H' st' rs => h b W' H' (st.trans st') rs
    | rt p fr => exact fun b v W' H' st' rs rr => h b v W' H' (st.trans st') rs rr
  | exc x s' => exact fun b d W' H' st' rs rr => h b d W' H' (st.trans st') rs rr
  | bad => exact h
theorem Post.bind {α β γ δ : Type} {R : RT α β} {R' : RT γ δ} {r : Re α} {g : α → DS → Re γ} {Q : δ → Hp → Prop} {Q' : β → Hp → Prop} (h : Post R' K Z σ W H (r.bind g) Q)
    (k : ∀ a s1 b W1 H1, r = .ok a s1 → Step W H W1 H1 → RSt K W1 H1 s1 σ → R K σ W1 H1 s1 a b → Post R' K Z σ W1 H1 (g a s1) Q → Q' b H1) : Post R K Z σ W H r Q' := by
  cases r with
  | ok a s' => exact fun b W' H' st' rs rr => k a s' b W' H' rfl st' rs rr (Post.step h st')
  | exc x s' => exact h
  | bad => exact h
theorem PostS.bindE {α β : Type} {R : RT α β} {r : Re α} {g : α → DS → Re Fl} {D : Ends} {Q' : β → Hp → Prop} (h : PostS K Z W H (r.bind g) D)
    (k : ∀ a s1 b W1 H1, r = .ok a s1 → Step W H W1 H1 → RSt K W1 H1 s1 σ → R K σ W1 H1 s1 a b → PostS K Z W1 H1 (g a s1) D → Q' b H1) : Post R K Z σ W H r Q' := by
  cases r with
  | ok a s' => exact fun b W' H' st' rs rr => k a s' b W' H' rfl st' rs rr (PostS.step h st')
  | exc x s' => exact fun d W' H' st' rs rr => h σ d W' H' st' rs rr
  | bad => exact h
/-! ### the state: quiet steps, slots -/
theorem RSt.quiet (R : RSt K W H s σ) (st : Step W H W' H') (hO : ∀ a ∈ W.O, a ∈ W'.O) (hS : W'.S = W.S) (hk : ∀ a o, H a = some o → a ∈ W.O ∨ a ∈ W.S → H' a = H a) (ap : ∀ a ∈ W'.O, a ∉ W.S ∧ a ∉ W.P ∧ Th H' a) : RSt K W' H' s σ := by
  refine ⟨⟨R.e.len, fun i p h => ?_, fun i p h => ?_, R.e.inj⟩, ⟨by rw [hS]; exact R.t.len, fun k p a h1 h2 => ?_, by rw [hS]; exact R.t.nd, fun a h => by rw [hS]; exact (ap a h).1, fun a h => ?_, fun a h => by rw [st.prv]; exact (ap a h).2.1, fun a h => by rw [st.prv]; rw [hS] at h; exact R.t.ps a h, fun a h => (ap a h).2.2⟩⟩
  · obtain ⟨v, h1, h2⟩ := R.e.at_ i p h
    exact ⟨v, h1, st.rv h2⟩
  · obtain ⟨a, h1, h2, h3⟩ := R.e.ow i p h
    obtain ⟨o, ho⟩ := h3.there
    exact ⟨a, h1, hO a h2, h3.step st (hk a o ho (.inl h2))⟩
  · rw [hS] at h2
    obtain ⟨o, ho⟩ := (R.t.at_ k p a h1 h2).there
    exact (R.t.at_ k p a h1 h2).step st (hk a o ho (.inr (List.mem_of_getElem? h2)))
  · rw [st.prv] at h
    obtain ⟨o, ho⟩ := R.t.pt a h
    exact ⟨o, by rw [st.pk a h]; exact ho⟩
theorem RSt.tracked (R : RSt K W H s σ) {a : Addr} (h : a ∈ W.S) : ∃ o, H a = some o := by
  obtain ⟨k, hk, e⟩ := List.mem_iff_getElem.mp h
  have hk2 : k < s.t.length := by rw [R.t.len]; exact hk
  exact (R.t.at_ k s.t[k] a (List.getElem?_eq_getElem hk2) (by rw [List.getElem?_eq_getElem hk, e])).there
theorem RSt.nS (R : RSt K W H s σ) {p : Addr} (hp : H p = none) : p ∉ W.S := fun h => by
  obtain ⟨o, e⟩ := R.tracked h
  rw [hp] at e
  cases e
theorem RSt.nP (R : RSt K W H s σ) {p : Addr} (hp : H p = none) : p ∉ W.P := fun h => by
  obtain ⟨o, e, _⟩ := R.t.pt p h
  rw [hp] at e
  cases e
theorem Step.alloc {p : Addr} {o : HO} (hp : H p = none) (hP : p ∉ W.P) : Step W H W (upd H p o) := by
  refine ⟨fun b u e => ?_, fun b h => ?_, fun _ h => .inl h, Pre.refl _, fun _ h => .inl h, rfl, fun b h => upd_ne fun z => hP (z ▸ h)⟩
  · obtain ⟨h1, h2⟩ := msk_some.mp e
    exact msk_some.mpr ⟨h1, by rw [upd_ne (ne_of_none h2 hp)]; exact h2⟩
  · by_cases e : b = p
    · rw [e]; exact hp
    · rw [upd_ne e] at h
      exact h
theorem RSt.alloc (R : RSt K W H s σ) {p : Addr} {o : HO} (hp : H p = none) : RSt K W (upd H p o) s σ :=
  R.quiet (Step.alloc hp (R.nP hp)) (fun _ h => h) rfl (fun a o e _ => upd_ne (ne_of_none e hp)) fun a h => ⟨R.t.ap a h, R.t.pa a h, let ⟨u, hu⟩ := R.t.ot a h; ⟨u, by rw [upd_ne (ne_of_none hu.1 hp)]; exact hu⟩⟩
/-- with p owned -/
def Wd.own (W : Wd) (p : Addr) : Wd := ⟨p :: W.O, W.S, W.P⟩
theorem Step.allocO {p : Addr} {o : HO} (hp : H p = none) (hP : p ∉ W.P) : Step W H (W.own p) (upd H p o) := by
  refine ⟨fun b u e => ?_, (Step.alloc (W := W) (o := o) hp hP).there, fun b h => ?_, Pre.refl _, fun _ h => .inl h, rfl, fun b h => upd_ne fun z => hP (z ▸ h)⟩
  · obtain ⟨h1, h2⟩ := msk_some.mp e
    have n := ne_of_none h2 hp
    refine msk_some.mpr ⟨?_, by rw [upd_ne n]; exact h2⟩
    obtain ⟨a1, a2⟩ := Wd.notL.mp h1
    exact Wd.notL.mpr ⟨fun z => (List.mem_cons.mp z).elim n a1, a2⟩
  · rcases List.mem_cons.mp h with h | h
    · rw [h]; exact .inr hp
    · exact .inl h
theorem RSt.allocO (R : RSt K W H s σ) {p : Addr} {o : HO} (hp : H p = none) (hn : ∀ vs, o ≠ .tup vs) : RSt K (W.own p) (upd H p o) s σ := by
  refine R.quiet (Step.allocO hp (R.nP hp)) (fun _ h => List.mem_cons_of_mem _ h) rfl (fun a o e _ => upd_ne (ne_of_none e hp)) fun a h => ?_
  rcases List.mem_cons.mp h with h | h
  · rw [h]; exact ⟨R.nS hp, R.nP hp, _, upd_same, hn⟩
  · exact ⟨R.t.ap a h, R.t.pa a h, let ⟨u, hu⟩ := R.t.ot a h; ⟨u, by rw [upd_ne (ne_of_none hu.1 hp)]; exact hu⟩⟩
/-- no longer owned -/
def Wd.drop (W : Wd) (a : Addr) : Wd := ⟨W.O.filter fun b => decide (b ≠ a), W.S, W.P⟩
theorem Step.drop {a : Addr} : Step W H (W.drop a) H := by
  refine ⟨fun b u e => ?_, fun _ h => h, fun b h => .inl (List.mem_filter.mp h).1, Pre.refl _, fun _ h => .inl h, rfl, fun _ _ => rfl⟩
  obtain ⟨h1, h2⟩ := msk_some.mp e
  obtain ⟨a1, a2⟩ := Wd.notL.mp h1
  exact msk_some.mpr ⟨Wd.notL.mpr ⟨fun z => a1 (List.mem_filter.mp z).1, a2⟩, h2⟩
theorem Wd.drop_in {a b : Addr} : b ∈ (W.drop a).O ↔ b ∈ W.O ∧ b ≠ a := by simp [Wd.drop]
theorem RSt.drop_L (R : RSt K W H s σ) {a : Addr} (h : a ∈ W.O) : a ∉ (W.drop a).L :=
  Wd.notL.mpr ⟨fun z => (Wd.drop_in.mp z).2 rfl, R.t.ap a h, R.t.pa a h⟩
theorem RS.drop {t : DT} (R : RS K W H t) (a : Addr) : RS K (W.drop a) H t :=
  ⟨R.len, fun k q b h1 h2 => (R.at_ k q b h1 h2).step Step.drop rfl, R.nd, fun b h => R.ap b (Wd.drop_in.mp h).1, R.pt, fun b h => R.pa b (Wd.drop_in.mp h).1, R.ps, fun b h => R.ot b (Wd.drop_in.mp h).1⟩
/-- the value in flight is let go: it may be reached by anything -/
theorem Own.demote (R : RSt K W H s σ) {p : PV} {v : V} (o : Own K σ W H s p v) : ∃ W1, Step W H W1 H ∧ RSt K W1 H s σ ∧ RV K W1 H p v := by
  obtain ⟨a, e, ha, hc, hn⟩ := o
  have st : Step W H (W.drop a) H := Step.drop
  refine ⟨W.drop a, st, ⟨⟨R.e.len, fun i q h => ?_, fun i q h => ?_, R.e.inj⟩, R.t.drop a⟩, ?_⟩
  · obtain ⟨w, h1, h2⟩ := R.e.at_ i q h
    exact ⟨w, h1, st.rv h2⟩
  · obtain ⟨b, h1, h2, h3⟩ := R.e.ow i q h
    refine ⟨b, h1, Wd.drop_in.mpr ⟨h2, fun z => hn i q h (by rw [h1, z])⟩, h3.step st rfl⟩
  · rw [e]
    exact (hc.step st rfl).rv (R.drop_L ha)
theorem rO_demote (R : RSt K W H s σ) {p : PV} {fr : Bool} {v : V} (o : rO K σ W H s (p, fr) v) : ∃ W1, Step W H W1 H ∧ RSt K W1 H s σ ∧ RV K W1 H p v := by
  cases fr with
  | false => exact ⟨W, Step.refl _ _, R, o⟩
  | true => exact Own.demote R o
/-- a slot's own list is let go -/
theorem RSt.demote (R : RSt K W H s σ) {i : Nat} {p : PV} (h : s.e[i]? = some (.own p)) : ∃ v W1, σ[i]? = some (some v) ∧ Step W H W1 H ∧ RSt K W1 H ⟨s.e.set i (.val p), s.t⟩ σ ∧ RV K W1 H p v := by
  obtain ⟨a, h1, h2, h3⟩ := R.e.ow i p h
  have st : Step W H (W.drop a) H := Step.drop
  have hi : i < s.e.length := (List.getElem?_eq_some_iff.mp h).1
  have rv : RV K (W.drop a) H p (.ref a) := (h3.step st rfl).rv (R.drop_L h2)
  have get : ∀ (j : Nat) (sl : Sl), (s.e.set i (.val p))[j]? = some sl → (j = i ∧ sl = .val p) ∨ (j ≠ i ∧ s.e[j]? = some sl) := fun j sl e => by
    by_cases hj : j = i
    · subst hj
      rw [List.getElem?_set_self hi] at e
      exact .inl ⟨rfl, (Option.some.inj e).symm⟩
    · rw [List.getElem?_set_ne (Ne.symm hj)] at e
      exact .inr ⟨hj, e⟩
  refine ⟨.ref a, W.drop a, h1, st, ⟨⟨by simp [R.e.len], fun j q e => ?_, fun j q e => ?_, fun j k q r b e1 e2 e3 e4 => ?_⟩, R.t.drop a⟩, rv⟩
  · rcases get j _ e with ⟨rfl, e'⟩ | ⟨hj, e'⟩
    · cases e'
      exact ⟨.ref a, h1, rv⟩
    · obtain ⟨w, g1, g2⟩ := R.e.at_ j q e'
      exact ⟨w, g1, st.rv g2⟩
  · rcases get j _ e with ⟨rfl, e'⟩ | ⟨hj, e'⟩
    · cases e'
    · obtain ⟨b, g1, g2, g3⟩ := R.e.ow j q e'
      exact ⟨b, g1, Wd.drop_in.mpr ⟨g2, fun z => hj (R.e.inj j i q p a e' h (by rw [g1, z]) h1)⟩, g3.step st rfl⟩
  · rcases get j _ e1 with ⟨rfl, e'⟩ | ⟨hj, e'⟩
    · cases e'
    · rcases get k _ e2 with ⟨rfl, e''⟩ | ⟨hk, e''⟩
      · cases e''
      · exact R.e.inj j k q r b e' e'' e3 e4
theorem get_set {e : DE} {i j : Nat} {x y : Sl} (h : (e.set i x)[j]? = some y) : (j = i ∧ y = x) ∨ (j ≠ i ∧ e[j]? = some y) := by
  by_cases hj : j = i
  · subst hj
    by_cases hi : j < e.length
    · rw [List.getElem?_set_self hi] at h
      exact .inl ⟨rfl, (Option.some.inj h).symm⟩
    · rw [List.getElem?_eq_none (by simpa using hi)] at h
      cases h
  · rw [List.getElem?_set_ne (Ne.symm hj)] at h
    exact .inr ⟨hj, h⟩
/-- a plain value is stored -/
theorem RSt.setv (R : RSt K W H s σ) {i : Nat} {p : PV} {v : V} (r : RV K W H p v) : RSt K W H ⟨s.e.set i (.val p), s.t⟩ (σ.set i (some v)) := by
  have ne : ∀ {j : Nat}, j ≠ i → (σ.set i (some v))[j]? = σ[j]? := fun h => List.getElem?_set_ne (Ne.symm h)
  refine ⟨⟨by simp [R.e.len], fun j q e => ?_, fun j q e => ?_, fun j k q r b e1 e2 e3 e4 => ?_⟩, R.t⟩
  · rcases get_set e with ⟨rfl, e'⟩ | ⟨hj, e'⟩
    · cases e'
      have hi : j < σ.length := by
        have := (List.getElem?_eq_some_iff.mp e).1
        rw [List.length_set, R.e.len] at this
        exact this
      exact ⟨v, List.getElem?_set_self hi, r⟩
    · rw [ne hj]
      exact R.e.at_ j q e'
  · rcases get_set e with ⟨rfl, e'⟩ | ⟨hj, e'⟩
    · cases e'
    · rw [ne hj]
      exact R.e.ow j q e'
  · rcases get_set e1 with ⟨rfl, e'⟩ | ⟨hj, e'⟩
    · cases e'
    · rcases get_set e2 with ⟨rfl, e''⟩ | ⟨hk, e''⟩
      · cases e''
      · rw [ne hj] at e3
        rw [ne hk] at e4
        exact R.e.inj j k q r b e' e'' e3 e4
/-- an owned value is stored -/
theorem RSt.seto (R : RSt K W H s σ) {i : Nat} {p : PV} {v : V} (o : Own K σ W H s p v) : RSt K W H ⟨s.e.set i (.own p), s.t⟩ (σ.set i (some v)) := by
  obtain ⟨a, e0, ha, hc, hn⟩ := o
  subst e0
  have ne : ∀ {j : Nat}, j ≠ i → (σ.set i (some (V.ref a)))[j]? = σ[j]? := fun h => List.getElem?_set_ne (Ne.symm h)
  have at_i : ∀ {y}, (s.e.set i y)[i]? = some y → (σ.set i (some (V.ref a)))[i]? = some (some (.ref a)) := fun {y} e => by
    have := (List.getElem?_eq_some_iff.mp e).1
    rw [List.length_set, R.e.len] at this
    exact List.getElem?_set_self this
  refine ⟨⟨by simp [R.e.len], fun j q e => ?_, fun j q e => ?_, fun j k q r b e1 e2 e3 e4 => ?_⟩, R.t⟩
  · rcases get_set e with ⟨rfl, e'⟩ | ⟨hj, e'⟩
    · cases e'
    · rw [ne hj]
      exact R.e.at_ j q e'
  · rcases get_set e with ⟨rfl, e'⟩ | ⟨hj, e'⟩
    · cases e'
      exact ⟨a, at_i e, ha, hc⟩
    · rw [ne hj]
      exact R.e.ow j q e'
  · rcases get_set e1 with ⟨rfl, e'⟩ | ⟨hj, e'⟩
    · rcases get_set e2 with ⟨rfl, e''⟩ | ⟨hk, e''⟩
      · rfl
      · cases e'
        rw [at_i e1] at e3
        cases e3
        rw [ne hk] at e4
        exact absurd e4 (hn k r e'')
    · rcases get_set e2 with ⟨rfl, e''⟩ | ⟨hk, e''⟩
      · cases e''
        rw [at_i e2] at e4
        cases e4
        rw [ne hj] at e3
        exact absurd e3 (hn j q e')
      · rw [ne hj] at e3
        rw [ne hk] at e4
        exact R.e.inj j k q r b e' e'' e3 e4
end
/-! ### the judgements -/
structure PX (X : Cx) (Z : WX) (e : Expr) (f : EM) : Prop where
  pe : PE X e (tE X.K Z f)
structure PO (X : Cx) (Z : WX) (e : Expr) (f : OM) : Prop where
  pe : PE X e (tO X.K Z f)
structure PAX (X : Cx) (Z : WX) (es : List Expr) (f : AM) : Prop where
  pa : PA X es (tA X.K Z f)
structure PTX (X : Cx) (Z : WX) (e : Expr) (f : TM) : Prop where
  pt : PT X e (tT X.K Z f)
structure PSX (X : Cx) (Z : WX) (st : Stmt) (f : SM) : Prop where
  ps : PS X st (tS X.K Z f)
structure PSsX (X : Cx) (Z : WX) (st : List Stmt) (f : SM) : Prop where
  ps : PSs X st (tS X.K Z f)
theorem PE_imp {X : Cx} {e : Expr} {t t' : TE} (h : PE X e t) (i : ∀ σ H Q, t' σ H Q → t σ H Q) : PE X e t' := ⟨fun pins s σ H Q I q => h.run pins s σ H Q I (i σ H Q q)⟩
theorem PA_imp {X : Cx} {e : List Expr} {t t' : TA} (h : PA X e t) (i : ∀ σ H Q, t' σ H Q → t σ H Q) : PA X e t' := ⟨fun pos pins s σ H Q I q => h.run pos pins s σ H Q I (i σ H Q q)⟩
theorem PT_imp {X : Cx} {e : Expr} {t t' : TT} (h : PT X e t) (i : ∀ σ H Q, t' σ H Q → t σ H Q) : PT X e t' := ⟨fun pins s σ H Q I q => h.run pins s σ H Q I (i σ H Q q)⟩
theorem PW_imp {X : Cx} {e : Expr} {t t' : TT} (h : PW X e t) (i : ∀ σ H Q, t' σ H Q → t σ H Q) : PW X e t' := ⟨fun wh pins s σ H Q I q => h.run wh pins s σ H Q I (i σ H Q q)⟩
theorem PS_imp {X : Cx} {e : Stmt} {t t' : TS} (h : PS X e t) (i : ∀ D σ H, t' D σ H → t D σ H) : PS X e t' := ⟨fun pins s σ H D I q => h.run pins s σ H D I (i D σ H q)⟩
theorem PSs_imp {X : Cx} {e : List Stmt} {t t' : TS} (h : PSs X e t) (i : ∀ D σ H, t' D σ H → t D σ H) : PSs X e t' := ⟨fun pins s σ H D I q => h.run pins s σ H D I (i D σ H q)⟩
theorem PE_or {X : Cx} {e : Expr} {t t' : TE} (h : PE X e t) (g : PE X e t') : PE X e (fun σ H Q => t σ H Q ∨ t' σ H Q) := ⟨fun pins s σ H Q I q => q.elim (h.run pins s σ H Q I) (g.run pins s σ H Q I)⟩
theorem PE_any {X : Cx} {e : Expr} {ι : Type} {t : ι → TE} (h : ∀ i, PE X e (t i)) : PE X e (fun σ H Q => ∃ i, t i σ H Q) := ⟨fun pins s σ H Q I ⟨i, q⟩ => (h i).run pins s σ H Q I q⟩
section
variable {X : Cx} {Z : WX}
/-! ### names, constants -/
def nameE (i : Nat) : EM := fun s => match s.e[i]? with
  | some (.val p) => .ok p s
  | some (.own p) => .ok p ⟨s.e.set i (.val p), s.t⟩
  | _ => .bad
def constE (p : PV) : EM := fun s => .ok p s
theorem px_name {x : Str} {pos : Pos} (i : Nat) (hN : X.N[i]? = some x := by rfl) (hv : Vis X.env.scope x := by first | exact Or.inl rfl | exact Or.inr (Or.inl rfl) | exact Or.inr (Or.inr rfl)) (hd : (x == ("__debug__" : Str)) = false := by decide)
    (hcd : (x == ("__classdict__" : Str)) = false := by decide) : PX X Z (.Name x pos) (nameE i) := by
  refine ⟨PE_imp (pe_var hN hv hd hcd) fun σ H Q h => ?_⟩
  obtain ⟨W, s, R, h⟩ := h
  unfold nameE at h
  split at h
  · rename_i p e
    obtain ⟨v, h1, h2⟩ := R.e.at_ i p e
    exact ⟨v, h1, h v W H (Step.refl _ _) R h2⟩
  · rename_i p e
    obtain ⟨v, W1, h1, st, R1, rv⟩ := R.demote e
    exact ⟨v, h1, h v W1 H st R1 rv⟩
  · exact h.elim
theorem rv_int {K : PySem.W.Frag} {W : Wd} {H : Hp} {i : Int} : RV K W H (.int i) (.int i) := by unfold RV Rep; rfl
theorem rv_bl {K : PySem.W.Frag} {W : Wd} {H : Hp} {b : Bool} : RV K W H (.bl b) (.bl b) := by unfold RV Rep; rfl
theorem rv_non {K : PySem.W.Frag} {W : Wd} {H : Hp} : RV K W H .non .non := by unfold RV Rep; rfl
theorem rv_str {K : PySem.W.Frag} {W : Wd} {H : Hp} {x : Str} : RV K W H (.str x) (.str x) := by unfold RV Rep; rfl
theorem px_const {e : Expr} {p : PV} {v : V} (h : PE X e (tC v)) (r : ∀ K W H, RV K W H p v) : PX X Z e (constE p) := by
  refine ⟨PE_imp h fun σ H Q h => ?_⟩
  obtain ⟨W, s, R, h⟩ := h
  exact h v W H (Step.refl _ _) R (r _ _ _)
theorem px_int {i j pos} : PX X Z (.Constant (.int i) j pos) (constE (.int i)) := px_const pe_int fun _ _ _ => rv_int
theorem px_bl {i j pos} : PX X Z (.Constant (.bool i) j pos) (constE (.bl i)) := px_const pe_bl fun _ _ _ => rv_bl
theorem px_non {j pos} : PX X Z (.Constant .none j pos) (constE .non) := px_const pe_non fun _ _ _ => rv_non
theorem px_str {i j pos} : PX X Z (.Constant (.str i) j pos) (constE (.str i)) := px_const pe_str fun _ _ _ => rv_str
/-- a def or a class of the module, as a value -/
theorem px_fn {x : Str} {a : Addr} {pos : Pos} (hg : Gl X x) (hm : X.mg x = some (.ref a)) (hd : (x == ("__debug__" : Str)) = false := by decide) : PX X Z (.Name x pos) (constE (.fn a)) :=
  px_const (pe_glob (v := .ref a) hg hm rfl hd) fun _ _ _ => by unfold RV Rep; rfl
/-- a constant of the module that is an int, a text .. -/
theorem px_globi {x : Str} {i : Int} {t : Tok} {pos : Pos} (hg : Gl X x) (hm : X.mg x = some (.int i t)) (hd : (x == ("__debug__" : Str)) = false := by decide) : PX X Z (.Name x pos) (constE (.int i)) :=
  px_const (pe_glob (v := .int i) hg hm ⟨_, rfl⟩ hd) fun _ _ _ => rv_int
/-! ### owned and plain -/
def plainE (f : OM) : EM := fun s => (f s).bind fun p s1 => .ok p.1 s1
def sharedE (f : EM) : OM := fun s => (f s).bind fun p s1 => .ok (p, false) s1
theorem px_of {e : Expr} {f : OM} (h : PO X Z e f) : PX X Z e (plainE f) := by
  refine ⟨PE_imp h.pe fun σ H Q h => ?_⟩
  obtain ⟨W, s, R, h⟩ := h
  refine ⟨W, s, R, Post.bind h fun a s1 b W1 H1 _ st R1 r q => ?_⟩
  obtain ⟨p, fr⟩ := a
  obtain ⟨W2, st2, R2, rv⟩ := rO_demote R1 r
  exact q b W2 H1 st2 R2 rv
theorem po_of {e : Expr} {f : EM} (h : PX X Z e f) : PO X Z e (sharedE f) := by
  refine ⟨PE_imp h.pe fun σ H Q h => ?_⟩
  obtain ⟨W, s, R, h⟩ := h
  exact ⟨W, s, R, Post.bind h fun a s1 b W1 H1 _ st R1 r q => q b W1 H1 (Step.refl _ _) R1 r⟩
/-! ### argument lists, displays -/
def nilA : AM := fun s => .ok [] s
def consA (f : EM) (g : AM) : AM := fun s => (f s).bind fun p s1 => (g s1).bind fun ps s2 => .ok (p :: ps) s2
theorem pa_nilX : PAX X Z [] nilA := ⟨PA_imp pa_nil fun σ H Q ⟨W, s, R, h⟩ => h [] W H (Step.refl _ _) R (show Reps X.K W.S (W.m H) [] [] from reps_nil)⟩
theorem pa_consX {e : Expr} {es : List Expr} {f : EM} {g : AM} (ha : PX X Z e f) (hr : PAX X Z es g) (hs : starEach (e :: es) X.env = (false, eval e X.env) :: starEach es X.env := by rfl) : PAX X Z (e :: es) (consA f g) := by
  refine ⟨PA_imp (L2.pa_cons ha.pe hr.pa hs) fun σ H Q ⟨W, s, R, h⟩ => ?_⟩
  refine ⟨W, s, R, Post.bind h fun p s1 v W1 H1 _ st R1 rv q => ⟨W1, s1, R1, Post.bind q fun ps s2 vs W2 H2 _ st2 R2 rvs q2 => q2 _ W2 H2 (Step.refl _ _) R2 (reps_cons (st2.rv rv) rvs)⟩⟩
def lineOk (n : Nat) : Bool := decide (n ≤ sizeLine)
def tupE (f : AM) : EM := fun s => (f s).bind fun ps s1 => if lineOk ps.length then .ok (.tup false ps) s1 else .bad
def lstE (f : AM) : OM := fun s => (f s).bind fun ps s1 => if lineOk ps.length then .ok (.lst ps, true) s1 else .bad
theorem new_tup {c : Bool} {K : PySem.W.Frag} {W : Wd} {H : Hp} {p : Addr} {ps : List PV} {vs : List V} (hp : H p = none) (hL : p ∉ W.L) (r : RVs K W H ps vs) : RV K W (upd H p (.tup vs)) (.tup c ps) (.ref p) := by
  exact rep_tup_mk (msk_some.mpr ⟨hL, upd_same⟩) ((Step.alloc hp (Wd.notL.mp hL).2.2).rvs r)
theorem RSt.newL {K : PySem.W.Frag} {W : Wd} {H : Hp} {s : DS} {σ : L2.St} (R : RSt K W H s σ) {p : Addr} (hp : H p = none) : ∃ W1, Step W H W1 H ∧ RSt K W1 H s σ ∧ p ∉ W1.L := by
  refine ⟨W.drop p, Step.drop, ⟨⟨R.e.len, fun i q h => ?_, fun i q h => ?_, R.e.inj⟩, R.t.drop p⟩, ?_⟩
  · obtain ⟨w, h1, h2⟩ := R.e.at_ i q h
    exact ⟨w, h1, Step.drop.rv h2⟩
  · obtain ⟨b, h1, h2, h3⟩ := R.e.ow i q h
    obtain ⟨o, ho⟩ := h3.there
    exact ⟨b, h1, Wd.drop_in.mpr ⟨h2, ne_of_none ho hp⟩, h3.step Step.drop rfl⟩
  · exact Wd.notL.mpr ⟨fun z => (Wd.drop_in.mp z).2 rfl, R.nS hp, R.nP hp⟩
/-- a new plain object -/
theorem Post.newP {σ : L2.St} {W : Wd} {H : Hp} {K : PySem.W.Frag} {s : DS} {p : Addr} {o : HO} {q : PV} {Q : VK} (R : RSt K W H s σ) (hp : H p = none) (h : Post rE K Z σ W H (.ok q s) Q)
    (r : ∀ W1, Step W H W1 H → p ∉ W1.L → RV K W1 (upd H p o) q (.ref p)) : Q (.ref p) (upd H p o) := by
  obtain ⟨W1, st, R1, hL⟩ := R.newL hp
  exact h _ W1 _ (st.trans (Step.alloc hp (R1.nP hp))) (R1.alloc hp) (r W1 st hL)
/-- a new owned object -/
theorem Post.newO {σ : L2.St} {W : Wd} {H : Hp} {K : PySem.W.Frag} {s : DS} {p : Addr} {o : HO} {q : PV} {Q : VK} (R : RSt K W H s σ) (hp : H p = none) (h : Post rO K Z σ W H (.ok (q, true) s) Q)
    (r : Con K (W.own p) (upd H p o) q p) : Q (.ref p) (upd H p o) := by
  refine h _ (W.own p) _ (Step.allocO hp (R.nP hp)) (R.allocO hp r.nt) ⟨p, rfl, List.mem_cons_self, r, fun i q' e z => ?_⟩
  obtain ⟨a, h1, h2, h3⟩ := R.e.ow i q' e
  obtain ⟨o', ho⟩ := h3.there
  rw [h1] at z
  cases z
  rw [hp] at ho
  cases ho
theorem px_tup {es : List Expr} {f : AM} {x1 pos} (h : PAX X Z es f) : PX X Z (.Tuple es x1 pos) (tupE f) := by
  refine ⟨PE_imp (pe_tup h.pa) fun σ H Q ⟨W, s, R, h⟩ => ⟨W, s, R, Post.bind h fun ps s1 vs W1 H1 _ st R1 r q => ?_⟩⟩
  have r : RVs X.K W1 H1 ps vs := r
  by_cases hl : lineOk ps.length = true
  · rw [if_pos hl] at q
    refine ⟨by rw [r.len]; exact of_decide_eq_true hl, fun p hp => Post.newP R1 hp q fun W2 st2 hL => new_tup hp hL (st2.rvs r)⟩
  · rw [if_neg hl] at q
    exact q.elim
theorem po_lst {es : List Expr} {f : AM} {pos} (h : PAX X Z es f) : PO X Z (.List es pos) (lstE f) := by
  refine ⟨PE_imp (pe_lst h.pa) fun σ H Q ⟨W, s, R, h⟩ => ⟨W, s, R, Post.bind h fun ps s1 vs W1 H1 _ st R1 r q => ?_⟩⟩
  have r : RVs X.K W1 H1 ps vs := r
  by_cases hl : lineOk ps.length = true
  · rw [if_pos hl] at q
    exact ⟨by rw [r.len]; exact of_decide_eq_true hl, fun p hp => Post.newO R1 hp q ⟨vs, upd_same, (Step.allocO hp (R1.nP hp)).rvs r⟩⟩
  · rw [if_neg hl] at q
    exact q.elim
end
end DR
/-! DR: operators, comparisons, tests. -/
namespace DR
open PySem PySem.Spec PyProof.Rows L2
/-! ### data that == takes -/
mutual
def toD : PV → Option PyData
  | .non => some .none
  | .bl b => some (.bool b)
  | .int i => some (.int i)
  | .str x => some (.str x)
  | .tup _ ps => (toDs ps).map .tuple
  | .lst ps => (toDs ps).map .list
  | _ => none
def toDs : List PV → Option (List PyData)
  | [] => some []
  | p :: ps => match toD p, toDs ps with
    | some d, some ds => some (d :: ds)
    | _, _ => none
end
section
variable {K : PySem.W.Frag} {cs : List Addr} {H H' : Hp}
mutual
theorem rep_dp (sub : Same H H') : ∀ (p : PV) (v : V) (d : PyData), Rep K cs H p v → toD p = some d → Dp K H' v d
  | .non, v, d, r, e => by
    unfold Rep at r
    simp only [toD, Option.some.injEq] at e
    subst r e
    exact .non
  | .bl b, v, d, r, e => by
    unfold Rep at r
    simp only [toD, Option.some.injEq] at e
    subst r e
    exact .bl b
  | .int b, v, d, r, e => by
    unfold Rep at r
    simp only [toD, Option.some.injEq] at e
    subst r e
    exact .int b
  | .str b, v, d, r, e => by
    unfold Rep at r
    simp only [toD, Option.some.injEq] at e
    subst r e
    exact .str b
  | .tup _ ps, v, d, r, e => by
    replace r := rep_tup r
    simp only [toD, Option.map_eq_some_iff] at e
    obtain ⟨a, vs, rfl, h1, h2⟩ := r
    obtain ⟨ds, h3, rfl⟩ := e
    exact .tup (sqT_mono sub h1) (reps_dp sub ps vs ds h2 h3)
  | .lst ps, v, d, r, e => by
    unfold Rep at r
    simp only [toD, Option.map_eq_some_iff] at e
    obtain ⟨a, vs, rfl, h1, h2⟩ := r
    obtain ⟨ds, h3, rfl⟩ := e
    exact .lst (SqL.of (sub _ _ h1)) (reps_dp sub ps vs ds h2 h3)
  | .ty _, _, _, _, e => by simp [toD] at e
  | .fn _, _, _, _, e => by simp [toD] at e
  | .cell _, _, _, _, e => by simp [toD] at e
  | .scr _, _, _, _, e => by simp [toD] at e
  | .dK _, _, _, _, e => by simp [toD] at e
  | .dT _, _, _, _, e => by simp [toD] at e
  | .ins _ _, _, _, _, e => by simp [toD] at e
theorem reps_dp (sub : Same H H') : ∀ (ps : List PV) (vs : List V) (ds : List PyData), Reps K cs H ps vs → toDs ps = some ds → DpAll K H' vs ds
  | [], vs, ds, r, e => by
    unfold Reps at r
    simp only [toDs, Option.some.injEq] at e
    subst r e
    exact .nil
  | p :: ps, vs, ds, r, e => by
    unfold Reps at r
    obtain ⟨v, w, rfl, h1, h2⟩ := r
    simp only [toDs] at e
    cases e1 : toD p with
    | none => rw [e1] at e; simp at e
    | some d =>
      cases e2 : toDs ps with
      | none => rw [e1, e2] at e; simp at e
      | some ds' =>
        rw [e1, e2] at e
        simp only [Option.some.injEq] at e
        subst e
        exact .cons (rep_dp sub p v d h1 e1) (reps_dp sub ps w ds' h2 e2)
end
end
/-- data of at most sixty-four deep -/
def okD (p : PV) : Bool := match toD p with
  | some d => SeqAt.shaped d
  | none => false
/-- Python's == over data -/
def eqD (p q : PV) : Bool := match toD p, toD q with
  | some d, some e => PyData.eqv d e
  | _, _ => false
abbrev B2 := PV → PV → Option (PV × Bool)
/-- what a two-place operator is worth -/
def BinR (X : Cx) (f : Value → Value → Sem Value) (g : B2) : Prop :=
  ∀ (Z : WX), ∃ r : R2, OpR X f r ∧ ∀ (W : Wd) (H : Hp) (s : DS) (σ : L2.St) (p q : PV) (x y : V) (res : PV × Bool) (Q : VK), RSt X.K W H s σ → RV X.K W H p x → RV X.K W H q y → g p q = some res → Post rO X.K Z σ W H (.ok res s) Q → r x y H Q
def binO (g : B2) (fa fb : EM) : OM := fun s => (fa s).bind fun p s1 => (fb s1).bind fun q s2 => match g p q with
  | some r => .ok r s2
  | none => .bad
theorem OpR_or {X : Cx} {f : Value → Value → Sem Value} {r r' : R2} (h : OpR X f r) (h' : OpR X f r') : OpR X f (fun x y H Q => r x y H Q ∨ r' x y H Q) := fun pins s σ H x y v u Q I rx ry q => q.elim (h pins s σ H x y v u Q I rx ry) (h' pins s σ H x y v u Q I rx ry)
theorem BinR.or {X : Cx} {f : Value → Value → Sem Value} {g g' : B2} (h : BinR X f g) (h' : BinR X f g') : BinR X f (fun p q => (g p q).or (g' p q)) := fun Z => by
  obtain ⟨r, o, k⟩ := h Z
  obtain ⟨r', o', k'⟩ := h' Z
  refine ⟨_, OpR_or o o', fun W H s σ p q x y res Q R rx ry e po => ?_⟩
  replace e : (g p q).or (g' p q) = some res := e
  cases e1 : g p q with
  | some z =>
    rw [e1] at e
    exact .inl (k W H s σ p q x y res Q R rx ry (by rw [e1]; simpa using e) po)
  | none =>
    rw [e1] at e
    exact .inr (k' W H s σ p q x y res Q R rx ry (by simpa using e) po)
section
variable {X : Cx} {Z : WX} {a b : Expr} {fa fb : EM} {pos : Pos} {g : B2}
theorem tO_bin {r : R2} (k : ∀ (W : Wd) (H : Hp) (s : DS) (σ : L2.St) (p q : PV) (x y : V) (res : PV × Bool) (Q : VK), RSt X.K W H s σ → RV X.K W H p x → RV X.K W H q y → g p q = some res → Post rO X.K Z σ W H (.ok res s) Q → r x y H Q)
    (σ : L2.St) (H : Hp) (Q : VK) (h : tO X.K Z (binO g fa fb) σ H Q) : tOp r (tE X.K Z fa) (tE X.K Z fb) σ H Q := by
  obtain ⟨W, s, R, h⟩ := h
  refine ⟨W, s, R, Post.bind h fun p s1 x W1 H1 _ st R1 rx q => ⟨W1, s1, R1, Post.bind q fun p2 s2 y W2 H2 _ st2 R2 ry q2 => ?_⟩⟩
  cases e : g p p2 with
  | none => simp only [e] at q2; exact q2.elim
  | some res =>
    simp only [e] at q2
    exact k W2 H2 s2 σ p p2 x y res Q R2 (st2.rv rx) ry e q2
theorem po_bin {op : Operator} (hg : BinR X (binaryOp op) g) (ha : PX X Z a fa) (hb : PX X Z b fb) : PO X Z (.BinOp a op b pos) (binO g fa fb) := by
  obtain ⟨r, o, k⟩ := hg Z
  exact ⟨PE_imp (L2.pe_op o ha.pe hb.pe) fun σ H Q h => tO_bin k σ H Q h⟩
/-- an operator with plain answers -/
abbrev P2 := PV → PV → Option PV
def p2 (g : P2) : B2 := fun p q => (g p q).map fun r => (r, false)
def binE (g : P2) (fa fb : EM) : EM := plainE (binO (p2 g) fa fb)
theorem px_bin {op : Operator} {g : P2} (hg : BinR X (binaryOp op) (p2 g)) (ha : PX X Z a fa) (hb : PX X Z b fb) : PX X Z (.BinOp a op b pos) (binE g fa fb) := px_of (po_bin hg ha hb)
theorem px_cmp {op : CmpOp} {g : P2} (hg : BinR X (compareOp op) (p2 g)) (ha : PX X Z a fa) (hb : PX X Z b fb) (hm : behindInMarks op b = false := by first | exact nomark _ | rfl | with_unfolding_all rfl) : PX X Z (.Compare a [op] [b] pos) (binE g fa fb) := by
  obtain ⟨r, o, k⟩ := hg Z
  exact px_of ⟨PE_imp (L2.pe_cmpR o ha.pe hb.pe hm) fun σ H Q h => tO_bin k σ H Q h⟩
/-- a rule over plain values, by their trees -/
theorem BinR.plain {f : Value → Value → Sem Value} {r : R2} {g : P2} (o : OpR X f r) (k : ∀ (W : Wd) (H : Hp) (p q : PV) (x y : V) (res : PV) (Q : VK), RV X.K W H p x → RV X.K W H q y → g p q = some res → (∀ v, RV X.K W H res v → Q v H) → r x y H Q) : BinR X f (p2 g) := fun Z => by
  refine ⟨r, o, fun W H s σ p q x y res Q R rx ry e po => ?_⟩
  simp only [p2, Option.map_eq_some_iff] at e
  obtain ⟨z, e, rfl⟩ := e
  exact k W H p q x y z Q rx ry e fun v rv => po v W H (Step.refl _ _) R rv
/-- two ints -/
def ii (C : Int → Int → Bool) (g : Int → Int → PV) : P2 := fun p q => match p, q with
  | .int i, .int j => if C i j then some (g i j) else none
  | _, _ => none
theorem ii_some {C : Int → Int → Bool} {g : Int → Int → PV} {p q r : PV} (e : ii C g p q = some r) : ∃ i j, p = .int i ∧ q = .int j ∧ C i j = true ∧ r = g i j := by
  unfold ii at e
  split at e
  · rename_i i j
    split at e
    · rename_i h
      exact ⟨i, j, rfl, rfl, h, (Option.some.inj e).symm⟩
    · cases e
  · cases e
theorem rv_int_inv {K : PySem.W.Frag} {W : Wd} {H : Hp} {i : Int} {v : V} (r : RV K W H (.int i) v) : v = .int i := by unfold RV Rep at r; exact r
theorem rv_bl_inv {K : PySem.W.Frag} {W : Wd} {H : Hp} {i : Bool} {v : V} (r : RV K W H (.bl i) v) : v = .bl i := by unfold RV Rep at r; exact r
theorem rv_str_inv {K : PySem.W.Frag} {W : Wd} {H : Hp} {i : Str} {v : V} (r : RV K W H (.str i) v) : v = .str i := by unfold RV Rep at r; exact r
theorem rE_bl {K : PySem.W.Frag} {σ : L2.St} {W : Wd} {H : Hp} {s : DS} {i : Bool} : rE K σ W H s (.bl i) (.bl i) := rv_bl (K := K) (W := W) (H := H)
theorem rE_int {K : PySem.W.Frag} {σ : L2.St} {W : Wd} {H : Hp} {s : DS} {i : Int} : rE K σ W H s (.int i) (.int i) := rv_int (K := K) (W := W) (H := H)
theorem rE_bl_inv {K : PySem.W.Frag} {σ : L2.St} {W : Wd} {H : Hp} {s : DS} {i : Bool} {v : V} (r : rE K σ W H s (.bl i) v) : v = .bl i := rv_bl_inv (K := K) (W := W) (H := H) r
theorem rE_int_inv {K : PySem.W.Frag} {σ : L2.St} {W : Wd} {H : Hp} {s : DS} {i : Int} {v : V} (r : rE K σ W H s (.int i) v) : v = .int i := rv_int_inv (K := K) (W := W) (H := H) r
theorem rv_tup_inv {K : PySem.W.Frag} {W : Wd} {H : Hp} {c : Bool} {ps : List PV} {v : V} (r : RV K W H (.tup c ps) v) : ∃ a vs, v = .ref a ∧ SqT K H a vs ∧ RVs K W H ps vs := by
  obtain ⟨a, vs, e, h1, h2⟩ := rep_tup r
  exact ⟨a, vs, e, sqT_mono (msk_sub _ _) h1, h2⟩
theorem rv_lst_inv {K : PySem.W.Frag} {W : Wd} {H : Hp} {ps : List PV} {v : V} (r : RV K W H (.lst ps) v) : ∃ a vs, v = .ref a ∧ a ∉ W.L ∧ H a = some (.lst vs) ∧ RVs K W H ps vs := by
  unfold RV Rep at r
  obtain ⟨a, vs, e, h1, h2⟩ := r
  obtain ⟨h3, h4⟩ := msk_some.mp h1
  exact ⟨a, vs, e, h3, h4, h2⟩
theorem BinR.ints {f : Value → Value → Sem Value} {C' : Int → Int → Prop} {C : Int → Int → Bool} {g : Int → Int → V} {g' : Int → Int → PV} (o : OpR X f (rI C' g)) (hC : ∀ i j, C i j = true → C' i j) (hg : ∀ W H i j, RV X.K W H (g' i j) (g i j)) : BinR X f (p2 (ii C g')) :=
  BinR.plain o fun W H p q x y res Q rx ry e k => by
    obtain ⟨i, j, rfl, rfl, hc, rfl⟩ := ii_some e
    exact ⟨i, j, rv_int_inv rx, rv_int_inv ry, hC i j hc, k _ (hg W H i j)⟩
theorem BinR.ints0 {f : Value → Value → Sem Value} {g : Int → Int → V} {g' : Int → Int → PV} (o : OpR X f (rI0 g)) (hg : ∀ W H i j, RV X.K W H (g' i j) (g i j)) : BinR X f (p2 (ii (fun _ _ => true) g')) :=
  BinR.plain o fun W H p q x y res Q rx ry e k => by
    obtain ⟨i, j, rfl, rfl, hc, rfl⟩ := ii_some e
    exact ⟨i, j, rv_int_inv rx, rv_int_inv ry, k _ (hg W H i j)⟩
def subI : P2 := ii (fun _ _ => true) fun i j => .int (i - j)
theorem br_sub : BinR X (binaryOp .Sub) (p2 subI) := BinR.ints0 op_sub fun _ _ _ _ => rv_int
def fdivI : P2 := ii (fun _ j => decide (0 < j ∧ j < 1073741824)) fun i j => .int (i / j)
theorem br_fdiv : BinR X (binaryOp .FloorDiv) (p2 fdivI) := BinR.ints op_fdiv (fun i j h => show 0 < j ∧ j < 1073741824 from of_decide_eq_true h) fun _ _ _ _ => rv_int
def modI : P2 := ii (fun _ j => decide (0 < j)) fun i j => .int (i % j)
theorem br_mod : BinR X (binaryOp .Mod) (p2 modI) := BinR.ints op_mod (fun _ _ h => of_decide_eq_true h) fun _ _ _ _ => rv_int
def powI : P2 := ii (fun i j => decide (0 ≤ j ∧ j ≤ 1000000 ∧ i.natAbs < 2 ^ 64)) fun i j => .int (i ^ j.toNat)
theorem br_pow : BinR X (binaryOp .Pow) (p2 powI) := BinR.ints op_pow (fun i j h => show 0 ≤ j ∧ j ≤ 1000000 ∧ i.natAbs < 2 ^ 64 from of_decide_eq_true h) fun _ _ _ _ => rv_int
def mulI : P2 := ii (fun i j => decide ((-18446744073709551616 < i ∧ i < 18446744073709551616) ∨ (-18446744073709551616 < j ∧ j < 18446744073709551616))) fun i j => .int (i * j)
theorem br_mulI : BinR X (binaryOp .Mult) (p2 mulI) := BinR.ints op_mul (fun _ _ h => by
  have h := of_decide_eq_true h
  unfold CMul
  omega) fun _ _ _ _ => rv_int
def cmpI (c : Int → Int → Bool) : P2 := ii (fun _ _ => true) fun i j => .bl (c i j)
abbrev ltI : P2 := cmpI fun i j => decide (i < j)
abbrev leI : P2 := cmpI fun i j => decide (i ≤ j)
abbrev gtI : P2 := cmpI fun i j => decide (j < i)
abbrev geI : P2 := cmpI fun i j => decide (j ≤ i)
theorem br_lt : BinR X (compareOp .Lt) (p2 ltI) := BinR.ints0 op_lt fun _ _ _ _ => rv_bl
theorem br_le : BinR X (compareOp .LtE) (p2 leI) := BinR.ints0 op_le fun _ _ _ _ => rv_bl
theorem br_gt : BinR X (compareOp .Gt) (p2 gtI) := BinR.ints0 op_gt fun _ _ _ _ => rv_bl
theorem br_ge : BinR X (compareOp .GtE) (p2 geI) := BinR.ints0 op_ge fun _ _ _ _ => rv_bl
/-- == and != over data -/
def eqG (n : Bool) : P2 := fun p q => if okD p && okD q then some (.bl (n != eqD p q)) else none
theorem okD_data {p : PV} (h : okD p = true) : ∃ d, toD p = some d ∧ SeqAt.shaped d = true := by
  unfold okD at h
  split at h
  · rename_i d e
    exact ⟨d, e, h⟩
  · cases h
theorem eqG_some {n : Bool} {p q r : PV} (e : eqG n p q = some r) : ∃ d d', toD p = some d ∧ toD q = some d' ∧ SeqAt.shaped d = true ∧ SeqAt.shaped d' = true ∧ r = .bl (n != PyData.eqv d d') := by
  unfold eqG at e
  split at e
  · rename_i h
    rw [Bool.and_eq_true] at h
    obtain ⟨d, e1, s1⟩ := okD_data h.1
    obtain ⟨d', e2, s2⟩ := okD_data h.2
    refine ⟨d, d', e1, e2, s1, s2, ?_⟩
    rw [← Option.some.inj e]
    simp [eqD, e1, e2]
  · cases e
theorem br_eq (hu : X.A.units + 64 < cLine) : BinR X (compareOp .Eq) (p2 (eqG false)) := BinR.plain (op_eqD hu) fun W H p q x y res Q rx ry e k => by
  obtain ⟨d, d', e1, e2, s1, s2, rfl⟩ := eqG_some e
  refine ⟨d, d', rep_dp (msk_sub _ _) p x d rx e1, rep_dp (msk_sub _ _) q y d' ry e2, s1, s2, ?_⟩
  have := k (.bl (PyData.eqv d d')) (by simp only [Bool.false_bne]; exact rv_bl)
  exact this
theorem br_ne (hu : X.A.units + 64 < cLine) : BinR X (compareOp .NotEq) (p2 (eqG true)) := BinR.plain (op_neD hu) fun W H p q x y res Q rx ry e k => by
  obtain ⟨d, d', e1, e2, s1, s2, rfl⟩ := eqG_some e
  refine ⟨d, d', rep_dp (msk_sub _ _) p x d rx e1, rep_dp (msk_sub _ _) q y d' ry e2, s1, s2, ?_⟩
  have := k (.bl (!PyData.eqv d d')) (by simp only [Bool.true_bne]; exact rv_bl)
  exact this
/-- a + b -/
def addStr : P2 := fun p q => match p, q with
  | .str i, .str j => if lineOk (i.length + j.length) then some (.str (i ++ j)) else none
  | _, _ => none
theorem br_addStr : BinR X (binaryOp .Add) (p2 addStr) := BinR.plain op_add_str fun W H p q x y res Q rx ry e k => by
  unfold addStr at e
  split at e
  · rename_i i j
    split at e
    · rename_i h
      cases e
      exact ⟨i, j, rv_str_inv rx, rv_str_inv ry, of_decide_eq_true h, k _ rv_str⟩
    · cases e
  · cases e
def addI : P2 := ii (fun _ _ => true) fun i j => .int (i + j)
theorem br_addI : BinR X (binaryOp .Add) (p2 addI) := BinR.ints0 op_add fun _ _ _ _ => rv_int
def addL : B2 := fun p q => match p, q with
  | .lst a, .lst b => if lineOk (a.length + b.length) then some (.lst (a ++ b), true) else none
  | _, _ => none
theorem br_addL : BinR X (binaryOp .Add) addL := fun Z => by
  refine ⟨_, op_cat, fun W H s σ p q x y res Q R rx ry e po => ?_⟩
  unfold addL at e
  split at e
  · rename_i u w
    split at e
    · rename_i h
      cases e
      obtain ⟨a1, vs, rfl, n1, h1, g1⟩ := rv_lst_inv rx
      obtain ⟨a2, ws, rfl, n2, h2, g2⟩ := rv_lst_inv ry
      refine ⟨a1, a2, vs, ws, rfl, rfl, h1, h2, by rw [g1.len, g2.len]; exact of_decide_eq_true h, fun p hp => Post.newO R hp po ⟨_, upd_same, (Step.allocO hp (R.nP hp)).rvs (g1.app g2)⟩⟩
    · cases e
  · cases e
def addT : P2 := fun p q => match p, q with
  | .tup c a, .tup d b => if lineOk (a.length + b.length) then some (.tup (c || d) (a ++ b)) else none
  | _, _ => none
theorem br_addT : BinR X (binaryOp .Add) (p2 addT) := fun Z => by
  refine ⟨_, op_catA, fun W H s σ p q x y res Q R rx ry e po => ?_⟩
  simp only [p2, Option.map_eq_some_iff] at e
  obtain ⟨z, e, rfl⟩ := e
  unfold addT at e
  split at e
  · rename_i c u d w
    split at e
    · rename_i h
      cases e
      obtain ⟨a1, vs, e1, h1, g1⟩ := rv_tup_inv rx
      obtain ⟨a2, ws, e2, h2, g2⟩ := rv_tup_inv ry
      refine ⟨a1, a2, vs, ws, e1, e2, h1, h2, by rw [g1.len, g2.len]; exact of_decide_eq_true h, fun hz => ?_, fun _ hz => ?_, fun _ _ p hp => ?_⟩
      · have hu : u = [] := List.eq_nil_of_length_eq_zero (by rw [← g1.len, hz]; rfl)
        subst hu
        rw [← e2]
        exact po y W H (Step.refl _ _) R (rep_tup_up (c := d) (by intro h; rw [h]; exact Bool.or_true _) ry)
      · have hw : w = [] := List.eq_nil_of_length_eq_zero (by rw [← g2.len, hz]; rfl)
        subst hw
        rw [← e1]
        exact po x W H (Step.refl _ _) R (by rw [List.append_nil]; exact rep_tup_up (c := c) (by intro h; rw [h]; exact Bool.true_or _) rx)
      · obtain ⟨W1, st, R1, hL⟩ := R.newL hp
        exact po _ W1 _ (st.trans (Step.alloc hp (R1.nP hp))) (R1.alloc hp) (new_tup hp hL (st.rvs (g1.app g2)))
    · cases e
  · cases e
/-- a + b, all kinds -/
def addO : B2 := fun p q => (p2 addI p q).or ((addL p q).or ((p2 addT p q).or (p2 addStr p q)))
theorem br_add : BinR X (binaryOp .Add) addO := br_addI.or (br_addL.or (br_addT.or br_addStr))
def mulL : B2 := fun p q => match p, q with
  | .lst a, .int k => if decide (-9223372036854775808 ≤ k ∧ k < 9223372036854775808) && lineOk (a.length * k.toNat) then some (.lst (List.replicate k.toNat a).flatten, true) else none
  | _, _ => none
theorem reps_rep {K : PySem.W.Frag} {cs : List Addr} {H : Hp} {ps : List PV} {vs : List V} (r : Reps K cs H ps vs) : ∀ n : Nat, Reps K cs H (List.replicate n ps).flatten (List.replicate n vs).flatten
  | 0 => reps_nil
  | n + 1 => by
    simp only [List.replicate_succ, List.flatten_cons]
    exact r.app (reps_rep r n)
theorem br_mulL : BinR X (binaryOp .Mult) mulL := fun Z => by
  refine ⟨_, op_rep, fun W H s σ p q x y res Q R rx ry e po => ?_⟩
  unfold mulL at e
  split at e
  · rename_i u k
    split at e
    · rename_i h
      cases e
      simp only [Bool.and_eq_true, decide_eq_true_eq] at h
      obtain ⟨a1, vs, rfl, n1, h1, g1⟩ := rv_lst_inv rx
      refine ⟨a1, k, vs, rfl, rv_int_inv ry, h1, by omega, by omega, by rw [g1.len]; exact of_decide_eq_true h.2, fun p hp => Post.newO R hp po ⟨_, upd_same, (Step.allocO hp (R.nP hp)).rvs (reps_rep g1 _)⟩⟩
    · cases e
  · cases e
def mulO : B2 := fun p q => (p2 mulI p q).or (mulL p q)
theorem br_mul : BinR X (binaryOp .Mult) mulO := br_mulI.or br_mulL
/-- is None, is not None; is of truth values -/
def isG (n : Bool) : P2 := fun p q => match p, q with
  | .bl a, .bl b => some (.bl (n != decide (a = b)))
  | .non, .non => some (.bl (!n))
  | .bl _, .non => some (.bl n) | .int _, .non => some (.bl n) | .str _, .non => some (.bl n) | .tup _ _, .non => some (.bl n) | .lst _, .non => some (.bl n) | .dK _, .non => some (.bl n) | .dT _, .non => some (.bl n)
  | _, _ => none
theorem isG_non {n : Bool} {p r : PV} {K : PySem.W.Frag} {W : Wd} {H : Hp} {x : V} (rx : RV K W H p x) (e : isG n p .non = some r) : r = .bl (n != decide (x = .non)) := by
  cases p <;> simp only [isG, Option.some.injEq] at e <;> (try cases e) <;> unfold RV Rep at rx
  · subst rx; cases n <;> rfl
  · subst rx; cases n <;> rfl
  · subst rx; cases n <;> rfl
  · subst rx; cases n <;> rfl
  · obtain ⟨a, vs, rfl, _⟩ := rx; cases n <;> rfl
  · obtain ⟨a, vs, rfl, _⟩ := rx; cases n <;> rfl
  · obtain ⟨a, vs, rfl, _⟩ := rx; cases n <;> rfl
  · obtain ⟨a, vs, rfl, _⟩ := rx; cases n <;> rfl
theorem isG_bl {n : Bool} {r : PV} {a b : Bool} (e : isG n (.bl a) (.bl b) = some r) : r = .bl (n != decide (a = b)) := by
  simp only [isG, Option.some.injEq] at e
  exact e.symm
theorem br_is : BinR X (compareOp .Is) (p2 (isG false)) := BinR.plain (OpR_or op_isN op_is_bl) fun W H p q x y res Q rx ry e k => by
  cases q with
  | non =>
    have hy : y = .non := by unfold RV Rep at ry; exact ry
    have hr := isG_non rx e
    subst hr
    exact .inl ⟨hy, k _ (by simp only [Bool.false_bne]; exact rv_bl)⟩
  | bl b =>
    cases p with
    | bl a =>
      have hr := isG_bl e
      subst hr
      exact .inr ⟨a, b, rv_bl_inv rx, rv_bl_inv ry, k _ (by simp only [Bool.false_bne]; exact rv_bl)⟩
    | _ => simp [isG] at e
  | _ => cases p <;> simp [isG] at e
theorem br_isnot : BinR X (compareOp .IsNot) (p2 (isG true)) := BinR.plain (OpR_or op_notN op_isnot_bl) fun W H p q x y res Q rx ry e k => by
  cases q with
  | non =>
    have hy : y = .non := by unfold RV Rep at ry; exact ry
    have hr := isG_non rx e
    subst hr
    exact .inl ⟨hy, k _ (by simp only [Bool.true_bne]; exact rv_bl)⟩
  | bl b =>
    cases p with
    | bl a =>
      have hr := isG_bl e
      subst hr
      exact .inr ⟨a, b, rv_bl_inv rx, rv_bl_inv ry, k _ (by simp only [Bool.true_bne]; exact rv_bl)⟩
    | _ => simp [isG] at e
  | _ => cases p <;> simp [isG] at e
/-! ### truth values -/
def toB (p : PV) (s : DS) : Re Bool := match p with
  | .bl b => .ok b s
  | _ => .bad
def testE (f : EM) : TM := fun s => (f s).bind toB
theorem toB_post {K : PySem.W.Frag} {W : Wd} {H : Hp} {s : DS} {σ : L2.St} {p : PV} {v : V} {Q : Bool → Hp → Prop} (R : RSt K W H s σ) (r : RV K W H p v) (q : Post rT K Z σ W H (toB p s) Q) : ∃ c, v = .bl c ∧ Q c H := by
  unfold toB at q
  split at q
  · rename_i b
    exact ⟨b, rv_bl_inv r, q b W H (Step.refl _ _) R rfl⟩
  · exact q.elim
theorem tT_test {f : EM} (σ : L2.St) (H : Hp) (Q : Bool → Hp → Prop) (h : tT X.K Z (testE f) σ H Q) : tB (tE X.K Z f) σ H Q := by
  obtain ⟨W, s, R, h⟩ := h
  exact ⟨W, s, R, Post.bind h fun p s1 x W1 H1 _ st R1 rx q => toB_post R1 rx q⟩
theorem pt_of {e : Expr} {f : EM} (h : PX X Z e f) (he : ∀ whole, isTrue e X.env whole = (do let v ← whole; standAt e.pos; holding [v] (truthy v)) := by intro _; rfl) : PTX X Z e (testE f) := ⟨PT_imp (L2.pt_val h.pe he) fun σ H Q h => tT_test σ H Q h⟩
theorem pt_cmp {op : CmpOp} {g : P2} (hg : BinR X (compareOp op) (p2 g)) (ha : PX X Z a fa) (hb : PX X Z b fb) (hm : behindInMarks op b = false := by first | exact nomark _ | rfl | with_unfolding_all rfl) : PTX X Z (.Compare a [op] [b] pos) (testE (binE g fa fb)) := by
  obtain ⟨r, o, k⟩ := hg Z
  refine ⟨PT_imp (L2.pt_cmpR o ha.pe hb.pe hm) fun σ H Q h => ?_⟩
  obtain ⟨W, s, R, h⟩ := h
  refine tO_bin k σ H _ ⟨W, s, R, ?_⟩
  unfold testE binE plainE at h
  cases e : binO (p2 g) fa fb s with
  | ok z s1 =>
    rw [e] at h
    intro v W1 H1 st R1 ro
    obtain ⟨p, fr⟩ := z
    obtain ⟨W2, st2, R2, rv⟩ := rO_demote R1 ro
    exact toB_post R2 rv (Post.step h (st.trans st2))
  | exc x s1 => rw [e] at h; exact h
  | bad => rw [e] at h; exact h
/-- a op b op' c -/
def chainE (g g' : P2) (fa fb fc : EM) : EM := fun s => (fa s).bind fun p s1 => (fb s1).bind fun q s2 => match g p q with
  | some (.bl true) => (fc s2).bind fun r s3 => match g' q r with
    | some z => .ok z s3
    | none => .bad
  | some (.bl false) => .ok (.bl false) s2
  | _ => .bad
theorem tE_chain {g g' : P2} {r r' : R2} {fc : EM} (k : ∀ (W : Wd) (H : Hp) (s : DS) (σ : L2.St) (p q : PV) (x y : V) (res : PV × Bool) (Q : VK), RSt X.K W H s σ → RV X.K W H p x → RV X.K W H q y → p2 g p q = some res → Post rO X.K Z σ W H (.ok res s) Q → r x y H Q)
    (k' : ∀ (W : Wd) (H : Hp) (s : DS) (σ : L2.St) (p q : PV) (x y : V) (res : PV × Bool) (Q : VK), RSt X.K W H s σ → RV X.K W H p x → RV X.K W H q y → p2 g' p q = some res → Post rO X.K Z σ W H (.ok res s) Q → r' x y H Q)
    (σ : L2.St) (H : Hp) (Q : VK) (h : tE X.K Z (chainE g g' fa fb fc) σ H Q) : tChain r r' (tE X.K Z fa) (tE X.K Z fb) (tE X.K Z fc) σ H Q := by
  obtain ⟨W, s, R, h⟩ := h
  refine ⟨W, s, R, Post.bind h fun p s1 x W1 H1 _ st R1 rx q => ⟨W1, s1, R1, Post.bind q fun p2 s2 y W2 H2 _ st2 R2 ry q2 => ?_⟩⟩
  cases e : g p p2 with
  | none => simp only [e] at q2; exact q2.elim
  | some z =>
    refine k W2 H2 s2 σ p p2 x y (z, false) _ R2 (st2.rv rx) ry (by simp [DR.p2, e]) fun v W3 H3 st3 R3 rz => ?_
    have rz : RV X.K W3 H3 z v := rz
    cases z with
    | bl c =>
      simp only [e] at q2
      refine ⟨c, rv_bl_inv rz, ?_⟩
      cases c with
      | true =>
        rw [if_pos rfl]
        refine ⟨W3, s2, R3, Post.bind (Post.step q2 st3) fun p3 s4 w W4 H4 _ st4 R4 rw' q4 => ?_⟩
        cases e4 : g' p2 p3 with
        | none => simp only [e4] at q4; exact q4.elim
        | some z4 =>
          simp only [e4] at q4
          exact k' W4 H4 s4 σ p2 p3 y w (z4, false) Q R4 ((st3.trans st4).rv ry) rw' (by simp [DR.p2, e4]) q4
      | false =>
        rw [if_neg (by decide)]
        exact Post.step q2 st3 _ W3 H3 (Step.refl _ _) R3 rE_bl
    | _ => simp only [e] at q2; exact q2.elim
theorem px_chain {op op' : CmpOp} {g g' : P2} {c : Expr} {fc : EM} (hg : BinR X (compareOp op) (p2 g)) (hg' : BinR X (compareOp op') (p2 g')) (ha : PX X Z a fa) (hb : PX X Z b fb) (hc : PX X Z c fc) (hm : lastMarks [op, op'] [b, c] = false := by with_unfolding_all rfl) :
    PX X Z (.Compare a [op, op'] [b, c] pos) (chainE g g' fa fb fc) := by
  obtain ⟨r, o, k⟩ := hg Z
  obtain ⟨r', o', k'⟩ := hg' Z
  exact ⟨PE_imp (L2.pe_chain o o' ha.pe hb.pe hc.pe hm) fun σ H Q h => tE_chain k k' σ H Q h⟩
theorem pt_chain {op op' : CmpOp} {g g' : P2} {c : Expr} {fc : EM} (hg : BinR X (compareOp op) (p2 g)) (hg' : BinR X (compareOp op') (p2 g')) (ha : PX X Z a fa) (hb : PX X Z b fb) (hc : PX X Z c fc) (hm : lastMarks [op, op'] [b, c] = false := by with_unfolding_all rfl) :
    PTX X Z (.Compare a [op, op'] [b, c] pos) (testE (chainE g g' fa fb fc)) := by
  obtain ⟨r, o, k⟩ := hg Z
  obtain ⟨r', o', k'⟩ := hg' Z
  refine ⟨PT_imp (L2.pt_chain o o' ha.pe hb.pe hc.pe hm) fun σ H Q h => ?_⟩
  obtain ⟨W, s, R, h⟩ := h
  refine tE_chain k k' σ H _ ⟨W, s, R, Post.bind (R := rE) h fun p s1 v W1 H1 _ st R1 rv q => toB_post R1 rv q⟩
/-! ### and, or, not, if .. else -/
def andE (f g : EM) : EM := fun s => (f s).bind fun p s1 => match p with
  | .bl true => g s1
  | .bl false => .ok (.bl false) s1
  | _ => .bad
def orE (f g : EM) : EM := fun s => (f s).bind fun p s1 => match p with
  | .bl true => .ok (.bl true) s1
  | .bl false => g s1
  | _ => .bad
def notE (f : EM) : EM := fun s => (f s).bind fun p s1 => match p with
  | .bl b => .ok (.bl (!b)) s1
  | _ => .bad
def andT (f g : TM) : TM := fun s => (f s).bind fun b s1 => if b = true then g s1 else .ok false s1
def orT (f g : TM) : TM := fun s => (f s).bind fun b s1 => if b = true then .ok true s1 else g s1
def notT (f : TM) : TM := fun s => (f s).bind fun b s1 => .ok (!b) s1
def ifE (t : TM) (f g : EM) : EM := fun s => (t s).bind fun b s1 => if b = true then f s1 else g s1
def ifO (t : TM) (f g : OM) : OM := fun s => (t s).bind fun b s1 => if b = true then f s1 else g s1
variable {rest : List Expr} {ta tb : TM}
theorem px_one {op : BoolOp} (h : PX X Z a fa) : PX X Z (.BoolOp op [a] pos) fa := ⟨L2.pe_one h.pe⟩
theorem px_and (ha : PX X Z a fa) (hb : PX X Z (.BoolOp .And (b :: rest) pos) fb) : PX X Z (.BoolOp .And (a :: b :: rest) pos) (andE fa fb) := by
  refine ⟨PE_imp (L2.pe_and ha.pe hb.pe) fun σ H Q h => ?_⟩
  obtain ⟨W, s, R, h⟩ := h
  refine ⟨W, s, R, Post.bind h fun p s1 x W1 H1 _ st R1 rx q => ?_⟩
  cases p with
  | bl c =>
    refine ⟨c, rE_bl_inv rx, ?_⟩
    cases c with
    | true => rw [if_pos rfl]; exact ⟨W1, s1, R1, q⟩
    | false => rw [if_neg (by decide)]; exact q _ W1 H1 (Step.refl _ _) R1 rE_bl
  | _ => exact q.elim
theorem px_or (ha : PX X Z a fa) (hb : PX X Z (.BoolOp .Or (b :: rest) pos) fb) : PX X Z (.BoolOp .Or (a :: b :: rest) pos) (orE fa fb) := by
  refine ⟨PE_imp (L2.pe_or ha.pe hb.pe) fun σ H Q h => ?_⟩
  obtain ⟨W, s, R, h⟩ := h
  refine ⟨W, s, R, Post.bind h fun p s1 x W1 H1 _ st R1 rx q => ?_⟩
  cases p with
  | bl c =>
    refine ⟨c, rE_bl_inv rx, ?_⟩
    cases c with
    | true => rw [if_pos rfl]; exact q _ W1 H1 (Step.refl _ _) R1 rE_bl
    | false => rw [if_neg (by decide)]; exact ⟨W1, s1, R1, q⟩
  | _ => exact q.elim
theorem px_not (ha : PX X Z a fa) : PX X Z (.UnaryOp .Not a pos) (notE fa) := by
  refine ⟨PE_imp (L2.pe_not ha.pe) fun σ H Q h => ?_⟩
  obtain ⟨W, s, R, h⟩ := h
  refine ⟨W, s, R, Post.bind h fun p s1 x W1 H1 _ st R1 rx q => ?_⟩
  cases p with
  | bl c => exact ⟨c, rE_bl_inv rx, q _ W1 H1 (Step.refl _ _) R1 rE_bl⟩
  | _ => exact q.elim
structure PWX (X : Cx) (Z : WX) (e : Expr) (f : TM) : Prop where
  pw : PW X e (tT X.K Z f)
theorem pw_lastA (ha : PTX X Z a ta) : PWX X Z (.BoolOp .And [a] pos) ta := ⟨L2.pw_and1 ha.pt⟩
theorem pw_lastO (ha : PTX X Z a ta) : PWX X Z (.BoolOp .Or [a] pos) ta := ⟨L2.pw_or1 ha.pt⟩
theorem pw_andX (ha : PTX X Z a ta) (hb : PWX X Z (.BoolOp .And (b :: rest) pos) tb) : PWX X Z (.BoolOp .And (a :: b :: rest) pos) (andT ta tb) := by
  refine ⟨PW_imp (L2.pw_and ha.pt hb.pw) fun σ H Q h => ?_⟩
  obtain ⟨W, s, R, h⟩ := h
  refine ⟨W, s, R, Post.bind h fun p s1 x W1 H1 _ st R1 rx q => ?_⟩
  obtain rfl : x = p := rx
  cases x with
  | true => rw [if_pos rfl]; exact ⟨W1, s1, R1, q⟩
  | false => rw [if_neg (by decide)]; exact q _ W1 H1 (Step.refl _ _) R1 rfl
theorem pw_orX (ha : PTX X Z a ta) (hb : PWX X Z (.BoolOp .Or (b :: rest) pos) tb) : PWX X Z (.BoolOp .Or (a :: b :: rest) pos) (orT ta tb) := by
  refine ⟨PW_imp (L2.pw_or ha.pt hb.pw) fun σ H Q h => ?_⟩
  obtain ⟨W, s, R, h⟩ := h
  refine ⟨W, s, R, Post.bind h fun p s1 x W1 H1 _ st R1 rx q => ?_⟩
  obtain rfl : x = p := rx
  cases x with
  | true => rw [if_pos rfl]; exact q _ W1 H1 (Step.refl _ _) R1 rfl
  | false => rw [if_neg (by decide)]; exact ⟨W1, s1, R1, q⟩
theorem pt_w {e : Expr} {t : TM} (h : PWX X Z e t) : PTX X Z e t := ⟨h.pw.pt⟩
theorem pt_notX (ha : PTX X Z a ta) : PTX X Z (.UnaryOp .Not a pos) (notT ta) := by
  refine ⟨PT_imp (L2.pt_not ha.pt) fun σ H Q h => ?_⟩
  obtain ⟨W, s, R, h⟩ := h
  refine ⟨W, s, R, Post.bind h fun p s1 x W1 H1 _ st R1 rx q => ?_⟩
  obtain rfl : x = p := rx
  exact q _ W1 H1 (Step.refl _ _) R1 rfl
theorem px_if {c : Expr} (hc : PTX X Z c ta) (ha : PX X Z a fa) (hb : PX X Z b fb) : PX X Z (.IfExp c a b pos) (ifE ta fa fb) := by
  refine ⟨PE_imp (L2.pe_ifExp hc.pt ha.pe hb.pe) fun σ H Q h => ?_⟩
  obtain ⟨W, s, R, h⟩ := h
  refine ⟨W, s, R, Post.bind h fun p s1 x W1 H1 _ st R1 rx q => ?_⟩
  obtain rfl : x = p := rx
  cases x with
  | true => rw [if_pos rfl] at q ⊢; exact ⟨W1, s1, R1, q⟩
  | false => rw [if_neg (by decide)] at q ⊢; exact ⟨W1, s1, R1, q⟩
theorem po_if {c : Expr} {ga gb : OM} (hc : PTX X Z c ta) (ha : PO X Z a ga) (hb : PO X Z b gb) : PO X Z (.IfExp c a b pos) (ifO ta ga gb) := by
  refine ⟨PE_imp (L2.pe_ifExp hc.pt ha.pe hb.pe) fun σ H Q h => ?_⟩
  obtain ⟨W, s, R, h⟩ := h
  refine ⟨W, s, R, Post.bind h fun p s1 x W1 H1 _ st R1 rx q => ?_⟩
  obtain rfl : x = p := rx
  cases x with
  | true => rw [if_pos rfl] at q ⊢; exact ⟨W1, s1, R1, q⟩
  | false => rw [if_neg (by decide)] at q ⊢; exact ⟨W1, s1, R1, q⟩
/-- -a -/
def negE (f : EM) : EM := fun s => (f s).bind fun p s1 => match p with
  | .int i => .ok (.int (-i)) s1
  | _ => .bad
theorem px_neg (ha : PX X Z a fa) : PX X Z (.UnaryOp .USub a pos) (negE fa) := by
  refine ⟨PE_imp (L2.pe_un un_neg ha.pe) fun σ H Q h => ?_⟩
  obtain ⟨W, s, R, h⟩ := h
  refine ⟨W, s, R, Post.bind h fun p s1 x W1 H1 _ st R1 rx q => ?_⟩
  cases p with
  | int c => exact ⟨c, rE_int_inv rx, q _ W1 H1 (Step.refl _ _) R1 rE_int⟩
  | _ => exact q.elim
end
end DR
/-! DR: statements, targets, loops, comprehensions. -/
namespace DR
open PySem PySem.Spec PyProof.Rows L2
section
variable {X : Cx} {Z : WX} {e : Expr} {f : EM} {g : OM} {st : Stmt} {rest : List Stmt} {u v : SM} {pos : Pos}
/-! ### blocks and small statements -/
def nextS : SM := fun s => .ok .nx s
def seqS (u v : SM) : SM := fun s => (u s).bind fun fl s1 => match fl with
  | .nx => v s1
  | o => .ok o s1
def retS (g : OM) : SM := fun s => (g s).bind fun p s1 => .ok (.rt p.1 p.2) s1
def retN : SM := fun s => .ok (.rt .non false) s
def exprS (f : EM) : SM := fun s => (f s).bind fun _ s1 => .ok .nx s1
def ifS (t : TM) (u v : SM) : SM := fun s => (t s).bind fun b s1 => if b = true then u s1 else v s1
def badS : SM := fun _ => .bad
theorem ss_nil : PSsX X Z [] nextS := ⟨PSs_imp L2.pss_nil fun D σ H ⟨W, s, R, h⟩ => h σ W H (Step.refl _ _) R⟩
theorem ss_cons (h1 : PSX X Z st u) (h2 : PSsX X Z rest v) : PSsX X Z (st :: rest) (seqS u v) := by
  refine ⟨PSs_imp (L2.pss_cons h1.ps h2.ps) fun D σ H ⟨W, s, R, h⟩ => ⟨W, s, R, ?_⟩⟩
  unfold seqS at h
  cases e : u s with
  | ok fl s1 =>
    rw [e] at h
    cases fl with
    | nx => exact fun σ' W' H' st' R' => ⟨W', s1, R', PostS.step h st'⟩
    | rt p fr => exact h
    | bk => exact h
    | ct => exact h
  | exc x s1 => rw [e] at h; exact h
  | bad => rw [e] at h; exact h
theorem ss_one (h1 : PSX X Z st u) : PSsX X Z [st] u := ⟨L2.pss_one h1.ps⟩
theorem ps_passX : PSX X Z (.Pass pos) nextS := ⟨PS_imp L2.ps_pass fun D σ H ⟨W, s, R, h⟩ => h σ W H (Step.refl _ _) R⟩
theorem ps_breakX : PSX X Z (.Break pos) (fun s => .ok .bk s) := ⟨PS_imp L2.ps_break fun D σ H ⟨W, s, R, h⟩ => h σ W H (Step.refl _ _) R⟩
theorem ps_contX : PSX X Z (.Continue pos) (fun s => .ok .ct s) := ⟨PS_imp L2.ps_continue fun D σ H ⟨W, s, R, h⟩ => h σ W H (Step.refl _ _) R⟩
theorem ps_badX : PSX X Z st badS := ⟨PS_imp L2.ps_never fun D σ H ⟨W, s, R, h⟩ => h.elim⟩
theorem ps_exprX (he : PX X Z e f) (hs : swapsWith e none pos.line X.env = pure false := by rfl) : PSX X Z (.Expr e pos) (exprS f) :=
  ⟨PS_imp (L2.ps_expr he.pe hs) fun D σ H ⟨W, s, R, h⟩ => ⟨W, s, R, PostS.bindE h fun p s1 x W1 H1 _ st R1 rx q => q σ W1 H1 (Step.refl _ _) R1⟩⟩
theorem ps_retX (he : PO X Z e g) : PSX X Z (.Return (some e) pos) (retS g) :=
  ⟨PS_imp (L2.ps_ret he.pe) fun D σ H ⟨W, s, R, h⟩ => ⟨W, s, R, PostS.bindE h fun p s1 x W1 H1 _ st R1 rx q => q σ x W1 H1 (Step.refl _ _) R1 rx⟩⟩
theorem ps_retNX : PSX X Z (.Return none pos) retN := ⟨PS_imp L2.ps_retN fun D σ H ⟨W, s, R, h⟩ => h σ .non W H (Step.refl _ _) R (show RV X.K W H .non .non from rv_non)⟩
theorem ps_ifX {c : Expr} {a b : List Stmt} {t : TM} (hc : PTX X Z c t) (ha : PSsX X Z a u) (hb : PSsX X Z b v) : PSX X Z (.If c a b pos) (ifS t u v) := by
  refine ⟨PS_imp (L2.ps_if hc.pt ha.ps hb.ps) fun D σ H ⟨W, s, R, h⟩ => ⟨W, s, R, PostS.bindE h fun p s1 x W1 H1 _ st R1 rx q => ?_⟩⟩
  obtain rfl : x = p := rx
  cases x with
  | true => rw [if_pos rfl] at q ⊢; exact ⟨W1, s1, R1, q⟩
  | false => rw [if_neg (by decide)] at q ⊢; exact ⟨W1, s1, R1, q⟩
/-! ### stores -/
def putSl (p : PV × Bool) : Sl := if p.2 = true then .own p.1 else .val p.1
def setS (i : Nat) (g : OM) : SM := fun s => (g s).bind fun p s1 => .ok .nx ⟨s1.e.set i (putSl p), s1.t⟩
theorem RSt.put {K : PySem.W.Frag} {W : Wd} {H : Hp} {s : DS} {σ : L2.St} (R : RSt K W H s σ) {i : Nat} {p : PV × Bool} {x : V} (r : rO K σ W H s p x) : RSt K W H ⟨s.e.set i (putSl p), s.t⟩ (σ.set i (some x)) := by
  obtain ⟨p, fr⟩ := p
  cases fr with
  | true => exact R.seto (show Own K σ W H s p x from r)
  | false => exact R.setv (show RV K W H p x from r)
theorem ps_setX (i : Nat) {x : Str} {pos' : Pos} (hN : X.N.Nodup) (he : PO X Z e g) (hi : X.N[i]? = some x := by rfl) (hx : Loc X.env.scope x := by first | exact Or.inl rfl | exact Or.inr rfl) (hs : swapsWith e (some (.Name x pos')) pos.line X.env = pure false := by rfl)
    (hf : X.fn x = true ∨ X.env.scope.names.lookup x = some .local := by first | exact .inl rfl | exact .inr rfl) : PSX X Z (.Assign [.Name x pos'] e pos) (setS i g) :=
  ⟨PS_imp (L2.ps_set hN hi hx he.pe hs hf) fun D σ H ⟨W, s, R, h⟩ => ⟨W, s, R, PostS.bindE h fun p s1 y W1 H1 _ st R1 ry q => q _ W1 H1 (Step.refl _ _) (R1.put ry)⟩⟩
/-- a, b = x, y over two plain locals: both are reckoned first -/
def setS2 (i j : Nat) (f g : EM) : SM := fun s => (f s).bind fun p s1 => (g s1).bind fun q s2 => .ok .nx ⟨(s2.e.set i (.val p)).set j (.val q), s2.t⟩
theorem ps_setX2 {i j : Nat} {x y : Str} {a b : Expr} {fa fb : EM} {px py pt : Pos} {kt k2 pt2} (hc : X.calm = true) (hN : X.N.Nodup) (hi : X.N[i]? = some x) (hj : X.N[j]? = some y) (hij : i ≠ j)
    (hx : X.env.scope.names.lookup x = some .local) (hy : X.env.scope.names.lookup y = some .local) (ha : PX X Z a fa) (hb : PX X Z b fb) (hst : starEach [a, b] X.env = (false, eval a X.env) :: starEach [b] X.env := by rfl) (hst2 : starEach [b] X.env = (false, eval b X.env) :: starEach [] X.env := by rfl)
    (hw : swappedStores [.Tuple [.Name x px, .Name y py] kt pt] (.Tuple [a, b] k2 pt2) X.env = pure (some [x, y]) := by rfl)
    (hs : swapsWithSole [.Tuple [.Name x px, .Name y py] kt pt] (.Tuple [a, b] k2 pt2) pos.line X.env = pure false := by rfl) :
    PSX X Z (.Assign [.Tuple [.Name x px, .Name y py] kt pt] (.Tuple [a, b] k2 pt2) pos) (setS2 i j fa fb) := by
  refine ⟨PS_imp (L2.ps_par hc hN hi hj hij hx hy (pa_consX ha (pa_consX hb pa_nilX hst2) hst).pa hw hs) fun D σ H ⟨W, s, R, h⟩ => ⟨W, s, R, ?_⟩⟩
  show Post rA X.K Z σ W H (consA fa (consA fb nilA) s) _
  unfold setS2 at h
  unfold consA nilA
  cases e1 : fa s with
  | bad => rw [e1] at h; exact h
  | exc x s1 => rw [e1] at h; exact fun d W' H' st' R' xr => h σ d W' H' st' R' xr
  | ok p s1 =>
    rw [e1] at h
    cases e2 : fb s1 with
    | bad => simp only [Re.bind, e2] at h; exact h.elim
    | exc x s2 => simp only [Re.bind, e2] at h ⊢; exact fun d W' H' st' R' xr => h σ d W' H' st' R' xr
    | ok q s2 =>
      simp only [Re.bind, e2] at h ⊢
      intro vs W' H' st' R' rv
      have rv : Reps X.K W'.S (W'.m H') [p, q] vs := rv
      unfold Reps at rv
      obtain ⟨v1, r1, rfl, a1, rv⟩ := rv
      unfold Reps at rv
      obtain ⟨v2, r2, rfl, a2, rv⟩ := rv
      unfold Reps at rv
      subst rv
      exact ⟨v1, v2, rfl, h _ W' H' st' ((R'.setv (i := i) a1).setv (i := j) a2)⟩
/-- targets -/
inductive Tg where
  | nm (i : Nat) | tp (ts : List Tg)
mutual
def asgT : Tg → PV → DE → Option DE
  | .nm i, p, e => some (e.set i (.val p))
  | .tp ts, .tup _ ps, e => asgTs ts ps e
  | .tp _, _, _ => none
def asgTs : List Tg → List PV → DE → Option DE
  | [], [], e => some e
  | t :: ts, p :: ps, e => match asgT t p e with
    | some e' => asgTs ts ps e'
    | none => none
  | _, _, _ => none
end
mutual
def tgIn : Tg → List Nat → Bool
  | .nm i, vs => decide (i ∈ vs)
  | .tp ts, vs => tgsIn ts vs
def tgsIn : List Tg → List Nat → Bool
  | [], _ => true
  | t :: ts, vs => tgIn t vs && tgsIn ts vs
end
theorem wipe_get (σ : L2.St) (j : Nat) : ∀ vs : List Nat, (wipe σ vs)[j]? = if j ∈ vs then σ[j]?.map (fun _ => none) else σ[j]?
  | [] => by simp [wipe]
  | v :: vs => by
    unfold wipe
    by_cases h : v = j
    · subst h
      rw [if_pos List.mem_cons_self]
      by_cases hv : v < σ.length
      · rw [List.getElem?_set_self (by rw [wipe_length]; exact hv), List.getElem?_eq_getElem hv]
        rfl
      · rw [List.getElem?_eq_none (by rw [List.length_set, wipe_length]; omega), List.getElem?_eq_none (by omega)]
        rfl
    · rw [List.getElem?_set_ne h, wipe_get σ j vs]
      by_cases hj : j ∈ vs
      · rw [if_pos hj, if_pos (List.mem_cons_of_mem _ hj)]
      · rw [if_neg hj, if_neg (by simp [hj, Ne.symm h])]
theorem wipe_set {σ : L2.St} {i : Nat} {x : Option V} {vs : List Nat} (h : i ∈ vs) : wipe (σ.set i x) vs = wipe σ vs := by
  refine List.ext_getElem? fun j => ?_
  rw [wipe_get, wipe_get]
  by_cases hj : j = i
  · subst hj
    rw [if_pos h, if_pos h]
    by_cases hv : j < σ.length
    · rw [List.getElem?_set_self hv, List.getElem?_eq_getElem hv]
      rfl
    · rw [List.getElem?_eq_none (by rw [List.length_set]; omega), List.getElem?_eq_none (by omega)]
  · rw [List.getElem?_set_ne (Ne.symm hj)]
def gX (K : PySem.W.Frag) (t : Tg) : TG := fun v σ H Q => ∃ W s p, RSt K W H s σ ∧ RV K W H p v ∧ ∃ e', asgT t p s.e = some e' ∧ ∀ σ', (∀ vs, tgIn t vs = true → wipe σ' vs = wipe σ vs) → RSt K W H ⟨e', s.t⟩ σ' → Q σ' H
def gsX (K : PySem.W.Frag) (t : List Tg) : TGs := fun vs σ H Q => ∃ W s ps, RSt K W H s σ ∧ RVs K W H ps vs ∧ ∃ e', asgTs t ps s.e = some e' ∧ ∀ σ', (∀ vs, tgsIn t vs = true → wipe σ' vs = wipe σ vs) → RSt K W H ⟨e', s.t⟩ σ' → Q σ' H
structure PGX (X : Cx) (e : Expr) (t : Tg) : Prop where
  pg : PG X e (gX X.K t)
structure PGsX (X : Cx) (es : List Expr) (t : List Tg) : Prop where
  pgs : PGs X es (gsX X.K t)
theorem PG_imp {X : Cx} {e : Expr} {t t' : TG} (h : PG X e t) (i : ∀ v σ H Q, t' v σ H Q → t v σ H Q) : PG X e t' := ⟨fun pins s σ H v u Q I r q => h.run pins s σ H v u Q I r (i v σ H Q q)⟩
theorem PGs_imp {X : Cx} {e : List Expr} {t t' : TGs} (h : PGs X e t) (i : ∀ v σ H Q, t' v σ H Q → t v σ H Q) : PGs X e t' := ⟨fun pins s σ H v u Q I r q => h.run pins s σ H v u Q I r (i v σ H Q q)⟩
theorem g_nm (i : Nat) {x : Str} {pos : Pos} (hN : X.N.Nodup) (hi : X.N[i]? = some x := by rfl) (hx : Loc X.env.scope x := by first | exact Or.inl rfl | exact Or.inr rfl) (hf : X.fn x = true ∨ X.env.scope.names.lookup x = some .local := by first | exact .inl rfl | exact .inr rfl) : PGX X (.Name x pos) (.nm i) := by
  refine ⟨PG_imp (L2.pg_name hN hi hx hf) fun v σ H Q ⟨W, s, p, R, rv, e', he, k⟩ => ?_⟩
  simp only [asgT, Option.some.injEq] at he
  subst he
  exact k _ (fun vs hv => wipe_set (of_decide_eq_true hv)) (R.setv rv)
theorem gs_nil : PGsX X [] [] := by
  refine ⟨PGs_imp L2.pgs_nil fun v σ H Q ⟨W, s, p, R, rv, e', he, k⟩ => ?_⟩
  cases p with
  | nil =>
    simp only [asgTs, Option.some.injEq] at he
    subst he
    unfold RVs Reps at rv
    exact ⟨rv, k σ (fun _ _ => rfl) R⟩
  | cons a b => simp [asgTs] at he
theorem gs_cons {e : Expr} {es : List Expr} {t : Tg} {ts : List Tg} (h1 : PGX X e t) (h2 : PGsX X es ts) (hs : (assignEach (e :: es) X.env).map (·.2) = assign e X.env :: (assignEach es X.env).map (·.2) := by rfl) : PGsX X (e :: es) (t :: ts) := by
  refine ⟨PGs_imp (L2.pgs_cons h1.pg h2.pgs hs) fun v σ H Q ⟨W, s, p, R, rv, e', he, k⟩ => ?_⟩
  cases p with
  | nil => simp [asgTs] at he
  | cons a b =>
    simp only [asgTs] at he
    cases e1 : asgT t a s.e with
    | none => rw [e1] at he; cases he
    | some e2 =>
      rw [e1] at he
      unfold RVs Reps at rv
      obtain ⟨v1, r1, rfl, ra, rb⟩ := rv
      refine ⟨v1, r1, rfl, W, s, a, R, ra, e2, e1, fun σ' hw R' => ⟨W, ⟨e2, s.t⟩, b, R', rb, e', he, fun σ2 hw2 R2 => k σ2 (fun vs hv => ?_) R2⟩⟩
      simp only [tgsIn, Bool.and_eq_true] at hv
      rw [hw2 vs hv.2, hw vs hv.1]
theorem g_tp {es : List Expr} {k : Nat} {ts : List Tg} {pos : Pos} (hc : X.calm = true) (h : PGsX X es ts) (hn : (assignEach es X.env).length = ts.length := by rfl) (hst : (assignEach es X.env).findIdx? (·.1) = none := by rfl) : PGX X (.Tuple es k pos) (.tp ts) := by
  refine ⟨PG_imp (L2.pg_tup hc h.pgs hn hst) fun v σ H Q ⟨W, s, p, R, rv, e', he, k⟩ => ?_⟩
  cases p with
  | tup c ps =>
    simp only [asgT] at he
    obtain ⟨a, vs, rfl, h1, h2⟩ := rv_tup_inv rv
    refine ⟨a, vs, rfl, h1, ?_, W, s, ps, R, h2, e', he, k⟩
    rw [h2.len]
    clear k rv h1 h2 R h hn hst
    have : ∀ (ts : List Tg) (ps : List PV) (e e' : DE), asgTs ts ps e = some e' → ps.length = ts.length := by
      intro ts
      induction ts with
      | nil =>
        intro ps e e' he
        cases ps with
        | nil => rfl
        | cons a b => simp [asgTs] at he
      | cons t ts ih =>
        intro ps e e' he
        cases ps with
        | nil => simp [asgTs] at he
        | cons a b =>
          simp only [asgTs] at he
          cases e1 : asgT t a e with
          | none => rw [e1] at he; cases he
          | some e2 =>
            rw [e1] at he
            simp [ih b e2 e' he]
    exact this ts ps s.e e' he
  | _ => simp [asgT] at he
/-- target = value, the target of any form -/
def asgS (t : Tg) (f : EM) : SM := fun s => (f s).bind fun p s1 => match asgT t p s1.e with
  | some e' => .ok .nx ⟨e', s1.t⟩
  | none => .bad
theorem ps_asgX {tg : Expr} {t : Tg} (he : PX X Z e f) (hg : PGX X tg t) (hs : swapsWithSole [tg] e pos.line X.env = pure false := by rfl) (hw : swappedStores [tg] e X.env = pure none := by rfl)
    (h1 : (assignEach [tg] X.env).map (·.2) = [assign tg X.env] := by rfl) : PSX X Z (.Assign [tg] e pos) (asgS t f) := by
  refine ⟨PS_imp (L2.ps_asg he.pe hg.pg hs hw h1) fun D σ H ⟨W, s, R, h⟩ => ⟨W, s, R, PostS.bindE h fun p s1 x W1 H1 _ st R1 rx q => ?_⟩⟩
  cases e1 : asgT t p s1.e with
  | none => simp only [e1] at q; exact q.elim
  | some e2 =>
    simp only [e1] at q
    exact ⟨W1, s1, p, R1, rx, e2, e1, fun σ' _ R' => q σ' W1 H1 (Step.refl _ _) R'⟩
/-! ### what is walked -/
/-- what could be reached can be reached -/
structure Vw (W : Wd) (H : Hp) (W' : Wd) (H' : Hp) : Prop where
  same : Same (W.m H) (W'.m H')
  pre : Pre W.S W'.S
theorem Step.vw {W W' : Wd} {H H' : Hp} (s : Step W H W' H') : Vw W H W' H' := ⟨s.same, s.pre⟩
theorem Vw.trans {W W1 W2 : Wd} {H H1 H2 : Hp} (a : Vw W H W1 H1) (b : Vw W1 H1 W2 H2) : Vw W H W2 H2 := ⟨a.same.trans b.same, a.pre.trans b.pre⟩
structure Goes (K : PySem.W.Frag) (J : It) (ps : List PV) (W : Wd) (H : Hp) : Prop where
  go : ∀ W1 H1 i, Vw W H W1 H1 → i < ps.length → J.go i H1
  stop : ∀ W1 H1, Vw W H W1 H1 → J.stop ps.length H1
  yld : ∀ (W1 : Wd) (H1 : Hp) (i : Nat) (x : V) (H2 : Hp) (p : PV) (s : DS) (σ : L2.St), Vw W H W1 H1 → ps[i]? = some p → RSt K W1 H1 s σ → J.yld i H1 x H2 → ∃ W2, Step W1 H1 W2 H2 ∧ RSt K W2 H2 s σ ∧ RV K W2 H2 p x
abbrev IM := DS → Re (List PV)
def rI : RT (List PV) It := fun K _ W H _ ps J => Goes K J ps W H
def tI (K : PySem.W.Frag) (Z : WX) (f : IM) : TI := fun σ H R => tG rI K Z f σ H R
structure PIX (X : Cx) (Z : WX) (tg e : Expr) (f : IM) : Prop where
  pi : PI X tg e (tI X.K Z f)
theorem PI_imp {X : Cx} {tg e : Expr} {t t' : TI} (h : PI X tg e t) (i : ∀ σ H Q, t' σ H Q → t σ H Q) : PI X tg e t' := ⟨fun pins s σ H R I q => h.run pins s σ H R I (i σ H R q)⟩
theorem PI_or {X : Cx} {tg e : Expr} {t t' : TI} (h : PI X tg e t) (h' : PI X tg e t') : PI X tg e (fun σ H R => t σ H R ∨ t' σ H R) := ⟨fun pins s σ H R I q => q.elim (h.run pins s σ H R I) (h'.run pins s σ H R I)⟩
def forL (t : Tg) (b : SM) : List PV → SM
  | [], s => .ok .nx s
  | p :: ps, s => match asgT t p s.e with
    | none => .bad
    | some e' => (b ⟨e', s.t⟩).bind fun fl s1 => match fl with
      | .nx => forL t b ps s1
      | .ct => forL t b ps s1
      | .bk => .ok .nx s1
      | .rt p fr => .ok (.rt p fr) s1
def forS (it : IM) (t : Tg) (b : SM) : SM := fun s => (it s).bind fun ps s1 => forL t b ps s1
theorem ps_forX {tg iter : Expr} {body : List Stmt} {it : IM} {t : Tg} {b : SM} (hp : PassesOwn (model X.prog X.w) X.A X.env X.xe) (hc : X.calm = true) (hi : PIX X Z tg iter it) (hg : PGX X tg t) (hb : PSsX X Z body b)
    (hs : ∀ x, foldedSetIterable iter X.env x = pure x := by intro _; rfl) : PSX X Z (.For tg iter body [] pos) (forS it t b) := by
  refine ⟨PS_imp (L2.ps_for hp hc hi.pi hg.pg hb.ps hs) fun D σ H ⟨W, s, R, h⟩ => ⟨W, s, R, PostS.bindE h fun ps s1 J W1 H1 _ st R1 G q => ?_⟩⟩
  have G : Goes X.K J ps W1 H1 := G
  refine ⟨fun i m σ2 H2 => m = ps.length - i ∧ i ≤ ps.length ∧ ∃ W2 s2, Step W1 H1 W2 H2 ∧ RSt X.K W2 H2 s2 σ2 ∧ PostS X.K Z W2 H2 (forL t b (ps.drop i) s2) D, ⟨ps.length, by simp, Nat.zero_le _, W1, s1, Step.refl _ _, R1, q⟩, ?_⟩
  rintro i m σ2 H2 ⟨rfl, hi, W2, s2, st2, R2, q2⟩
  by_cases hlt : i < ps.length
  · refine .inr ⟨G.go W2 H2 i st2.vw hlt, fun σ3 H3 => i + 1 ≤ ps.length ∧ ∃ W3 s3, Step W1 H1 W3 H3 ∧ RSt X.K W3 H3 s3 σ3 ∧ PostS X.K Z W3 H3 (forL t b (ps.drop (i + 1)) s3) D, fun σ' H' ⟨hi', W3, s3, a, b, c⟩ => ⟨ps.length - (i + 1), by omega, rfl, hi', W3, s3, a, b, c⟩, fun x H3 y => ?_⟩
    obtain ⟨W3, st3, R3, rv⟩ := G.yld W2 H2 i x H3 ps[i] s2 σ2 st2.vw (List.getElem?_eq_getElem hlt) R2 y
    rw [List.drop_eq_getElem_cons hlt] at q2
    unfold forL at q2
    cases e1 : asgT t ps[i] s2.e with
    | none => simp only [e1] at q2; exact q2.elim
    | some e2 =>
      simp only [e1] at q2
      refine ⟨W3, s2, ps[i], R3, rv, e2, e1, fun σ4 _ R4 => ⟨W3, ⟨e2, s2.t⟩, R4, ?_⟩⟩
      have q3 := PostS.step q2 st3
      cases e3 : b ⟨e2, s2.t⟩ with
      | bad => rw [e3] at q3; exact q3.elim
      | exc x s5 => rw [e3] at q3; exact q3
      | ok fl s5 =>
        rw [e3] at q3
        cases fl with
        | nx => exact fun σ' W' H' st' R' => ⟨hlt, W', s5, (st2.trans st3).trans st', R', PostS.step q3 st'⟩
        | ct => exact fun σ' W' H' st' R' => ⟨hlt, W', s5, (st2.trans st3).trans st', R', PostS.step q3 st'⟩
        | bk => exact q3
        | rt p fr => exact q3
  · have e : i = ps.length := by omega
    subst e
    rw [List.drop_length] at q2
    exact .inl ⟨G.stop W2 H2 st2.vw, q2 σ2 W2 H2 (Step.refl _ _) R2⟩
def whileN (t : TM) (b : SM) : Nat → SM
  | 0, _ => .bad
  | n + 1, s => (t s).bind fun c s1 => if c = true then (b s1).bind fun fl s2 => match fl with
      | .nx => whileN t b n s2
      | .ct => whileN t b n s2
      | .bk => .ok .nx s2
      | .rt p fr => .ok (.rt p fr) s2
    else .ok .nx s1
theorem ps_whileX {c : Expr} {body : List Stmt} {t : TM} {b : SM} (n : Nat) (hp : PassesOwn (model X.prog X.w) X.A X.env X.xe) (hc : PTX X Z c t) (hb : PSsX X Z body b) : PSX X Z (.While c body [] pos) (whileN t b n) := by
  refine ⟨PS_imp (L2.ps_while hp hc.pt hb.ps) fun D σ H ⟨W, s, R, h⟩ => ?_⟩
  refine ⟨fun m σ2 H2 => ∃ W2 s2, RSt X.K W2 H2 s2 σ2 ∧ PostS X.K Z W2 H2 (whileN t b m s2) D, ⟨n, W, s, R, h⟩, ?_⟩
  rintro m σ2 H2 ⟨W2, s2, R2, q2⟩
  cases m with
  | zero => exact q2.elim
  | succ m =>
    unfold whileN at q2
    refine ⟨W2, s2, R2, PostS.bindE q2 fun c s3 x W3 H3 _ st3 R3 rx q3 => ?_⟩
    obtain rfl : x = c := rx
    cases x with
    | false => rw [if_neg (by decide)] at q3 ⊢; exact q3 σ2 W3 H3 (Step.refl _ _) R3
    | true =>
      rw [if_pos rfl] at q3 ⊢
      refine ⟨fun σ4 H4 => ∃ W4 s4, RSt X.K W4 H4 s4 σ4 ∧ PostS X.K Z W4 H4 (whileN t b m s4) D, fun σ' H' q => ⟨m, Nat.lt_succ_self _, q⟩, W3, s3, R3, ?_⟩
      cases e3 : b s3 with
      | bad => rw [e3] at q3; exact q3.elim
      | exc x s5 => rw [e3] at q3; exact q3
      | ok fl s5 =>
        rw [e3] at q3
        cases fl with
        | nx => exact fun σ' W' H' st' R' => ⟨W', s5, R', PostS.step q3 st'⟩
        | ct => exact fun σ' W' H' st' R' => ⟨W', s5, R', PostS.step q3 st'⟩
        | bk => exact q3
        | rt p fr => exact q3
end
end DR
/-! DR: what is walked; list comprehensions. -/
namespace DR
open PySem PySem.Spec PyProof.Rows L2
section
variable {K : PySem.W.Frag} {W W1 : Wd} {H H1 : Hp} {a b : Addr} {ps qs : List PV} {vs ws : List V}
theorem yldP {H2 : Hp} {s : DS} {σ : L2.St} {x : V} {p : PV} (R : RSt K W1 H1 s σ) (e : H2 = H1) (r : RV K W1 H1 p x) : ∃ W3, Step W1 H1 W3 H2 ∧ RSt K W3 H2 s σ ∧ RV K W3 H2 p x := by
  subst e
  exact ⟨W1, Step.refl _ _, R, r⟩
theorem atRep (st : Vw W H W1 H1) (h : RVs K W H ps vs) {i : Nat} {p : PV} {x : V} (hp : ps[i]? = some p) (hx : vs[i]? = some x) : RV K W1 H1 p x := by
  obtain ⟨v, e, r⟩ := h.get hp
  rw [hx] at e
  cases e
  exact r.mono st.pre st.same
theorem goes_list (hL : a ∉ W.L) (h : H a = some (.lst vs)) (r : RVs K W H ps vs) : Goes K (Itl K a) ps W H := by
  have at_ : ∀ {W1 H1}, Vw W H W1 H1 → SqL K H1 a vs := fun st => SqL.of (msk_some.mp (st.same _ _ (msk_some.mpr ⟨hL, h⟩))).2
  refine ⟨fun W1 H1 i st hi => ?_, fun W1 H1 st => ⟨vs, at_ st, by rw [r.len]; exact Nat.le_refl _⟩, fun W1 H1 i x H2 p s σ st hp R y => ?_⟩
  · have hi' : i < vs.length := by rw [r.len]; exact hi
    exact ⟨vs, vs[i], at_ st, List.getElem?_eq_getElem hi'⟩
  · exact yldP R y.1 (atRep st r hp (y.2 _ (at_ st)))
theorem goes_scr (h : SqL K (W.m H) a vs) (r : RVs K W H ps vs) : Goes K (Itl K a) ps W H := by
  have at_ : ∀ {W1 H1}, Vw W H W1 H1 → SqL K H1 a vs := fun st => sqL_mono (msk_sub _ _) (sqL_mono st.same h)
  refine ⟨fun W1 H1 i st hi => ?_, fun W1 H1 st => ⟨vs, at_ st, by rw [r.len]; exact Nat.le_refl _⟩, fun W1 H1 i x H2 p s σ st hp R y => ?_⟩
  · have hi' : i < vs.length := by rw [r.len]; exact hi
    exact ⟨vs, vs[i], at_ st, List.getElem?_eq_getElem hi'⟩
  · exact yldP R y.1 (atRep st r hp (y.2 _ (at_ st)))
theorem goes_tup (h : SqT K (W.m H) a vs) (r : RVs K W H ps vs) : Goes K (Itt K a) ps W H := by
  have at_ : ∀ {W1 H1}, Vw W H W1 H1 → SqT K H1 a vs := fun st => sqT_mono (msk_sub _ _) (sqT_mono st.same h)
  refine ⟨fun W1 H1 i st hi => ?_, fun W1 H1 st => ⟨vs, at_ st, by rw [r.len]; exact Nat.le_refl _⟩, fun W1 H1 i x H2 p s σ st hp R y => ?_⟩
  · have hi' : i < vs.length := by rw [r.len]; exact hi
    exact ⟨vs, vs[i], at_ st, List.getElem?_eq_getElem hi'⟩
  · exact yldP R y.1 (atRep st r hp (y.2 _ (at_ st)))
def rangeP (lo : Int) (n : Nat) : List PV := (List.range n).map fun (i : Nat) => PV.int (lo + (i : Int))
theorem rangeP_len (lo : Int) (n : Nat) : (rangeP lo n).length = n := by simp [rangeP]
theorem rangeP_get {lo : Int} {n i : Nat} {p : PV} (h : (rangeP lo n)[i]? = some p) : p = .int (lo + (i : Int)) := by
  unfold rangeP at h
  rw [List.getElem?_map] at h
  cases e : (List.range n)[i]? with
  | none => rw [e] at h; cases h
  | some j =>
    rw [e] at h
    have hi := (List.getElem?_eq_some_iff.mp e)
    obtain ⟨hi, e2⟩ := hi
    simp at e2
    subst e2
    exact (Option.some.inj h).symm
theorem goes_range {lo : Int} {n : Nat} : Goes K (Itr lo n) (rangeP lo n) W H := by
  refine ⟨fun W1 H1 i st hi => by rw [rangeP_len] at hi; exact hi, fun W1 H1 st => by rw [rangeP_len]; exact Nat.le_refl _, fun W1 H1 i x H2 p s σ st hp R y => ?_⟩
  obtain ⟨e1, e2⟩ := y
  rw [rangeP_get hp, e2]
  exact yldP R e1 rv_int
/-- a new pair in flight -/
theorem yldPair {H2 : Hp} {s : DS} {σ : L2.St} {x y v : V} {p q : PV} {T : Addr} (R : RSt K W1 H1 s σ) (hT : H1 T = none) (e : H2 = upd H1 T (.tup [x, y])) (ev : v = .ref T) (r : RV K W1 H1 p x) (r' : RV K W1 H1 q y) :
    ∃ W3, Step W1 H1 W3 H2 ∧ RSt K W3 H2 s σ ∧ RV K W3 H2 (.tup false [p, q]) v := by
  subst e ev
  obtain ⟨W2, st, R2, hL⟩ := R.newL hT
  exact ⟨W2, st.trans (Step.alloc hT (R2.nP hT)), R2.alloc hT, new_tup hT hL (reps_cons (st.rv r) (reps_cons (st.rv r') reps_nil))⟩
def enumP : Nat → List PV → List PV
  | _, [] => []
  | i, p :: ps => .tup false [.int (i : Int), p] :: enumP (i + 1) ps
theorem enumP_len : ∀ (i : Nat) (ps : List PV), (enumP i ps).length = ps.length
  | _, [] => rfl
  | i, p :: ps => by simp [enumP, enumP_len (i + 1) ps]
theorem enumP_get : ∀ {i j : Nat} {ps : List PV} {p : PV}, (enumP i ps)[j]? = some p → ∃ q, ps[j]? = some q ∧ p = .tup false [.int ((i + j : Nat) : Int), q]
  | _, _, [], _, h => by simp [enumP] at h
  | i, 0, q :: ps, p, h => by
    simp [enumP] at h
    exact ⟨q, rfl, by rw [← h]; rfl⟩
  | i, j + 1, q :: ps, p, h => by
    simp only [enumP, List.getElem?_cons_succ] at h
    obtain ⟨r, h1, h2⟩ := enumP_get h
    exact ⟨r, by simpa using h1, by rw [h2]; congr 4; omega⟩
theorem goes_enum (hL : a ∉ W.L) (h : H a = some (.lst vs)) (r : RVs K W H ps vs) : Goes K (Ite K a) (enumP 0 ps) W H := by
  have at_ : ∀ {W1 H1}, Vw W H W1 H1 → SqL K H1 a vs := fun st => SqL.of (msk_some.mp (st.same _ _ (msk_some.mpr ⟨hL, h⟩))).2
  refine ⟨fun W1 H1 i st hi => ?_, fun W1 H1 st => ⟨vs, at_ st, by rw [enumP_len, r.len]; exact Nat.le_refl _⟩, fun W1 H1 i x H2 p s σ st hp R y => ?_⟩
  · have hi' : i < vs.length := by rw [enumP_len] at hi; rw [r.len]; exact hi
    exact ⟨vs, vs[i], at_ st, List.getElem?_eq_getElem hi'⟩
  · obtain ⟨T, z, e1, e2, e3, e4⟩ := y
    obtain ⟨q, h1, h2⟩ := enumP_get hp
    rw [h2]
    exact yldPair R e2 e3 e1 (by rw [Nat.zero_add]; exact rv_int) (atRep st r h1 (e4 _ (at_ st)))
def zipP : List PV → List PV → List PV
  | p :: ps, q :: qs => .tup false [p, q] :: zipP ps qs
  | _, _ => []
theorem zipP_len : ∀ (ps qs : List PV), (zipP ps qs).length = min ps.length qs.length
  | [], _ => by simp [zipP]
  | _ :: _, [] => by simp [zipP]
  | p :: ps, q :: qs => by simp [zipP, zipP_len ps qs]
theorem zipP_get : ∀ {j : Nat} {ps qs : List PV} {p : PV}, (zipP ps qs)[j]? = some p → ∃ x y, ps[j]? = some x ∧ qs[j]? = some y ∧ p = .tup false [x, y]
  | _, [], _, _, h => by simp [zipP] at h
  | _, _ :: _, [], _, h => by simp [zipP] at h
  | 0, x :: ps, y :: qs, p, h => by
    simp [zipP] at h
    exact ⟨x, y, rfl, rfl, h.symm⟩
  | j + 1, x :: ps, y :: qs, p, h => by
    simp only [zipP, List.getElem?_cons_succ] at h
    obtain ⟨u, v, h1, h2, h3⟩ := zipP_get h
    exact ⟨u, v, by simpa using h1, by simpa using h2, h3⟩
theorem goes_zipL (hL : a ∉ W.L) (h : H a = some (.lst vs)) (r : RVs K W H ps vs) (hM : b ∉ W.L) (h' : H b = some (.lst ws)) (r' : RVs K W H qs ws) : Goes K (Itz K a b) (zipP ps qs) W H := by
  have at_ : ∀ {W1 H1}, Vw W H W1 H1 → SqL K H1 a vs := fun st => SqL.of (msk_some.mp (st.same _ _ (msk_some.mpr ⟨hL, h⟩))).2
  have bt_ : ∀ {W1 H1}, Vw W H W1 H1 → SqL K H1 b ws := fun st => SqL.of (msk_some.mp (st.same _ _ (msk_some.mpr ⟨hM, h'⟩))).2
  refine ⟨fun W1 H1 i st hi => ?_, fun W1 H1 st => ⟨vs, ws, at_ st, bt_ st, by rw [zipP_len, r.len, r'.len]; omega⟩, fun W1 H1 i x H2 p s σ st hp R y => ?_⟩
  · rw [zipP_len] at hi
    have h1 : i < vs.length := by rw [r.len]; omega
    have h2 : i < ws.length := by rw [r'.len]; omega
    exact ⟨vs, ws, vs[i], ws[i], at_ st, bt_ st, List.getElem?_eq_getElem h1, List.getElem?_eq_getElem h2⟩
  · obtain ⟨T, z, z', e1, e2, e3, e4, e5⟩ := y
    obtain ⟨u, v, h1, h2, h3⟩ := zipP_get hp
    rw [h3]
    exact yldPair R e2 e3 e1 (atRep st r h1 (e4 _ (at_ st))) (atRep st r' h2 (e5 _ (bt_ st)))
theorem goes_zipT (h : SqT K (W.m H) a vs) (r : RVs K W H ps vs) (h' : SqT K (W.m H) b ws) (r' : RVs K W H qs ws) : Goes K (RZ.ItzT K a b) (zipP ps qs) W H := by
  have at_ : ∀ {W1 H1}, Vw W H W1 H1 → SqT K H1 a vs := fun st => sqT_mono (msk_sub _ _) (sqT_mono st.same h)
  have bt_ : ∀ {W1 H1}, Vw W H W1 H1 → SqT K H1 b ws := fun st => sqT_mono (msk_sub _ _) (sqT_mono st.same h')
  refine ⟨fun W1 H1 i st hi => ?_, fun W1 H1 st => ⟨vs, ws, at_ st, bt_ st, by rw [zipP_len, r.len, r'.len]; omega⟩, fun W1 H1 i x H2 p s σ st hp R y => ?_⟩
  · rw [zipP_len] at hi
    have h1 : i < vs.length := by rw [r.len]; omega
    have h2 : i < ws.length := by rw [r'.len]; omega
    exact ⟨vs, ws, vs[i], ws[i], at_ st, bt_ st, List.getElem?_eq_getElem h1, List.getElem?_eq_getElem h2⟩
  · obtain ⟨T, z, z', e1, e2, e3, e4, e5⟩ := y
    obtain ⟨u, v, h1, h2, h3⟩ := zipP_get hp
    rw [h3]
    exact yldPair R e2 e3 e1 (atRep st r h1 (e4 _ (at_ st))) (atRep st r' h2 (e5 _ (bt_ st)))
theorem rvT_m {c : Bool} {v : V} (r : RV K W H (.tup c ps) v) : ∃ a vs, v = .ref a ∧ SqT K (W.m H) a vs ∧ RVs K W H ps vs := rep_tup r
theorem rvS_m {v : V} (r : RV K W H (.scr ps) v) : ∃ a vs, v = .ref a ∧ SqL K (W.m H) a vs ∧ RVs K W H ps vs := by unfold RV Rep at r; exact r
end
section
variable {X : Cx} {Z : WX} {tg e e2 : Expr} {f f2 : EM} {ga : AM} {pos p : Pos}
def seqP (p : PV) (s : DS) : Re (List PV) := match p with
  | .lst ps => .ok ps s
  | .tup _ ps => .ok ps s
  | .scr ps => .ok ps s
  | _ => .bad
def seqI (f : EM) : IM := fun s => (f s).bind seqP
theorem i_seq (h : PX X Z e f) : PIX X Z tg e (seqI f) := by
  refine ⟨PI_imp (PI_or (L2.pi_list h.pe) (L2.pi_tup h.pe)) fun σ H Q ⟨W, s, R, h⟩ => ?_⟩
  unfold seqI at h
  cases e1 : f s with
  | bad => rw [e1] at h; exact h.elim
  | exc x s1 => rw [e1] at h; exact .inl ⟨W, s, R, by rw [e1]; exact h⟩
  | ok p s1 =>
    rw [e1] at h
    cases p with
    | lst ps =>
      refine .inl ⟨W, s, R, ?_⟩
      rw [e1]
      intro v W1 H1 st R1 rv
      obtain ⟨a, vs, rfl, h1, h2, h3⟩ := rv_lst_inv rv
      exact ⟨a, rfl, ⟨vs, SqL.of h2⟩, h _ W1 H1 st R1 (goes_list h1 h2 h3)⟩
    | scr ps =>
      refine .inl ⟨W, s, R, ?_⟩
      rw [e1]
      intro v W1 H1 st R1 rv
      obtain ⟨a, vs, rfl, h1, h3⟩ := rvS_m rv
      exact ⟨a, rfl, ⟨vs, sqL_mono (msk_sub _ _) h1⟩, h _ W1 H1 st R1 (goes_scr h1 h3)⟩
    | tup c ps =>
      refine .inr ⟨W, s, R, ?_⟩
      rw [e1]
      intro v W1 H1 st R1 rv
      obtain ⟨a, vs, rfl, h1, h3⟩ := rvT_m rv
      exact ⟨a, rfl, ⟨vs, sqT_mono (msk_sub _ _) h1⟩, h _ W1 H1 st R1 (goes_tup h1 h3)⟩
    | _ => exact h.elim
def big62 (i : Int) : Bool := decide (-(4611686018427387904) ≤ i ∧ i < 4611686018427387904)
def range1I (f : EM) : IM := fun s => (f s).bind fun p s1 => match p with
  | .int j => if big62 j then .ok (rangeP 0 j.toNat) s1 else .bad
  | _ => .bad
def range2I (f g : EM) : IM := fun s => (f s).bind fun p s1 => (g s1).bind fun q s2 => match p, q with
  | .int i, .int j => if big62 i && big62 j then .ok (rangeP i (j - i).toNat) s2 else .bad
  | _, _ => .bad
theorem i_range1 (hg : Gl X "range") (hm : X.mg "range" = none) (h : PX X Z e f) (hs : starEach [e] X.env = [(false, eval e X.env)] := by rfl) : PIX X Z tg (.Call (.Name "range" p) [e] [] pos) (range1I f) := by
  refine ⟨PI_imp (L2.pi_range1 hg hm (pa_consX h pa_nilX hs).pa hs) fun σ H Q ⟨W, s, R, h⟩ => ⟨W, s, R, ?_⟩⟩
  unfold range1I at h
  unfold consA nilA
  cases e1 : f s with
  | bad => rw [e1] at h; exact h.elim
  | exc x s1 => rw [e1] at h; exact h
  | ok p s1 =>
    rw [e1] at h
    intro vs W1 H1 st R1 rv
    have rv : Reps X.K W1.S (W1.m H1) [p] vs := rv
    unfold Reps at rv
    obtain ⟨v, r, rfl, h1, rv⟩ := rv
    unfold Reps at rv
    subst rv
    cases p with
    | int j =>
      simp only [Re.bind] at h
      by_cases hb : big62 j = true
      · rw [if_pos hb] at h
        have hb := of_decide_eq_true hb
        exact ⟨j, by rw [rv_int_inv h1], by omega, by omega, h _ W1 H1 st R1 goes_range⟩
      · rw [if_neg hb] at h
        exact h.elim
    | _ => exact h.elim
theorem i_range2 (hg : Gl X "range") (hm : X.mg "range" = none) (h : PX X Z e f) (h2 : PX X Z e2 f2) (hs : starEach [e, e2] X.env = [(false, eval e X.env), (false, eval e2 X.env)] := by rfl) (hs2 : starEach [e2] X.env = [(false, eval e2 X.env)] := by rfl) : PIX X Z tg (.Call (.Name "range" p) [e, e2] [] pos) (range2I f f2) := by
  refine ⟨PI_imp (L2.pi_range2 hg hm (pa_consX h (pa_consX h2 pa_nilX hs2) (by rw [hs, hs2])).pa hs hs2) fun σ H Q ⟨W, s, R, h⟩ => ⟨W, s, R, ?_⟩⟩
  unfold range2I at h
  unfold consA nilA
  cases e1 : f s with
  | bad => rw [e1] at h; exact h.elim
  | exc x s1 => rw [e1] at h; exact h
  | ok p s1 =>
    rw [e1] at h
    simp only [Re.bind] at h ⊢
    cases e3 : f2 s1 with
    | bad => rw [e3] at h; exact h.elim
    | exc x s2 => rw [e3] at h; exact h
    | ok q s2 =>
      rw [e3] at h
      intro vs W1 H1 st R1 rv
      have rv : Reps X.K W1.S (W1.m H1) [p, q] vs := rv
      unfold Reps at rv
      obtain ⟨v, r, rfl, h1, rv⟩ := rv
      unfold Reps at rv
      obtain ⟨v', r', rfl, h1', rv⟩ := rv
      unfold Reps at rv
      subst rv
      cases p with
      | int i =>
        cases q with
        | int j =>
          simp only at h
          by_cases hb : (big62 i && big62 j) = true
          · rw [if_pos hb] at h
            rw [Bool.and_eq_true] at hb
            have hb1 := of_decide_eq_true hb.1
            have hb2 := of_decide_eq_true hb.2
            exact ⟨i, j, by rw [rv_int_inv h1, rv_int_inv h1'], ⟨by omega, by omega, by omega, by omega⟩, h _ W1 H1 st R1 goes_range⟩
          · rw [if_neg hb] at h
            exact h.elim
        | _ => exact h.elim
      | _ => exact h.elim
def enumI (f : EM) : IM := fun s => (f s).bind fun p s1 => match p with
  | .lst ps => .ok (enumP 0 ps) s1
  | _ => .bad
theorem i_enum {elts : List Expr} {kk : Nat} {tpos : Pos} (hg : Gl X "enumerate") (hm : X.mg "enumerate" = none) (h : PX X Z e f) (hs : starEach [e] X.env = [(false, eval e X.env)] := by rfl) : PIX X Z (.Tuple elts kk tpos) (.Call (.Name "enumerate" p) [e] [] pos) (enumI f) := by
  refine ⟨PI_imp (L2.pi_enum hg hm (pa_consX h pa_nilX hs).pa hs) fun σ H Q ⟨W, s, R, h⟩ => ⟨W, s, R, ?_⟩⟩
  unfold enumI at h
  unfold consA nilA
  cases e1 : f s with
  | bad => rw [e1] at h; exact h.elim
  | exc x s1 => rw [e1] at h; exact h
  | ok p s1 =>
    rw [e1] at h
    intro vs W1 H1 st R1 rv
    have rv : Reps X.K W1.S (W1.m H1) [p] vs := rv
    unfold Reps at rv
    obtain ⟨v, r, rfl, h1, rv⟩ := rv
    unfold Reps at rv
    subst rv
    cases p with
    | lst ps =>
      obtain ⟨a, vs, rfl, g1, g2, g3⟩ := rv_lst_inv h1
      exact ⟨a, vs, rfl, SqL.of g2, h _ W1 H1 st R1 (goes_enum g1 g2 g3)⟩
    | _ => exact h.elim
def zipI (f g : EM) : IM := fun s => (f s).bind fun p s1 => (g s1).bind fun q s2 => match p, q with
  | .lst ps, .lst qs => .ok (zipP ps qs) s2
  | .tup _ ps, .tup _ qs => .ok (zipP ps qs) s2
  | _, _ => .bad
theorem i_zip {elts : List Expr} {kk : Nat} {tpos : Pos} (hg : Gl X "zip") (hm : X.mg "zip" = none) (h : PX X Z e f) (h2 : PX X Z e2 f2) (hs : starEach [e, e2] X.env = (false, eval e X.env) :: starEach [e2] X.env := by rfl) (hs2 : starEach [e2] X.env = (false, eval e2 X.env) :: starEach [] X.env := by rfl)
    (hpl : (backTo pos (starEach [e2] X.env)).any (·.1) = false := by rfl) : PIX X Z (.Tuple elts kk tpos) (.Call (.Name "zip" p) [e, e2] [] pos) (zipI f f2) := by
  refine ⟨PI_imp (RZ.pi_zipA hg hm (pa_consX h (pa_consX h2 pa_nilX hs2) hs).pa hs hpl) fun σ H Q ⟨W, s, R, h⟩ => ⟨W, s, R, ?_⟩⟩
  unfold zipI at h
  unfold consA nilA
  cases e1 : f s with
  | bad => rw [e1] at h; exact h.elim
  | exc x s1 => rw [e1] at h; exact h
  | ok p s1 =>
    rw [e1] at h
    simp only [Re.bind] at h ⊢
    cases e3 : f2 s1 with
    | bad => rw [e3] at h; exact h.elim
    | exc x s2 => rw [e3] at h; exact h
    | ok q s2 =>
      rw [e3] at h
      intro vs W1 H1 st R1 rv
      have rv : Reps X.K W1.S (W1.m H1) [p, q] vs := rv
      unfold Reps at rv
      obtain ⟨v, r, rfl, h1, rv⟩ := rv
      unfold Reps at rv
      obtain ⟨v', r', rfl, h1', rv⟩ := rv
      unfold Reps at rv
      subst rv
      cases p with
      | lst ps =>
        cases q with
        | lst qs =>
          obtain ⟨a, vs, rfl, g1, g2, g3⟩ := rv_lst_inv h1
          obtain ⟨b, ws, rfl, k1, k2, k3⟩ := rv_lst_inv h1'
          exact ⟨a, b, vs, ws, rfl, .inl ⟨SqL.of g2, SqL.of k2, h _ W1 H1 st R1 (goes_zipL g1 g2 g3 k1 k2 k3)⟩⟩
        | _ => exact h.elim
      | tup c ps =>
        cases q with
        | tup c' qs =>
          obtain ⟨a, vs, rfl, g1, g2⟩ := rvT_m h1
          obtain ⟨b, ws, rfl, k1, k2⟩ := rvT_m h1'
          exact ⟨a, b, vs, ws, rfl, .inr ⟨sqT_mono (msk_sub _ _) g1, sqT_mono (msk_sub _ _) k1, h _ W1 H1 st R1 (goes_zipT g1 g2 k1 k2)⟩⟩
        | _ => exact h.elim
      | _ => exact h.elim
/-! ### list comprehensions -/
def Z0 : WX := fun _ _ _ _ => False
def noX {α : Type} (r : Re α) : Re α := match r with
  | .exc _ _ => .bad
  | r => r
def wipeE : List Nat → DE → DE
  | [], e => e
  | v :: vs, e => (wipeE vs e).set v .no
def rest1 (sl : Sl) : Sl := match sl with
  | .val p => .val p
  | _ => .no
def restE : List Nat → DE → DE → DE
  | [], _, e => e
  | v :: vs, e0, e => (restE vs e0 e).set v (rest1 (e0.getD v .no))
def lcL (t : Tg) (tt : TM) (f : EM) (vs : List Nat) : List PV → List PV → DS → Re (List PV)
  | [], acc, s => .ok acc s
  | p :: ps, acc, s => match asgT t p (wipeE vs s.e) with
    | none => .bad
    | some e' => (tt ⟨e', s.t⟩).bind fun b s1 => if b = true then (f s1).bind fun y s2 => if acc.length < sizeLine then lcL t tt f vs ps (acc ++ [y]) s2 else .bad
      else lcL t tt f vs ps acc s1
def lcO (it : IM) (t : Tg) (tt : TM) (f : EM) (vs : List Nat) : OM := fun s => (it s).bind fun ps s1 => (noX (lcL t tt f vs ps [] s1)).bind fun acc s2 => .ok (.lst acc, true) ⟨restE vs s1.e s2.e, s2.t⟩
theorem wipeE_get (e : DE) (j : Nat) : ∀ vs : List Nat, (wipeE vs e)[j]? = if j ∈ vs then e[j]?.map (fun _ => Sl.no) else e[j]?
  | [] => by simp [wipeE]
  | v :: vs => by
    have hl : ∀ vs : List Nat, (wipeE vs e).length = e.length := fun vs => by
      induction vs with
      | nil => rfl
      | cons a b ih => simp [wipeE, ih]
    unfold wipeE
    by_cases h : v = j
    · subst h
      rw [if_pos List.mem_cons_self]
      by_cases hv : v < e.length
      · rw [List.getElem?_set_self (by rw [hl]; exact hv), List.getElem?_eq_getElem hv]
        rfl
      · rw [List.getElem?_eq_none (by rw [List.length_set, hl]; omega), List.getElem?_eq_none (by omega)]
        rfl
    · rw [List.getElem?_set_ne h, wipeE_get e j vs]
      by_cases hj : j ∈ vs
      · rw [if_pos hj, if_pos (List.mem_cons_of_mem _ hj)]
      · rw [if_neg hj, if_neg (by simp [hj, Ne.symm h])]
theorem wipeE_len (e : DE) : ∀ vs : List Nat, (wipeE vs e).length = e.length
  | [] => rfl
  | v :: vs => by simp [wipeE, wipeE_len e vs]
theorem restE_len (e0 e : DE) : ∀ vs : List Nat, (restE vs e0 e).length = e.length
  | [] => rfl
  | v :: vs => by simp [restE, restE_len e0 e vs]
theorem restE_get (e0 e : DE) (j : Nat) : ∀ vs : List Nat, (restE vs e0 e)[j]? = if j ∈ vs then e[j]?.map (fun _ => rest1 (e0.getD j .no)) else e[j]?
  | [] => by simp [restE]
  | v :: vs => by
    unfold restE
    by_cases h : v = j
    · subst h
      rw [if_pos List.mem_cons_self]
      by_cases hv : v < e.length
      · rw [List.getElem?_set_self (by rw [restE_len]; exact hv), List.getElem?_eq_getElem hv]
        rfl
      · rw [List.getElem?_eq_none (by rw [List.length_set, restE_len]; omega), List.getElem?_eq_none (by omega)]
        rfl
    · rw [List.getElem?_set_ne h, restE_get e0 e j vs]
      by_cases hj : j ∈ vs
      · rw [if_pos hj, if_pos (List.mem_cons_of_mem _ hj)]
      · rw [if_neg hj, if_neg (by simp [hj, Ne.symm h])]
section
variable {K : PySem.W.Frag} {W W1 W2 : Wd} {H H1 H2 : Hp} {s s1 : DS} {σ : L2.St}
theorem RSt.wipe (R : RSt K W H s σ) (vs : List Nat) : RSt K W H ⟨wipeE vs s.e, s.t⟩ (wipe σ vs) := by
  have get : ∀ {j : Nat} {sl : Sl}, (wipeE vs s.e)[j]? = some sl → sl ≠ .no → j ∉ vs ∧ s.e[j]? = some sl := fun {j sl} h hn => by
    rw [wipeE_get] at h
    split at h
    · cases e : s.e[j]? with
      | none => rw [e] at h; cases h
      | some z => rw [e] at h; exact absurd (Option.some.inj h).symm hn
    · rename_i hj
      exact ⟨hj, h⟩
  have at_ : ∀ {j : Nat}, j ∉ vs → (L2.wipe σ vs)[j]? = σ[j]? := fun {j} h => by rw [wipe_get, if_neg h]
  refine ⟨⟨by rw [wipeE_len, wipe_length]; exact R.e.len, fun i p h => ?_, fun i p h => ?_, fun i j p q a h1 h2 h3 h4 => ?_⟩, R.t⟩
  · obtain ⟨n, e⟩ := get h (by simp)
    rw [at_ n]
    exact R.e.at_ i p e
  · obtain ⟨n, e⟩ := get h (by simp)
    rw [at_ n]
    exact R.e.ow i p e
  · obtain ⟨n1, e1⟩ := get h1 (by simp)
    obtain ⟨n2, e2⟩ := get h2 (by simp)
    rw [at_ n1] at h3
    rw [at_ n2] at h4
    exact R.e.inj i j p q a e1 e2 h3 h4
theorem Wd.m_upd {D : Addr} {o : HO} (h : D ∈ W.L) : W.m (upd H D o) = W.m H := by
  funext b
  unfold Wd.m msk
  split
  · rfl
  · rename_i hb
    exact upd_ne fun z => hb (z ▸ h)
/-- what the code around keeps is changed by it -/
theorem RSt.poke (R : RSt K W H s σ) {D : Addr} {o : HO} (h : D ∈ W.P) (hn : ∀ vs, o ≠ .tup vs := by intro _ z; cases z) : RSt K W (upd H D o) s σ := by
  have hL : D ∈ W.L := by simp [Wd.L, h]
  have con : ∀ {p : PV} {a : Addr}, a ≠ D → Con K W H p a → Con K W (upd H D o) p a := fun {p a} hn c => by
    unfold Con at c ⊢
    cases p <;> simp only [Wd.m_upd hL, upd_ne hn] <;> exact c
  refine ⟨⟨R.e.len, fun i p e => ?_, fun i p e => ?_, R.e.inj⟩, ⟨R.t.len, fun k p a e1 e2 => con (fun z => R.t.ps a (List.mem_of_getElem? e2) (z ▸ h)) (R.t.at_ k p a e1 e2), R.t.nd, R.t.ap, fun a ha => ?_, R.t.pa, R.t.ps, fun a ha => let ⟨u, hu⟩ := R.t.ot a ha; ⟨u, by rw [upd_ne (show a ≠ D from fun z => R.t.pa a ha (z ▸ h))]; exact hu⟩⟩⟩
  · obtain ⟨v, e1, r⟩ := R.e.at_ i p e
    refine ⟨v, e1, ?_⟩
    show Rep K W.S (W.m (upd H D o)) p v
    rw [Wd.m_upd hL]
    exact r
  · obtain ⟨a, e1, e2, c⟩ := R.e.ow i p e
    exact ⟨a, e1, e2, con (fun z => R.t.pa a e2 (z ▸ h)) c⟩
  · by_cases z : a = D
    · rw [z]; exact ⟨_, upd_same, hn⟩
    · obtain ⟨w, hw⟩ := R.t.pt a ha
      exact ⟨w, by rw [upd_ne z]; exact hw⟩
/-- the world with D kept -/
def Wd.keep (W : Wd) (D : Addr) : Wd := ⟨W.O, W.S, D :: W.P⟩
/-- the world with what the code around keeps as it was at W0 -/
def Wd.un (W W0 : Wd) : Wd := ⟨W.O, W.S, W0.P⟩
theorem RSt.keep (R : RSt K W H s σ) {D : Addr} {o : HO} (hD : H D = none) (hO : D ∉ W.O) (hn : ∀ vs, o ≠ .tup vs := by intro _ z; cases z) : RSt K (W.keep D) (upd H D o) s σ ∧ Vw W H (W.keep D) (upd H D o) := by
  have vw : Vw W H (W.keep D) (upd H D o) := by
    refine ⟨fun b u e => ?_, Pre.refl _⟩
    obtain ⟨h1, h2⟩ := msk_some.mp e
    have n := ne_of_none h2 hD
    obtain ⟨a1, a2, a3⟩ := Wd.notL.mp h1
    exact msk_some.mpr ⟨Wd.notL.mpr ⟨a1, a2, fun z => (List.mem_cons.mp z).elim n a3⟩, by rw [upd_ne n]; exact h2⟩
  have con : ∀ {p : PV} {a : Addr}, Con K W H p a → Con K (W.keep D) (upd H D o) p a := fun {p a} c => by
    obtain ⟨u, hu⟩ := c.there
    have n := ne_of_none hu hD
    unfold Con at c ⊢
    cases p with
    | lst ps => obtain ⟨vs, h1, h2⟩ := c; exact ⟨vs, by rw [upd_ne n]; exact h1, h2.mono vw.pre vw.same⟩
    | dK ps => obtain ⟨vs, h1, h2⟩ := c; exact ⟨vs, by rw [upd_ne n]; exact h1, h2.mono vw.pre vw.same⟩
    | dT ps => obtain ⟨vs, h1, h2⟩ := c; exact ⟨vs, by rw [upd_ne n]; exact h1, h2.mono vw.pre vw.same⟩
    | ins C ps => obtain ⟨dx, vs, h1, h2⟩ := c; exact ⟨dx, vs, by rw [upd_ne n]; exact h1, h2.mono vw.pre vw.same⟩
    | tab P q => obtain ⟨h0, ps, h1, h2⟩ := c; exact ⟨h0, ps, by rw [upd_ne n]; exact h1, h2.mono vw.same⟩
    | _ => exact c.elim
  refine ⟨⟨⟨R.e.len, fun i p e => ?_, fun i p e => ?_, R.e.inj⟩, ⟨R.t.len, fun k p a e1 e2 => con (R.t.at_ k p a e1 e2), R.t.nd, R.t.ap, fun a ha => ?_, fun a ha z => ?_, fun a ha z => ?_, fun a ha => let ⟨u, hu⟩ := R.t.ot a ha; ⟨u, by rw [upd_ne (ne_of_none hu.1 hD)]; exact hu⟩⟩⟩, vw⟩
  · obtain ⟨v, e1, r⟩ := R.e.at_ i p e
    exact ⟨v, e1, r.mono vw.pre vw.same⟩
  · obtain ⟨a, e1, e2, c⟩ := R.e.ow i p e
    exact ⟨a, e1, e2, con c⟩
  · rcases List.mem_cons.mp ha with z | z
    · rw [z]; exact ⟨_, upd_same, hn⟩
    · obtain ⟨u, hu⟩ := R.t.pt a z
      exact ⟨u, by rw [upd_ne (ne_of_none hu.1 hD)]; exact hu⟩
  · rcases List.mem_cons.mp z with z | z
    · rw [z] at ha
      exact hO ha
    · exact R.t.pa a ha z
  · rcases List.mem_cons.mp z with z | z
    · rw [z] at ha
      exact R.nS hD ha
    · exact R.t.ps a ha z
/-- from the start W1, H1 of a comprehension: how a turn's state lies, its list at D -/
structure LSt (W1 : Wd) (H1 : Hp) (D : Addr) (W2 : Wd) (H2 : Hp) : Prop where
  st : Step W1 H1 (W2.un W1) H2
  P : W2.P = D :: W1.P
  fr : H1 D = none
  nP : D ∉ W1.P
theorem LSt.vw {D : Addr} (l : LSt W1 H1 D W2 H2) : Vw W1 H1 W2 H2 := by
  refine ⟨fun b u e => ?_, l.st.pre⟩
  have n : b ≠ D := ne_of_none (msk_some.mp e).2 l.fr
  obtain ⟨h1, h2⟩ := msk_some.mp (l.st.same b u e)
  obtain ⟨a1, a2, a3⟩ := Wd.notL.mp h1
  exact msk_some.mpr ⟨Wd.notL.mpr ⟨a1, a2, by rw [l.P]; exact fun z => (List.mem_cons.mp z).elim n a3⟩, h2⟩
theorem LSt.step {D : Addr} {W3 : Wd} {H3 : Hp} (l : LSt W1 H1 D W2 H2) (s : Step W2 H2 W3 H3) : LSt W1 H1 D W3 H3 := by
  have vw := l.vw.trans s.vw
  have hP : W3.P = D :: W1.P := s.prv.trans l.P
  refine ⟨⟨fun b u e => ?_, fun b h => l.st.there b (s.there b h), fun b h => (s.new b h).elim (l.st.new b) fun z => .inr (l.st.there b z), vw.pre, fun b h => ?_, rfl, fun b h => ?_⟩, hP, l.fr, l.nP⟩
  · obtain ⟨h1, h2⟩ := msk_some.mp (vw.same b u e)
    obtain ⟨a1, a2, a3⟩ := Wd.notL.mp h1
    exact msk_some.mpr ⟨Wd.notL.mpr ⟨a1, a2, fun z => a3 (by rw [hP]; exact List.mem_cons_of_mem _ z)⟩, h2⟩
  · rcases s.sto b h with z | z | z
    · exact l.st.sto b z
    · exact .inr (l.st.new b z)
    · exact .inr (.inr (l.st.there b z))
  · exact (s.pk b (by rw [l.P]; exact List.mem_cons_of_mem _ h)).trans (l.st.pk b h)
theorem LSt.poke {D : Addr} {o : HO} (l : LSt W1 H1 D W2 H2) : LSt W1 H1 D W2 (upd H2 D o) := by
  refine ⟨⟨fun b u e => ?_, fun b h => ?_, l.st.new, l.st.pre, l.st.sto, rfl, fun b h => ?_⟩, l.P, l.fr, l.nP⟩
  · obtain ⟨h1, h2⟩ := msk_some.mp (l.st.same b u e)
    exact msk_some.mpr ⟨h1, by rw [upd_ne (ne_of_none (msk_some.mp e).2 l.fr)]; exact h2⟩
  · by_cases z : b = D
    · rw [z]; exact l.fr
    · rw [upd_ne z] at h
      exact l.st.there b h
  · have n : b ≠ D := fun z => l.nP (z ▸ h)
    rw [upd_ne n]
    exact l.st.pk b h
theorem LSt.start {D : Addr} {o : HO} (hD : H1 D = none) (hP : D ∉ W1.P) : LSt W1 H1 D (W1.keep D) (upd H1 D o) := by
  refine ⟨?_, rfl, hD, hP⟩
  exact Step.alloc hD hP
/-- the end: the list is owned -/
theorem LSt.fin {D : Addr} (l : LSt W1 H1 D W2 H2) : Step W1 H1 ⟨D :: W2.O, W2.S, W1.P⟩ H2 := by
  refine ⟨fun b u e => ?_, l.st.there, fun b h => ?_, l.st.pre, l.st.sto, rfl, l.st.pk⟩
  · have n : b ≠ D := ne_of_none (msk_some.mp e).2 l.fr
    obtain ⟨h1, h2⟩ := msk_some.mp (l.st.same b u e)
    obtain ⟨a1, a2, a3⟩ := Wd.notL.mp h1
    exact msk_some.mpr ⟨Wd.notL.mpr ⟨fun z => (List.mem_cons.mp z).elim n a1, a2, a3⟩, h2⟩
  · rcases List.mem_cons.mp h with z | z
    · rw [z]; exact .inr l.fr
    · exact l.st.new b z
theorem LSt.fin_m {D : Addr} (l : LSt W1 H1 D W2 H2) : Wd.m ⟨D :: W2.O, W2.S, W1.P⟩ H2 = W2.m H2 := by
  funext b
  unfold Wd.m msk
  have e : b ∈ Wd.L ⟨D :: W2.O, W2.S, W1.P⟩ ↔ b ∈ W2.L := by
    simp only [Wd.L, l.P, List.mem_append, List.mem_cons]
    constructor
    · rintro ((h | h) | h | h) <;> simp [h]
    · rintro (h | h | h | h) <;> simp [h]
  by_cases h : b ∈ W2.L
  · rw [if_pos h, if_pos (e.mpr h)]
  · rw [if_neg h, if_neg (fun z => h (e.mp z))]
theorem LSt.fin_R {D : Addr} {vs : List Nat} {e0 : DE} (l : LSt W1 H1 D W2 H2) (hD : Th H2 D) (R1 : RE K W1 H1 e0 σ) (R : RSt K W2 H2 ⟨wipeE vs s.e, s.t⟩ (L2.wipe σ vs)) : RSt K ⟨D :: W2.O, W2.S, W1.P⟩ H2 ⟨restE vs e0 s.e, s.t⟩ σ := by
  have hm := l.fin_m
  have con : ∀ {p : PV} {a : Addr}, Con K W2 H2 p a → Con K ⟨D :: W2.O, W2.S, W1.P⟩ H2 p a := fun {p a} c => by
    unfold Con at c ⊢
    rw [hm]
    exact c
  have stf := l.fin
  have len : s.e.length = σ.length := by
    have := R.e.len
    rw [wipeE_len, wipe_length] at this
    exact this
  have out : ∀ {j : Nat}, j ∉ vs → (wipeE vs s.e)[j]? = s.e[j]? ∧ (L2.wipe σ vs)[j]? = σ[j]? := fun {j} h => ⟨by rw [wipeE_get, if_neg h], by rw [wipe_get, if_neg h]⟩
  have get : ∀ {j : Nat} {p : PV}, (restE vs e0 s.e)[j]? = some (.own p) → j ∉ vs ∧ s.e[j]? = some (.own p) := fun {j p} h => by
    rw [restE_get] at h
    split at h
    · cases e : s.e[j]? with
      | none => rw [e] at h; cases h
      | some z =>
        rw [e] at h
        have h := Option.some.inj h
        unfold rest1 at h
        split at h <;> cases h
    · rename_i hj
      exact ⟨hj, h⟩
  refine ⟨⟨by rw [restE_len]; exact len, fun j p h => ?_, fun j p h => ?_, fun i j p q a h1 h2 h3 h4 => ?_⟩, ⟨R.t.len, fun k p a e1 e2 => con (R.t.at_ k p a e1 e2), R.t.nd, fun a ha => ?_, fun a ha => ?_, fun a ha z => ?_, fun a ha z => R.t.ps a ha (by rw [l.P]; exact List.mem_cons_of_mem _ z), fun a ha => (List.mem_cons.mp ha).elim (fun z => z ▸ hD) (R.t.ot a)⟩⟩
  · by_cases hj : j ∈ vs
    · rw [restE_get, if_pos hj] at h
      cases e : s.e[j]? with
      | none => rw [e] at h; cases h
      | some z =>
        rw [e] at h
        have h := Option.some.inj h
        unfold rest1 at h
        split at h
        · rename_i q hq
          have hq2 : e0[j]? = some (.val q) := by
            have : j < e0.length := by
              rw [R1.len, ← len]
              exact (List.getElem?_eq_some_iff.mp e).1
            rw [List.getD_eq_getElem?_getD, List.getElem?_eq_getElem this] at hq
            rw [List.getElem?_eq_getElem this]
            exact congrArg some hq
          cases h
          obtain ⟨v, e1, r⟩ := R1.at_ j _ hq2
          exact ⟨v, e1, stf.rv r⟩
        · cases h
    · obtain ⟨e1, e2⟩ := out hj
      rw [restE_get, if_neg hj, ← e1] at h
      obtain ⟨v, h1, h2⟩ := R.e.at_ j p h
      rw [e2] at h1
      refine ⟨v, h1, ?_⟩
      show Rep K W2.S (Wd.m ⟨D :: W2.O, W2.S, W1.P⟩ H2) p v
      rw [hm]
      exact h2
  · obtain ⟨hj, h⟩ := get h
    obtain ⟨e1, e2⟩ := out hj
    obtain ⟨a, h1, h2, h3⟩ := R.e.ow j p (e1.trans h)
    rw [e2] at h1
    exact ⟨a, h1, List.mem_cons_of_mem _ h2, con h3⟩
  · obtain ⟨hi, g1⟩ := get h1
    obtain ⟨hj, g2⟩ := get h2
    obtain ⟨u1, u2⟩ := out hi
    obtain ⟨w1, w2⟩ := out hj
    exact R.e.inj i j p q a (u1.trans g1) (w1.trans g2) (u2.trans h3) (w2.trans h4)
  · rcases List.mem_cons.mp ha with z | z
    · rw [z]
      intro y
      exact R.t.ps D y (by rw [l.P]; exact List.mem_cons_self)
    · exact R.t.ap a z
  · obtain ⟨o, ho⟩ := R.t.pt a (by rw [l.P]; exact List.mem_cons_of_mem _ ha)
    exact ⟨o, ho⟩
  · rcases List.mem_cons.mp ha with y | y
    · rw [y] at z
      exact l.nP z
    · exact R.t.pa a y (by rw [l.P]; exact List.mem_cons_of_mem _ z)
theorem rvs_poke {D : Addr} {o : HO} {ps : List PV} {vs : List V} (h : D ∈ W.P) (r : RVs K W H ps vs) : RVs K W (upd H D o) ps vs := by
  show Reps K W.S (W.m (upd H D o)) ps vs
  rw [Wd.m_upd (by simp [Wd.L, h])]
  exact r
end
variable {it : IM} {t : Tg} {tt : TM} {vs : List Nat}
theorem lcL_cons (p : PV) (ps acc : List PV) (s : DS) : lcL t tt f vs (p :: ps) acc s = match asgT t p (wipeE vs s.e) with
    | none => .bad
    | some e' => (tt ⟨e', s.t⟩).bind fun b s1 => if b = true then (f s1).bind fun y s2 => if acc.length < sizeLine then lcL t tt f vs ps (acc ++ [y]) s2 else .bad
      else lcL t tt f vs ps acc s1 := rfl
theorem wipe_wipe (σ : L2.St) : L2.wipe (L2.wipe σ vs) vs = L2.wipe σ vs := by
  refine List.ext_getElem? fun j => ?_
  rw [wipe_get, wipe_get]
  split
  · cases σ[j]? <;> rfl
  · rfl
theorem restE_own {e0 e : DE} {j : Nat} {p : PV} (h : (restE vs e0 e)[j]? = some (.own p)) : j ∉ vs ∧ e[j]? = some (.own p) := by
  rw [restE_get] at h
  split at h
  · cases e1 : e[j]? with
    | none => rw [e1] at h; cases h
    | some z =>
      rw [e1] at h
      have h := Option.some.inj h
      unfold rest1 at h
      split at h <;> cases h
  · rename_i hj
    exact ⟨hj, h⟩
theorem tLc_of {Q : VK} {σ : L2.St} {H : Hp} {K : PySem.W.Frag} (ht : tgIn t vs = true) (h : tO K Z (lcO it t tt f vs) σ H Q) : tLc (tI K Z it) (gX K t) (tT K Z0 tt) (tE K Z0 f) vs σ H Q := by
  obtain ⟨W, s, R, h⟩ := h
  refine ⟨W, s, R, Post.bind h fun ps s1 J W1 H1 _ st0 R1 G q D hD => ?_⟩
  have G : Goes K J ps W1 H1 := G
  obtain ⟨W1', stN, R1', hL⟩ := R1.newL hD
  obtain ⟨nO, nS, nP⟩ := Wd.notL.mp hL
  have q := Post.step q stN
  obtain ⟨Rk, vk⟩ := R1'.keep (o := .lst []) hD nO
  refine ⟨fun i m H2 => m = ps.length - i ∧ i ≤ ps.length ∧ ∃ W2 s2 acc av, LSt W1' H1 D W2 H2 ∧ RSt K W2 H2 ⟨wipeE vs s2.e, s2.t⟩ (L2.wipe σ vs) ∧ H2 D = some (.lst av) ∧ RVs K W2 H2 acc av ∧ lcL t tt f vs ps [] s1 = lcL t tt f vs (ps.drop i) acc s2,
    ⟨ps.length, by simp, Nat.zero_le _, W1'.keep D, s1, [], [], LSt.start hD nP, Rk.wipe vs, upd_same, reps_nil, rfl⟩, ?_⟩
  rintro i m H2 ⟨rfl, hi, W2, s2, acc, av, l, R2, hA, rA, eq⟩
  have vw : Vw W1 H1 W2 H2 := stN.vw.trans l.vw
  by_cases hlt : i < ps.length
  · refine .inr ⟨G.go W2 H2 i vw hlt, fun H2 => i + 1 ≤ ps.length ∧ ∃ W2 s2 acc av, LSt W1' H1 D W2 H2 ∧ RSt K W2 H2 ⟨wipeE vs s2.e, s2.t⟩ (L2.wipe σ vs) ∧ H2 D = some (.lst av) ∧ RVs K W2 H2 acc av ∧ lcL t tt f vs ps [] s1 = lcL t tt f vs (ps.drop (i + 1)) acc s2, fun H' z => ⟨ps.length - (i + 1), by omega, rfl, z⟩, fun x H3 y => ?_⟩
    obtain ⟨W3, st3, R3, rv⟩ := G.yld W2 H2 i x H3 ps[i] ⟨wipeE vs s2.e, s2.t⟩ (L2.wipe σ vs) vw (List.getElem?_eq_getElem hlt) R2 y
    have l3 := l.step st3
    have eq2 := eq
    rw [List.drop_eq_getElem_cons hlt, lcL_cons] at eq2
    -- the result is no failure
    have good : ∀ {P : Prop}, (lcL t tt f vs ps [] s1 = .bad ∨ ∃ x s', lcL t tt f vs ps [] s1 = .exc x s') → P := fun {P} z => by
      rcases z with z | ⟨x, s', z⟩ <;> (rw [z] at q; exact q.elim)
    cases e1 : asgT t ps[i] (wipeE vs s2.e) with
    | none => simp only [e1] at eq2; exact good (.inl eq2)
    | some e2 =>
      simp only [e1] at eq2
      refine ⟨W3, ⟨wipeE vs s2.e, s2.t⟩, ps[i], R3, rv, e2, e1, fun σ4 hw R4 => ⟨(hw vs ht).trans (wipe_wipe σ), W3, ⟨e2, s2.t⟩, R4, ?_⟩⟩
      have hw4 : L2.wipe σ4 vs = L2.wipe σ vs := (hw vs ht).trans (wipe_wipe σ)
      have inP : ∀ {W' : Wd}, W'.P = D :: W1'.P → D ∈ W'.P := fun z => by rw [z]; exact List.mem_cons_self
      cases e3 : tt ⟨e2, s2.t⟩ with
      | bad => rw [e3] at eq2; exact good (.inl eq2)
      | exc x s3 => rw [e3] at eq2; exact good (.inr ⟨x, s3, eq2⟩)
      | ok b s3 =>
        rw [e3] at eq2
        simp only [Re.bind] at eq2
        intro c W4 H4 st4 R5 rc
        obtain rfl : c = b := rc
        have l4 := l3.step st4
        have hA4 : H4 D = some (.lst av) := by
          rw [st4.pk D (inP l3.P), st3.pk D (inP l.P)]
          exact hA
        cases c with
        | false =>
          rw [if_neg (by decide)] at eq2 ⊢
          exact ⟨hlt, W4, s3, acc, av, l4, by rw [← hw4]; exact R5.wipe vs, hA4, (st3.trans st4).rvs rA, eq2⟩
        | true =>
          rw [if_pos rfl] at eq2 ⊢
          refine ⟨W4, s3, R5, ?_⟩
          cases e4 : f s3 with
          | bad => rw [e4] at eq2; exact good (.inl eq2)
          | exc x s4 => rw [e4] at eq2; exact good (.inr ⟨x, s4, eq2⟩)
          | ok y s4 =>
            rw [e4] at eq2
            simp only at eq2
            intro v W5 H5 st5 R6 rv5
            have l5 := l4.step st5
            have hA5 : H5 D = some (.lst av) := by
              rw [st5.pk D (inP l4.P)]
              exact hA4
            by_cases hz : acc.length < sizeLine
            · rw [if_pos hz] at eq2
              exact ⟨av, hA5, by rw [rA.len]; exact hz, hlt, W5, s4, acc ++ [y], av ++ [v], l5.poke, by rw [← hw4]; exact (R6.wipe vs).poke (inP l5.P), upd_same,
                rvs_poke (inP l5.P) ((((st3.trans st4).trans st5).rvs rA).app (reps_cons rv5 reps_nil)), eq2⟩
            · rw [if_neg hz] at eq2
              exact good (.inl eq2)
  · have e : i = ps.length := by omega
    subst e
    rw [List.drop_length] at eq
    refine .inl ⟨G.stop W2 H2 vw, ?_⟩
    rw [eq] at q
    refine q (.ref D) ⟨D :: W2.O, W2.S, W1'.P⟩ H2 l.fin (l.fin_R ⟨_, hA, fun _ z => nomatch z⟩ R1'.e R2) ⟨D, rfl, List.mem_cons_self, ?_, fun j p hj z => ?_⟩
    · refine ⟨av, hA, ?_⟩
      show Reps K W2.S (Wd.m ⟨D :: W2.O, W2.S, W1'.P⟩ H2) acc av
      rw [l.fin_m]
      exact rA
    · obtain ⟨hj, hj2⟩ := restE_own hj
      obtain ⟨a, g1, g2, _⟩ := R2.e.ow j p (by rw [wipeE_get, if_neg hj]; exact hj2)
      rw [wipe_get, if_neg hj] at g1
      rw [g1] at z
      have za : a = D := by injection z with z; injection z with z; injection z
      exact R2.t.pa a g2 (by rw [l.P, za]; exact List.mem_cons_self)
structure PTsX (X : Cx) (ifs : List Expr) (f : TM) : Prop where
  pts : PTs X ifs (tT X.K Z0 f)
def yesT : TM := fun s => .ok true s
theorem t_nil : PTsX X [] yesT := ⟨⟨fun pins s σ H Q I ⟨W, s1, R, h⟩ => L2.pts_nil.run pins s σ H Q I (h true W H (Step.refl _ _) R rfl)⟩⟩
theorem t_one {c : Expr} (h : PTX X Z0 c tt) : PTsX X [c] tt := ⟨L2.pts_one h.pt⟩
/-- the block of a comprehension, wherever it starts -/
def Blk (X : Cx) (scope : Scope) (C : Cx → Prop) : Prop := ∀ (s : Shared) (H : Hp) (L : Addr) (cl : List (Str × Addr)) (fp : List Addr), C (X.blk s H scope (compEnvC scope cl L X.env) fp)
theorem po_lc {elt tgt iter : Expr} {ifs : List Expr} {scope : Scope} {own : List (Str × Nat)} (hc : X.calm = true) (hN : X.N.Nodup) (hi : PIX X Z tgt iter it) (ok : BlkOk X.N X.env.scope scope own) (hg : Blk X scope fun Y => PGX Y tgt t) (ht : Blk X scope fun Y => PTsX Y ifs tt) (he : Blk X scope fun Y => PX Y Z0 elt f)
    (hv : own.map (·.2) = vs := by rfl) (hin : tgIn t vs = true := by rfl) (hs : ∀ x, foldedSetIterable iter X.env x = pure x := by intro _; rfl) : PO X Z (.ListComp elt [⟨tgt, iter, ifs, 0⟩] scope pos) (lcO it t tt f vs) := by
  subst hv
  exact ⟨PE_imp (L2.pe_lc (wi := tI X.K Z it) (g := gX X.K t) (tt := tT X.K Z0 tt) (te := tE X.K Z0 f) hc hN hi.pi ok (fun s H L cl fp => (hg s H L cl fp).pg) (fun s H L cl fp => (ht s H L cl fp).pts) (fun s H L cl fp => (he s H L cl fp).pe) hs) fun σ H Q h => tLc_of hin h⟩
theorem ps_setLcX {i : Nat} {y : Str} {py spos : Pos} {elt tgt iter : Expr} {ifs : List Expr} {scope : Scope} {own : List (Str × Nat)} (hc : X.calm = true) (hN : X.N.Nodup) (hy : X.N[i]? = some y) (hyl : X.env.scope.names.lookup y = some .local)
    (hsw : swapsWith (.ListComp elt [⟨tgt, iter, ifs, 0⟩] scope pos) (some (.Name y py)) spos.line X.env = pure true) (hi : PIX X Z tgt iter it) (ok : BlkOk X.N X.env.scope scope own) (hg : Blk X scope fun Y => PGX Y tgt t) (ht : Blk X scope fun Y => PTsX Y ifs tt) (he : Blk X scope fun Y => PX Y Z0 elt f)
    (hv : own.map (·.2) = vs := by rfl) (hin : tgIn t vs = true := by rfl) (hs : ∀ x, foldedSetIterable iter X.env x = pure x := by intro _; rfl) : PSX X Z (.Assign [.Name y py] (.ListComp elt [⟨tgt, iter, ifs, 0⟩] scope pos) spos) (setS i (lcO it t tt f vs)) := by
  subst hv
  refine ⟨PS_imp (L2.ps_setLc (wi := tI X.K Z it) (g := gX X.K t) (tt := tT X.K Z0 tt) (te := tE X.K Z0 f) hc hN hy hyl hsw hi.pi ok (fun s H L cl fp => (hg s H L cl fp).pg) (fun s H L cl fp => (ht s H L cl fp).pts) (fun s H L cl fp => (he s H L cl fp).pe) hs) fun D σ H ⟨W, s, R, h⟩ => ?_⟩
  exact tLc_of hin ⟨W, s, R, PostS.bindE h fun p s1 y W1 H1 _ st R1 ry q => q _ W1 H1 (Step.refl _ _) (R1.put ry)⟩
end
end DR
/-! DR: functions and calls. -/
namespace DR
open PySem PySem.Spec PyProof.Rows L2
/-- how a call ends -/
inductive FR where
  | ok (p : PV) (fr : Bool) (t : DT) | exc (x : Exn) (t : DT) | bad
abbrev SemF := List PV → DT → FR
def frameE (n : Nat) (ps : List PV) : DE := ps.map Sl.val ++ List.replicate (n - ps.length) .no
/-- a def by its body over n names -/
def bodyF (n : Nat) (b : SM) : SemF := fun ps t => match b ⟨frameE n ps, t⟩ with
  | .ok (.rt p fr) s => .ok p fr s.t
  | .ok .nx s => .ok .non false s.t
  | .ok .bk _ => .bad
  | .ok .ct _ => .bad
  | .exc x s => .exc x s.t
  | .bad => .bad
def rF (K : PySem.W.Frag) (W : Wd) (H : Hp) (p : PV) (fr : Bool) (v : V) : Prop := if fr = true then ∃ a, v = .ref a ∧ a ∈ W.O ∧ Con K W H p a else RV K W H p v
def PostF (K : PySem.W.Frag) (W : Wd) (H : Hp) (r : FR) (Q : VK) (E : XK) : Prop := match r with
  | .ok p fr t' => ∀ v W' H', Step W H W' H' → RS K W' H' t' → rF K W' H' p fr v → Q v H'
  | .exc x t' => ∀ d W' H', Step W H W' H' → RS K W' H' t' → XR K W' H' x d → E (.ref x.C) d H'
  | .bad => False
/-- the promise of a def of n parameters -/
def spF (K : PySem.W.Frag) (n : Nat) (f : SemF) : Sp := fun vs H Q E => vs.length = n ∧ ∃ W t ps, W.O = [] ∧ RS K W H t ∧ RVs K W H ps vs ∧ PostF K W H (f ps t) Q E
section
variable {P : Program} {w : World} {K : PySem.W.Frag} {mg : Str → Option Value} {base : Heap}
theorem frame_start {W : Wd} {H : Hp} {t : DT} {ps : List PV} {vs : List V} {N : List Str} (hO : W.O = []) (R : RS K W H t) (r : RVs K W H ps vs) (hl : vs.length ≤ N.length) : RSt K W H ⟨frameE N.length ps, t⟩ (L2.start N vs) := by
  have hp : ps.length = vs.length := r.len.symm
  have get : ∀ {i : Nat} {sl : Sl}, (frameE N.length ps)[i]? = some sl → sl ≠ .no → ∃ p, ps[i]? = some p ∧ sl = .val p := fun {i sl} e hn => by
    unfold frameE at e
    by_cases hi : i < ps.length
    · rw [List.getElem?_append_left (by simpa using hi), List.getElem?_map, List.getElem?_eq_getElem hi] at e
      exact ⟨_, List.getElem?_eq_getElem hi, (Option.some.inj e).symm⟩
    · rw [List.getElem?_append_right (by simpa using hi), List.getElem?_replicate] at e
      split at e
      · exact absurd (Option.some.inj e).symm hn
      · cases e
  refine ⟨⟨?_, fun i p e => ?_, fun i p e => ?_, fun i j p q a h1 => ?_⟩, R⟩
  · unfold frameE L2.start
    simp only [List.length_append, List.length_map, List.length_replicate, hp]
  · obtain ⟨q, e1, e2⟩ := get e (by simp)
    cases e2
    obtain ⟨v, e3, rv⟩ := r.get e1
    refine ⟨v, ?_, rv⟩
    unfold L2.start
    have hi : i < vs.length := (List.getElem?_eq_some_iff.mp e3).1
    rw [List.getElem?_append_left (by simpa using hi), List.getElem?_map, e3]
    rfl
  · obtain ⟨q, e1, e2⟩ := get e (by simp)
    cases e2
  · obtain ⟨q, e1, e2⟩ := get h1 (by simp)
    cases e2
/-- THE RULE for a def -/
theorem fn_okD {x qual : Str} {params : Arguments} {body : List Stmt} {scope : Scope} {dvs : List V} {kws : List (Str × V)} {f : Addr} {fd : FuncData} {N ps : List Str} {k : Nat} {b : SM} (F : FunD K x qual params body scope dvs kws f fd) (S : FnScope N ps scope)
    (hb : ∀ (cdv : Value) (A : Around) (outer : List PySem.Env) (s : Shared) (H : Hp) (E : XK), RoomG k (A.deeper (envOfC qual scope s.heap.objs.size f cdv)) →
      PSsX (cxOf (L2.CX P w) P w K mg base N qual scope f cdv A outer s H E) (fun cls d _ H => E cls d H) body b) : FnG P w K mg base (L2.CX P w) (k + 1) f fd ps (spF K ps.length (bodyF N.length b)) := by
  obtain ⟨oc, od, dV, kV, doc, pm, an, cdv, ct, osl, rfl, lk, hcd, _, _⟩ := F.ex
  refine fn_ofG lk hcd S (fun vs H Q E h => h.1) fun A outer s H vs Q E hr h => ⟨_, (hb cdv A outer s H E hr).ps, ?_⟩
  obtain ⟨hl, W, t, qs, hO, R, rv, post⟩ := h
  have hN : ps.length ≤ N.length := by
    have := congrArg List.length S.pre
    rw [List.length_take] at this
    omega
  refine ⟨W, ⟨frameE N.length qs, t⟩, frame_start hO R rv (by rw [hl]; exact hN), ?_⟩
  unfold bodyF at post
  cases e : b ⟨frameE N.length qs, t⟩ with
  | bad => rw [e] at post; exact post.elim
  | exc x s1 => rw [e] at post; exact fun σ' d W' H' st R' xr => post d W' H' st R'.t xr
  | ok fl s1 =>
    rw [e] at post
    cases fl with
    | nx => exact fun σ' W' H' st R' => post .non W' H' st R'.t (show RV K W' H' .non .non from rv_non)
    | bk => exact post.elim
    | ct => exact post.elim
    | rt p fr =>
      intro σ' v W' H' st R' ro
      refine post v W' H' st R'.t ?_
      cases fr with
      | false => exact ro
      | true =>
        obtain ⟨a, e1, e2, e3, _⟩ := ro
        exact ⟨a, e1, e2, e3⟩
/-- a def of the module, by what it is worth -/
structure Fd (P : Program) (w : World) (K : PySem.W.Frag) (mg : Str → Option Value) (base : Heap) (x : Str) (k n : Nat) (sem : SemF) : Prop where
  ex : ∃ (f : Addr) (fd : FuncData) (ps : List Str), mg x = some (.ref f) ∧ FnG P w K mg base (L2.CX P w) k f fd ps (spF K n sem) ∧ PySem.W.keepIn K (.ref f) = true ∧ Binds K fd ps [] ∧ ps.length = n
theorem Fd.mk' {x qual : Str} {params : Arguments} {body : List Stmt} {scope : Scope} {kws : List (Str × V)} {f : Addr} {fd : FuncData} {ps : List Str} {k n : Nat} {sem : SemF} (F : FunD K x qual params body scope [] kws f fd) (hm : mg x = some (.ref f)) (hn : ps.length = n)
    (hb : ∀ (kV doc pm : Value) (an : Option Addr) (cdv ct : Value) (us : List Value), us.length = ps.length → bindArgs (PySem.W.fnOf x qual params body scope .none kV doc pm an cdv ct) ⟨us, []⟩ = pure (ps.zip us))
    (ok : FnG P w K mg base (L2.CX P w) k f fd ps (spF K ps.length sem)) : Fd P w K mg base x k n sem := by
  subst hn
  exact ⟨f, fd, ps, hm, ok, F.kp, F.bindsN hb, rfl⟩
end
/-! ### the worlds of caller and callee -/
def Wd.call (W : Wd) : Wd := ⟨[], W.S, W.O ++ W.P⟩
def Wd.back (W W' : Wd) : Wd := ⟨W.O ++ W'.O, W'.S, W.P⟩
theorem m_of_iff {W W' : Wd} {H : Hp} (h : ∀ b, b ∈ W.L ↔ b ∈ W'.L) : W.m H = W'.m H := by
  funext b
  unfold Wd.m msk
  by_cases hb : b ∈ W.L
  · rw [if_pos hb, if_pos ((h b).mp hb)]
  · rw [if_neg hb, if_neg fun z => hb ((h b).mpr z)]
theorem con_m {K : PySem.W.Frag} {W W' : Wd} {H : Hp} {p : PV} {a : Addr} (hm : W.m H = W'.m H) (hS : W.S = W'.S) (c : Con K W H p a) : Con K W' H p a := by
  unfold Con at c ⊢
  rw [← hm, ← hS]
  exact c
section
variable {K : PySem.W.Frag} {W W' : Wd} {H H' : Hp} {s : DS} {σ : L2.St} {t : DT}
theorem call_m : W.call.m H = W.m H := m_of_iff fun b => by
  simp only [Wd.L, Wd.call, List.mem_append, List.not_mem_nil, false_or]
  constructor
  · rintro (h | h | h) <;> simp [h]
  · rintro (h | h | h) <;> simp [h]
theorem RSt.call (R : RSt K W H s σ) : RS K W.call H s.t :=
  ⟨R.t.len, fun k p a e1 e2 => con_m call_m.symm rfl (R.t.at_ k p a e1 e2), R.t.nd, fun a h => (nomatch (show a ∈ ([] : List Addr) from h)), fun a h => (List.mem_append.mp h).elim (R.t.ot a) (R.t.pt a), fun a h => (nomatch (show a ∈ ([] : List Addr) from h)), fun a h z => (List.mem_append.mp z).elim (fun y => R.t.ap a y h) (R.t.ps a h), fun a h => (nomatch (show a ∈ ([] : List Addr) from h))⟩
theorem back_m (hP : W'.P = W.O ++ W.P) : (W.back W').m H = W'.m H := m_of_iff fun b => by
  simp only [Wd.L, Wd.back, hP, List.mem_append]
  constructor
  · rintro ((h | h) | h | h) <;> simp [h]
  · rintro (h | h | h | h) <;> simp [h]
theorem Step.back (R : RSt K W H s σ) (st : Step W.call H W' H') : Step W H (W.back W') H' := by
  have hP : W'.P = W.O ++ W.P := st.prv
  refine ⟨?_, st.there, fun b h => ?_, st.pre, fun b h => ?_, rfl, fun b h => st.pk b (List.mem_append_right _ h)⟩
  · rw [back_m hP, ← call_m]
    exact st.same
  · rcases List.mem_append.mp h with h | h
    · exact .inl h
    · exact .inr ((st.new b h).elim (fun z => by cases z) id)
  · rcases st.sto b h with z | z | z
    · exact .inl z
    · cases z
    · exact .inr (.inr z)
theorem RSt.back (R : RSt K W H s σ) (st : Step W.call H W' H') (R' : RS K W' H' t) : RSt K (W.back W') H' ⟨s.e, t⟩ σ := by
  have hP : W'.P = W.O ++ W.P := st.prv
  have stb := st.back R
  have hpk : ∀ a ∈ W.O, H' a = H a := fun a h => st.pk a (List.mem_append_left _ h)
  refine ⟨⟨R.e.len, fun i p e => ?_, fun i p e => ?_, R.e.inj⟩, ⟨R'.len, fun k p a e1 e2 => con_m (back_m hP).symm rfl (R'.at_ k p a e1 e2), R'.nd, fun a h => ?_, fun a h => ?_, fun a h => ?_, fun a h => ?_, fun a h => ?_⟩⟩
  · obtain ⟨v, h1, h2⟩ := R.e.at_ i p e
    exact ⟨v, h1, stb.rv h2⟩
  · obtain ⟨a, h1, h2, h3⟩ := R.e.ow i p e
    exact ⟨a, h1, List.mem_append_left _ h2, h3.step stb (hpk a h2)⟩
  · rcases List.mem_append.mp h with h | h
    · exact fun z => R'.ps a z (by rw [hP]; exact List.mem_append_left _ h)
    · exact R'.ap a h
  · exact R'.pt a (by rw [hP]; exact List.mem_append_right _ h)
  · rcases List.mem_append.mp h with h | h
    · exact R.t.pa a h
    · exact fun z => R'.pa a h (by rw [hP]; exact List.mem_append_right _ z)
  · exact fun z => R'.ps a h (by rw [hP]; exact List.mem_append_right _ z)
  · rcases List.mem_append.mp h with h | h
    · obtain ⟨o, ho⟩ := R.t.ot a h
      exact ⟨o, by rw [hpk a h]; exact ho⟩
    · exact R'.ot a h
theorem rO_back (R : RSt K W H s σ) (st : Step W.call H W' H') (R' : RS K W' H' t) {p : PV} {fr : Bool} {v : V} (r : rF K W' H' p fr v) : rO K σ (W.back W') H' ⟨s.e, t⟩ (p, fr) v := by
  have hP : W'.P = W.O ++ W.P := st.prv
  cases fr with
  | false =>
    show Rep K W'.S ((W.back W').m H') p v
    rw [back_m hP]
    exact r
  | true =>
    obtain ⟨a, e1, e2, e3⟩ := r
    refine ⟨a, e1, List.mem_append_right _ e2, con_m (back_m hP).symm rfl e3, fun i q hi z => ?_⟩
    obtain ⟨b, h1, h2, h3⟩ := R.e.ow i q hi
    rw [h1] at z
    have zb : b = a := by injection z with z; injection z with z; injection z
    subst zb
    exact R'.pa b e2 (by rw [hP]; exact List.mem_append_left _ h2)
end
def callF (f : SemF) (ps : List PV) (s : DS) : Re (PV × Bool) := match f ps s.t with
  | .ok p fr t' => .ok (p, fr) ⟨s.e, t'⟩
  | .exc x t' => .exc x ⟨s.e, t'⟩
  | .bad => .bad
def callO (f : SemF) (fa : AM) : OM := fun s => (fa s).bind fun ps s1 => callF f ps s1
theorem callF_post {K : PySem.W.Frag} {Z : WX} {W : Wd} {H : Hp} {s : DS} {σ : L2.St} {f : SemF} {ps : List PV} {vs : List V} {Q : VK} {n : Nat} (hn : vs.length = n) (R : RSt K W H s σ) (r : RVs K W H ps vs) (q : Post rO K Z σ W H (callF f ps s) Q) :
    spF K n f vs H Q (fun cls d H' => Z cls d σ H') := by
  refine ⟨hn, W.call, s.t, ps, rfl, R.call, ?_, ?_⟩
  · show Reps K W.S (W.call.m H) ps vs
    rw [call_m]
    exact r
  · unfold callF at q
    cases e : f ps s.t with
    | bad => rw [e] at q; exact q.elim
    | exc x t' =>
      rw [e] at q
      intro d W' H' st R' xr
      refine q d _ H' (st.back R) (R.back st R') ?_
      unfold XR at xr ⊢
      cases hx : x.fs with
      | none => rw [hx] at xr; exact xr
      | some l =>
        rw [hx] at xr
        obtain ⟨dd, ws, h1, h2, h3⟩ := xr
        refine ⟨dd, ws, h1, ?_, ?_⟩
        · rw [back_m st.prv]; exact h2
        · rw [back_m st.prv]; exact h3
    | ok p fr t' =>
      rw [e] at q
      exact fun v W' H' st R' rf => q v _ H' (st.back R) (R.back st R') (rO_back R st R' rf)
section
variable {X : Cx} {Z : WX} {x : Str} {p pos : Pos} {e : Expr} {es : List Expr} {fa : AM} {sem : SemF} {k j n : Nat}
theorem len_of_consA {K : PySem.W.Frag} {W : Wd} {H : Hp} {ps : List PV} {vs : List V} (r : RVs K W H ps vs) (h : ps.length = n) : vs.length = n := by rw [r.len, h]
/-- f(e, ..) -/
theorem po_call (h : Fd X.prog X.w X.K X.mg X.base x j n sem) (hr : RoomG k X.A) (hk : j ≤ k) (hg : Gl X x) (tk : Takes X Z) (ha : PAX X Z (e :: es) fa) (hlen : ∀ s ps s1, fa s = .ok ps s1 → ps.length = n) (hdb : (x == ("__debug__" : Str)) = false := by decide)
    (he : starEach (e :: es) X.env = (false, eval e X.env) :: starEach es X.env := by rfl) (hpl : (backTo pos (starEach es X.env)).any (·.1) = false := by rfl) : PO X Z (.Call (.Name x p) (e :: es) [] pos) (callO sem fa) := by
  obtain ⟨f, fd, qs, hm, F, kp, b, hl⟩ := h.ex
  refine ⟨PE_imp (pe_callG (E := fun σ cls d H' => Z cls d σ H') F (hr.mono hk) hg hm kp b (dvs := []) .nil (fun σ => passAt tk σ) ha.pa hdb he hpl) fun σ H Q ⟨W, s, R, h⟩ => ⟨W, s, R, Post.bind h fun ps s1 vs W1 H1 es st R1 r q => ?_⟩⟩
  have r : RVs X.K W1 H1 ps vs := r
  show spF X.K n sem (vs ++ []) H1 Q _
  rw [List.append_nil]
  exact callF_post (len_of_consA r (hlen s ps s1 es)) R1 r q
theorem len_nilA : ∀ s ps s1, nilA s = .ok ps s1 → ps.length = 0 := fun s ps s1 h => by cases h; rfl
theorem len_cons {f : EM} {g : AM} {n : Nat} (h : ∀ s ps s1, g s = .ok ps s1 → ps.length = n) : ∀ s ps s1, consA f g s = .ok ps s1 → ps.length = n + 1 := fun s ps s1 e => by
  unfold consA at e
  cases e1 : f s with
  | bad => rw [e1] at e; cases e
  | exc x s2 => rw [e1] at e; cases e
  | ok q s2 =>
    rw [e1] at e
    cases e2 : g s2 with
    | bad => simp only [Re.bind, e2] at e; cases e
    | exc x s2 => simp only [Re.bind, e2] at e; cases e
    | ok qs s3 =>
      simp only [Re.bind, e2] at e
      cases e
      simp [h _ qs _ e2]
end
end DR
/-! DR: built-in functions, items, slices, methods. -/
namespace DR
open PySem PySem.Spec PyProof.Rows L2
/-! ### looked at, not handed on -/
def BV (K : PySem.W.Frag) (W : Wd) (H : Hp) (p : PV) (v : V) : Prop := RV K W H p v ∨ ∃ a, v = .ref a ∧ Con K W H p a
def rB : RT PV V := fun K _ W H _ p v => BV K W H p v
structure PB (X : Cx) (Z : WX) (e : Expr) (f : EM) : Prop where
  pe : PE X e (tG rB X.K Z f)
def nameB (i : Nat) : EM := fun s => match s.e[i]? with
  | some (.val (.cell k)) => (match s.t[k]? with
    | some p => .ok p s
    | none => .bad)
  | some (.val p) => .ok p s
  | some (.own p) => .ok p s
  | _ => .bad
section
variable {K : PySem.W.Frag} {W : Wd} {H : Hp} {s : DS} {σ : L2.St} {p : PV} {v : V}
theorem bv_lst {ps : List PV} (h : BV K W H (.lst ps) v) : ∃ a vs, v = .ref a ∧ H a = some (.lst vs) ∧ RVs K W H ps vs := by
  rcases h with h | ⟨a, e, h⟩
  · obtain ⟨a, vs, e, _, h1, h2⟩ := rv_lst_inv h
    exact ⟨a, vs, e, h1, h2⟩
  · obtain ⟨vs, h1, h2⟩ := h
    exact ⟨a, vs, e, h1, h2⟩
theorem bv_tup {c : Bool} {ps : List PV} (h : BV K W H (.tup c ps) v) : ∃ a vs, v = .ref a ∧ SqT K H a vs ∧ RVs K W H ps vs := by
  rcases h with h | ⟨a, e, h⟩
  · exact rv_tup_inv h
  · exact h.elim
theorem bv_scr {ps : List PV} (h : BV K W H (.scr ps) v) : ∃ a vs, v = .ref a ∧ SqL K H a vs ∧ RVs K W H ps vs := by
  rcases h with h | ⟨a, e, h⟩
  · obtain ⟨a, vs, e, h1, h2⟩ := rvS_m h
    exact ⟨a, vs, e, sqL_mono (msk_sub _ _) h1, h2⟩
  · exact h.elim
theorem bv_int {i : Int} (h : BV K W H (.int i) v) : v = .int i := by
  rcases h with h | ⟨a, e, h⟩
  · exact rv_int_inv h
  · exact h.elim
theorem bv_bl {i : Bool} (h : BV K W H (.bl i) v) : v = .bl i := by
  rcases h with h | ⟨a, e, h⟩
  · exact rv_bl_inv h
  · exact h.elim
theorem bv_str {i : Str} (h : BV K W H (.str i) v) : v = .str i := by
  rcases h with h | ⟨a, e, h⟩
  · exact rv_str_inv h
  · exact h.elim
/-- what a name's slot holds, looked at -/
theorem nameB_bv (R : RSt K W H s σ) {i : Nat} {s1 : DS} (h : nameB i s = .ok p s1) : s1 = s ∧ ∃ v, σ[i]? = some (some v) ∧ BV K W H p v := by
  unfold nameB at h
  split at h
  · rename_i k e
    cases e1 : s.t[k]? with
    | none => rw [e1] at h; cases h
    | some q =>
      rw [e1] at h
      cases h
      obtain ⟨v, h1, h2⟩ := R.e.at_ i _ e
      unfold RV Rep at h2
      obtain ⟨a, h3, h4⟩ := h2
      exact ⟨rfl, v, h1, .inr ⟨a, h3, R.t.at_ k _ a e1 h4⟩⟩
  · rename_i q _ e
    cases h
    obtain ⟨v, h1, h2⟩ := R.e.at_ i _ e
    exact ⟨rfl, v, h1, .inl h2⟩
  · rename_i q e
    cases h
    obtain ⟨a, h1, h2, h3⟩ := R.e.ow i _ e
    exact ⟨rfl, .ref a, h1, .inr ⟨a, rfl, h3⟩⟩
  · cases h
theorem nameB_no {i : Nat} {x : Exn} {s1 : DS} (h : nameB i s = .exc x s1) : False := by
  unfold nameB at h
  split at h
  · rename_i k e
    cases e1 : s.t[k]? <;> rw [e1] at h <;> cases h
  · cases h
  · cases h
  · cases h
end
section
variable {X : Cx} {Z : WX} {x : Str} {pos pos' : Pos} {e : Expr} {f : EM}
theorem pb_of (h : PX X Z e f) : PB X Z e f := ⟨PE_imp h.pe fun σ H Q ⟨W, s, R, h⟩ => ⟨W, s, R, by
  cases e1 : f s with
  | bad => rw [e1] at h; exact h
  | exc x s1 => rw [e1] at h; exact h
  | ok p s1 => rw [e1] at h; exact fun v W' H' st R' r => h v W' H' st R' (.inl r)⟩⟩
theorem pb_name (i : Nat) (hN : X.N[i]? = some x := by rfl) (hv : Vis X.env.scope x := by first | exact Or.inl rfl | exact Or.inr (Or.inl rfl) | exact Or.inr (Or.inr rfl)) (hd : (x == ("__debug__" : Str)) = false := by decide)
    (hcd : (x == ("__classdict__" : Str)) = false := by decide) : PB X Z (.Name x pos) (nameB i) := by
  refine ⟨PE_imp (pe_var hN hv hd hcd) fun σ H Q ⟨W, s, R, h⟩ => ?_⟩
  cases e1 : nameB i s with
  | bad => rw [e1] at h; exact h.elim
  | exc x s1 => exact (nameB_no e1).elim
  | ok p s1 =>
    rw [e1] at h
    obtain ⟨rfl, v, h1, h2⟩ := nameB_bv R e1
    exact ⟨v, h1, h v W H (Step.refl _ _) R h2⟩
/-! ### built-ins of one argument -/
abbrev G1 := PV → Option PV
abbrev O1 := PV → Option (PV × Bool)
def Un1 (X : Cx) (f : Value) (g : O1) : Prop := ∀ (Z : WX), ∃ r : List V → Hp → VK → Prop, CallR X f r ∧ ∀ (W : Wd) (H : Hp) (s : DS) (σ : L2.St) (p : PV) (x : V) (res : PV × Bool) (Q : VK), RSt X.K W H s σ → BV X.K W H p x → g p = some res → Post rO X.K Z σ W H (.ok res s) Q → r [x] H Q
def un1O (g : O1) (f : EM) : OM := fun s => (f s).bind fun p s1 => match g p with
  | some r => .ok r s1
  | none => .bad
def g1 (g : G1) : O1 := fun p => (g p).map fun r => (r, false)
def un1E (g : G1) (f : EM) : EM := plainE (un1O (g1 g) f)
theorem Un1.plain {f : Value} {r : List V → Hp → VK → Prop} {g : G1} (c : CallR X f r) (k : ∀ (W : Wd) (H : Hp) (p : PV) (x : V) (res : PV) (Q : VK), BV X.K W H p x → g p = some res → (∀ v, RV X.K W H res v → Q v H) → r [x] H Q) : Un1 X f (g1 g) := fun Z => by
  refine ⟨r, c, fun W H s σ p x res Q R rx e po => ?_⟩
  simp only [g1, Option.map_eq_some_iff] at e
  obtain ⟨z, e, rfl⟩ := e
  exact k W H p x z Q rx e fun v rv => po v W H (Step.refl _ _) R rv
theorem CallR_or {f : Value} {r r' : List V → Hp → VK → Prop} (h : CallR X f r) (h' : CallR X f r') : CallR X f (fun xs H Q => r xs H Q ∨ r' xs H Q) := fun pins s σ H xs us Q I rx q => q.elim (h pins s σ H xs us Q I rx) (h' pins s σ H xs us Q I rx)
theorem Un1.or {f : Value} {g g' : O1} (h : Un1 X f g) (h' : Un1 X f g') : Un1 X f (fun p => (g p).or (g' p)) := fun Z => by
  obtain ⟨r, o, k⟩ := h Z
  obtain ⟨r', o', k'⟩ := h' Z
  refine ⟨_, CallR_or o o', fun W H s σ p x res Q R rx e po => ?_⟩
  replace e : (g p).or (g' p) = some res := e
  cases e1 : g p with
  | some z =>
    rw [e1] at e
    exact .inl (k W H s σ p x res Q R rx (by rw [e1]; simpa using e) po)
  | none =>
    rw [e1] at e
    exact .inr (k' W H s σ p x res Q R rx (by simpa using e) po)
theorem tO_un1 {r : List V → Hp → VK → Prop} {g : O1} (k : ∀ (W : Wd) (H : Hp) (s : DS) (σ : L2.St) (p : PV) (x : V) (res : PV × Bool) (Q : VK), RSt X.K W H s σ → BV X.K W H p x → g p = some res → Post rO X.K Z σ W H (.ok res s) Q → r [x] H Q)
    (σ : L2.St) (H : Hp) (Q : VK) (h : tO X.K Z (un1O g f) σ H Q) : tCB r (tCons (tG rB X.K Z f) tNil) σ H Q := by
  obtain ⟨W, s, R, h⟩ := h
  refine ⟨W, s, R, Post.bind h fun p s1 v W1 H1 _ st R1 rx q => ?_⟩
  cases e : g p with
  | none => simp only [e] at q; exact q.elim
  | some res =>
    simp only [e] at q
    exact k W1 H1 s1 σ p v res Q R1 rx e q
theorem po_blt {id : String} {g : O1} {p : Pos} (hf : Un1 X (.builtin id) g) (hg : Gl X x) (hm : X.mg x = none) (hv : bootBuiltins x = some (.builtin id)) (ha : PB X Z e f) (hn : x ≠ "__name__" := by decide) (hdb : (x == ("__debug__" : Str)) = false := by decide)
    (he : starEach [e] X.env = (false, eval e X.env) :: starEach [] X.env := by rfl) : PO X Z (.Call (.Name x p) [e] [] pos) (un1O g f) := by
  obtain ⟨r, c, k⟩ := hf Z
  exact ⟨PE_imp (L2.pe_callB c hg hm hv (L2.pa_cons ha.pe L2.pa_nil he) hn hdb he rfl) fun σ H Q h => tO_un1 k σ H Q h⟩
theorem po_bty {T : String} {g : O1} {p : Pos} (hf : Un1 X (.type T) g) (hg : Gl X x) (hm : X.mg x = none) (hv : bootBuiltins x = some (.type T)) (ha : PB X Z e f) (hn : x ≠ "__name__" := by decide) (hdb : (x == ("__debug__" : Str)) = false := by decide)
    (he : starEach [e] X.env = (false, eval e X.env) :: starEach [] X.env := by rfl) : PO X Z (.Call (.Name x p) [e] [] pos) (un1O g f) := by
  obtain ⟨r, c, k⟩ := hf Z
  exact ⟨PE_imp (L2.pe_callTy c hg hm hv (L2.pa_cons ha.pe L2.pa_nil he) hn hdb he rfl) fun σ H Q h => tO_un1 k σ H Q h⟩
/-- len -/
def lenG : G1 := fun p => match p with
  | .lst ps => some (.int ps.length)
  | .tup _ ps => some (.int ps.length)
  | .scr ps => some (.int ps.length)
  | .str z => if lineOk z.length then some (.int z.length) else none
  | _ => none
theorem u_len : Un1 X (.builtin "len") (g1 lenG) := Un1.plain (CallR_or call_len_seq call_len_str) fun W H p x res Q rx e k => by
  cases p with
  | lst ps =>
    simp only [lenG, Option.some.injEq] at e
    subst e
    obtain ⟨a, vs, rfl, h1, h2⟩ := bv_lst rx
    exact .inl ⟨a, vs, rfl, .inl (SqL.of h1), k _ (by rw [h2.len]; exact rv_int)⟩
  | scr ps =>
    simp only [lenG, Option.some.injEq] at e
    subst e
    obtain ⟨a, vs, rfl, h1, h2⟩ := bv_scr rx
    exact .inl ⟨a, vs, rfl, .inl h1, k _ (by rw [h2.len]; exact rv_int)⟩
  | tup c ps =>
    simp only [lenG, Option.some.injEq] at e
    subst e
    obtain ⟨a, vs, rfl, h1, h2⟩ := bv_tup rx
    exact .inl ⟨a, vs, rfl, .inr h1, k _ (by rw [h2.len]; exact rv_int)⟩
  | str z =>
    simp only [lenG] at e
    by_cases hz : lineOk z.length = true
    · rw [if_pos hz] at e
      cases e
      exact .inr ⟨z, by rw [bv_str rx], of_decide_eq_true hz, k _ rv_int⟩
    · rw [if_neg hz] at e
      cases e
  | _ => simp [lenG] at e
/-- all, any of a list of truth values -/
def bools : List PV → Option (List Bool)
  | [] => some []
  | .bl b :: ps => (bools ps).map fun bs => b :: bs
  | _ :: _ => none
theorem bools_vs {K : PySem.W.Frag} {cs : List Addr} {H : Hp} : ∀ {ps : List PV} {bs : List Bool} {vs : List V}, bools ps = some bs → Reps K cs H ps vs → vs = bs.map V.bl
  | [], bs, vs, e, r => by
    simp only [bools, Option.some.injEq] at e
    unfold Reps at r
    subst e r
    rfl
  | p :: ps, bs, vs, e, r => by
    cases p with
    | bl b =>
      simp only [bools, Option.map_eq_some_iff] at e
      obtain ⟨cs', e1, rfl⟩ := e
      unfold Reps at r
      obtain ⟨v, w, rfl, h1, h2⟩ := r
      unfold Rep at h1
      rw [h1, bools_vs e1 h2]
      rfl
    | _ => simp [bools] at e
def allG : G1 := fun p => match p with
  | .lst ps => (bools ps).map fun bs => .bl (bs.all id)
  | _ => none
def anyG : G1 := fun p => match p with
  | .lst ps => (bools ps).map fun bs => .bl (bs.any id)
  | _ => none
theorem u_all (hc : X.calm = true) : Un1 X (.builtin "all") (g1 allG) := Un1.plain (cr_all hc) fun W H p x res Q rx e k => by
  cases p with
  | lst ps =>
    simp only [allG, Option.map_eq_some_iff] at e
    obtain ⟨bs, e, rfl⟩ := e
    obtain ⟨a, vs, rfl, h1, h2⟩ := bv_lst rx
    have hv := bools_vs e h2
    subst hv
    exact ⟨a, bs, rfl, SqL.of h1, k _ rv_bl⟩
  | _ => simp [allG] at e
theorem u_any (hc : X.calm = true) : Un1 X (.builtin "any") (g1 anyG) := Un1.plain (cr_any hc) fun W H p x res Q rx e k => by
  cases p with
  | lst ps =>
    simp only [anyG, Option.map_eq_some_iff] at e
    obtain ⟨bs, e, rfl⟩ := e
    obtain ⟨a, vs, rfl, h1, h2⟩ := bv_lst rx
    have hv := bools_vs e h2
    subst hv
    exact ⟨a, bs, rfl, SqL.of h1, k _ rv_bl⟩
  | _ => simp [anyG] at e
/-- abs, int -/
def absG : G1 := fun p => match p with
  | .int i => some (.int (if i < 0 then -i else i))
  | _ => none
theorem u_abs : Un1 X (.builtin "abs") (g1 absG) := Un1.plain call_abs fun W H p x res Q rx e k => by
  cases p with
  | int i =>
    simp only [absG, Option.some.injEq] at e
    subst e
    exact ⟨i, by rw [bv_int rx], k _ rv_int⟩
  | _ => simp [absG] at e
def intG : G1 := fun p => match p with
  | .int i => some (.int i)
  | .bl b => some (.int (if b then 1 else 0))
  | _ => none
theorem u_int : Un1 X (.type "int") (g1 intG) := Un1.plain call_int1 fun W H p x res Q rx e k => by
  cases p with
  | int i =>
    simp only [intG, Option.some.injEq] at e
    subst e
    exact .inl ⟨i, by rw [bv_int rx], k _ rv_int⟩
  | bl b =>
    simp only [intG, Option.some.injEq] at e
    subst e
    exact .inr ⟨b, by rw [bv_bl rx], k _ rv_int⟩
  | _ => simp [intG] at e
/-- sum, max, min of a list of ints -/
def intsP : List PV → Option (List Int)
  | [] => some []
  | .int b :: ps => (intsP ps).map fun bs => b :: bs
  | _ :: _ => none
theorem ints_vs {K : PySem.W.Frag} {cs : List Addr} {H : Hp} : ∀ {ps : List PV} {bs : List Int} {vs : List V}, intsP ps = some bs → Reps K cs H ps vs → vs = bs.map V.int
  | [], bs, vs, e, r => by
    simp only [intsP, Option.some.injEq] at e
    unfold Reps at r
    subst e r
    rfl
  | p :: ps, bs, vs, e, r => by
    cases p with
    | int b =>
      simp only [intsP, Option.map_eq_some_iff] at e
      obtain ⟨cs', e1, rfl⟩ := e
      unfold Reps at r
      obtain ⟨v, w, rfl, h1, h2⟩ := r
      unfold Rep at h1
      rw [h1, ints_vs e1 h2]
      rfl
    | _ => simp [intsP] at e
def maxL : List Int → Option Int
  | [] => none
  | i :: is => some (is.foldl max i)
def minL : List Int → Option Int
  | [] => none
  | i :: is => some (is.foldl min i)
theorem foldl_max_mem : ∀ (l : List Int) (i : Int), (l.foldl max i = i ∨ l.foldl max i ∈ l) ∧ i ≤ l.foldl max i ∧ ∀ y ∈ l, y ≤ l.foldl max i
  | [], i => by simp
  | a :: l, i => by
    obtain ⟨h1, h2, h3⟩ := foldl_max_mem l (max i a)
    refine ⟨?_, ?_, fun y hy => ?_⟩
    · rcases h1 with h | h
      · by_cases hh : i ≤ a
        · right; simp only [List.foldl_cons]; rw [h]; simp [Int.max_eq_right hh]
        · left; simp only [List.foldl_cons]; rw [h]; exact Int.max_eq_left (by omega)
      · right; simp only [List.foldl_cons]; exact List.mem_cons_of_mem _ h
    · simp only [List.foldl_cons]; exact Int.le_trans (Int.le_max_left i a) h2
    · simp only [List.foldl_cons]
      rcases List.mem_cons.mp hy with rfl | hy
      · exact Int.le_trans (Int.le_max_right i y) h2
      · exact h3 y hy
theorem foldl_min_mem : ∀ (l : List Int) (i : Int), (l.foldl min i = i ∨ l.foldl min i ∈ l) ∧ l.foldl min i ≤ i ∧ ∀ y ∈ l, l.foldl min i ≤ y
  | [], i => by simp
  | a :: l, i => by
    obtain ⟨h1, h2, h3⟩ := foldl_min_mem l (min i a)
    refine ⟨?_, ?_, fun y hy => ?_⟩
    · rcases h1 with h | h
      · by_cases hh : i ≤ a
        · left; simp only [List.foldl_cons]; rw [h]; exact Int.min_eq_left hh
        · right; simp only [List.foldl_cons]; rw [h]; simp [Int.min_eq_right (show a ≤ i by omega)]
      · right; simp only [List.foldl_cons]; exact List.mem_cons_of_mem _ h
    · simp only [List.foldl_cons]; exact Int.le_trans h2 (Int.min_le_left i a)
    · simp only [List.foldl_cons]
      rcases List.mem_cons.mp hy with rfl | hy
      · exact Int.le_trans h2 (Int.min_le_right i y)
      · exact h3 y hy
theorem maxL_spec {l : List Int} {m : Int} (h : maxL l = some m) : m ∈ l ∧ ∀ y ∈ l, y ≤ m := by
  cases l with
  | nil => cases h
  | cons a l =>
    simp only [maxL, Option.some.injEq] at h
    obtain ⟨h1, h2, h3⟩ := foldl_max_mem l a
    rw [h] at h1 h2 h3
    refine ⟨?_, fun y hy => ?_⟩
    · rcases h1 with e | e
      · rw [e]; exact List.mem_cons_self
      · exact List.mem_cons_of_mem _ e
    · rcases List.mem_cons.mp hy with rfl | hy
      · exact h2
      · exact h3 y hy
theorem minL_spec {l : List Int} {m : Int} (h : minL l = some m) : m ∈ l ∧ ∀ y ∈ l, m ≤ y := by
  cases l with
  | nil => cases h
  | cons a l =>
    simp only [minL, Option.some.injEq] at h
    obtain ⟨h1, h2, h3⟩ := foldl_min_mem l a
    rw [h] at h1 h2 h3
    refine ⟨?_, fun y hy => ?_⟩
    · rcases h1 with e | e
      · rw [e]; exact List.mem_cons_self
      · exact List.mem_cons_of_mem _ e
    · rcases List.mem_cons.mp hy with rfl | hy
      · exact h2
      · exact h3 y hy
def sumG : G1 := fun p => match p with
  | .lst ps => (intsP ps).map fun bs => .int bs.sum
  | _ => none
def maxG : G1 := fun p => match p with
  | .lst ps => ((intsP ps).bind maxL).map PV.int
  | _ => none
def minG : G1 := fun p => match p with
  | .lst ps => ((intsP ps).bind minL).map PV.int
  | _ => none
theorem u_sum (hc : X.calm = true) : Un1 X (.builtin "sum") (g1 sumG) := Un1.plain (cr_sum hc) fun W H p x res Q rx e k => by
  cases p with
  | lst ps =>
    simp only [sumG, Option.map_eq_some_iff] at e
    obtain ⟨bs, e, rfl⟩ := e
    obtain ⟨a, vs, rfl, h1, h2⟩ := bv_lst rx
    have hv := ints_vs e h2
    subst hv
    exact ⟨a, bs, rfl, SqL.of h1, k _ rv_int⟩
  | _ => simp [sumG] at e
theorem u_max (hc : X.calm = true) : Un1 X (.builtin "max") (g1 maxG) := Un1.plain (cr_max hc) fun W H p x res Q rx e k => by
  cases p with
  | lst ps =>
    simp only [maxG, Option.map_eq_some_iff, Option.bind_eq_some_iff] at e
    obtain ⟨m, ⟨bs, e, hm⟩, rfl⟩ := e
    obtain ⟨a, vs, rfl, h1, h2⟩ := bv_lst rx
    have hv := ints_vs e h2
    subst hv
    obtain ⟨g1, g2⟩ := maxL_spec hm
    refine ⟨a, bs, rfl, SqL.of h1, List.length_pos_of_mem g1, fun m' hm' hle => ?_⟩
    have : m' = m := Int.le_antisymm (g2 m' hm') (hle m g1)
    subst this
    exact k _ rv_int
  | _ => simp [maxG] at e
theorem u_min (hc : X.calm = true) : Un1 X (.builtin "min") (g1 minG) := Un1.plain (cr_min hc) fun W H p x res Q rx e k => by
  cases p with
  | lst ps =>
    simp only [minG, Option.map_eq_some_iff, Option.bind_eq_some_iff] at e
    obtain ⟨m, ⟨bs, e, hm⟩, rfl⟩ := e
    obtain ⟨a, vs, rfl, h1, h2⟩ := bv_lst rx
    have hv := ints_vs e h2
    subst hv
    obtain ⟨g1, g2⟩ := minL_spec hm
    refine ⟨a, bs, rfl, SqL.of h1, List.length_pos_of_mem g1, fun m' hm' hle => ?_⟩
    have : m' = m := Int.le_antisymm (hle m g1) (g2 m' hm')
    subst this
    exact k _ rv_int
  | _ => simp [minG] at e
/-- list(x), tuple(x) -/
def listG : O1 := fun p => match p with
  | .lst ps => some (.lst ps, true)
  | .tup _ ps => some (.lst ps, true)
  | _ => none
theorem u_list : Un1 X (.type "list") listG := fun Z => by
  refine ⟨_, call_list_of, fun W H s σ p x res Q R rx e po => ?_⟩
  cases p with
  | lst ps =>
    simp only [listG, Option.some.injEq] at e
    subst e
    obtain ⟨a, vs, rfl, h1, h2⟩ := bv_lst rx
    exact ⟨a, vs, rfl, .inl (SqL.of h1), fun l hl => Post.newO R hl po ⟨vs, upd_same, (Step.allocO hl (R.nP hl)).rvs h2⟩⟩
  | tup c ps =>
    simp only [listG, Option.some.injEq] at e
    subst e
    obtain ⟨a, vs, rfl, h1, h2⟩ := bv_tup rx
    exact ⟨a, vs, rfl, .inr h1, fun l hl => Post.newO R hl po ⟨vs, upd_same, (Step.allocO hl (R.nP hl)).rvs h2⟩⟩
  | _ => simp [listG] at e
def tupG : G1 := fun p => match p with
  | .lst ps => some (.tup false ps)
  | .tup c ps => some (.tup c ps)
  | _ => none
theorem Post.toP {σ : L2.St} {W : Wd} {H : Hp} {K : PySem.W.Frag} {s : DS} {q : PV} {Q : VK} (h : Post rO K Z σ W H (.ok (q, false) s) Q) : Post rE K Z σ W H (.ok q s) Q := h
theorem u_tup : Un1 X (.type "tuple") (g1 tupG) := fun Z => by
  refine ⟨_, call_tuple_of, fun W H s σ p x res Q R rx e po => ?_⟩
  simp only [g1, Option.map_eq_some_iff] at e
  obtain ⟨z, e, rfl⟩ := e
  cases p with
  | lst ps =>
    simp only [tupG, Option.some.injEq] at e
    subst e
    obtain ⟨a, vs, rfl, h1, h2⟩ := bv_lst rx
    exact ⟨a, vs, rfl, .inl ⟨SqL.of h1, fun l hl => Post.newP R hl (Post.toP po) fun W1 st hL => new_tup hl hL (st.rvs h2)⟩⟩
  | tup c ps =>
    simp only [tupG, Option.some.injEq] at e
    subst e
    obtain ⟨a, vs, rfl, h1, h2⟩ := bv_tup rx
    refine ⟨a, vs, rfl, .inr ⟨h1, po _ W H (Step.refl _ _) R ?_⟩⟩
    rcases rx with rx | ⟨b, e, c⟩
    · exact rx
    · exact c.elim
  | _ => simp [tupG] at e
/-- isinstance(x, T), T a built-in class by its name -/
def tyN (p : PV) : Option String := match p with
  | .non => some "NoneType" | .bl _ => some "bool" | .int _ => some "int" | .str _ => some "str"
  | .tup _ _ => some "tuple" | .lst _ => some "list" | .dK _ => some "dict" | .dT _ => some "dict"
  | _ => none
def isiG (T : String) : G1 := fun p => ((tyN p).bind fun n => kitB n T).map PV.bl
theorem ty_of {K : PySem.W.Frag} {W : Wd} {H : Hp} {p : PV} {v : V} {n : String} (r : BV K W H p v) (e : tyN p = some n) : TyX K H v (.type n) := by
  cases p with
  | non => cases e; rcases r with r | ⟨a, _, c⟩; unfold RV Rep at r; rw [r]; exact .base .non; exact c.elim
  | bl b => cases e; rw [bv_bl r]; exact .base (.bl b)
  | int b => cases e; rw [bv_int r]; exact .base (.int b)
  | str b => cases e; rw [bv_str r]; exact .base (.str b)
  | tup c ps =>
    cases e
    obtain ⟨a, vs, rfl, h, _⟩ := bv_tup r
    rcases h with (h | ⟨o, h⟩) | ⟨o, its, n, h1, h2, _⟩
    · exact .base (.tup h)
    · exact .fTuple h
    · exact .kTuple h1 h2
  | lst ps => cases e; obtain ⟨a, vs, rfl, h, _⟩ := bv_lst r; exact .base (.lst h)
  | dK ps =>
    cases e
    rcases r with r | ⟨a, rfl, c⟩
    · unfold RV Rep at r
      obtain ⟨a, ws, rfl, h, _⟩ := r
      exact .base (.dK (msk_some.mp h).2)
    · obtain ⟨ws, h, _⟩ := c
      exact .base (.dK h)
  | dT ps =>
    cases e
    rcases r with r | ⟨a, rfl, c⟩
    · unfold RV Rep at r
      obtain ⟨a, ws, rfl, h, _⟩ := r
      exact .base (.dT (msk_some.mp h).2)
    · obtain ⟨ws, h, _⟩ := c
      exact .base (.dT h)
  | _ => cases e
theorem px_isi {T : String} {y : Str} {p p2 : Pos} (hg : Gl X "isinstance") (hm : X.mg "isinstance" = none) (ha : PB X Z e f) (hgT : Gl X y) (hmT : X.mg y = none) (hvT : bootBuiltins y = some (.type T)) (hb : bootBuiltins "isinstance" = some (.builtin "isinstance") := by decide +kernel)
    (hn : y ≠ "__name__" := by decide) (hd : (y == ("__debug__" : Str)) = false := by decide) (he : starEach [e, .Name y p2] X.env = (false, eval e X.env) :: starEach [.Name y p2] X.env := by rfl) (he2 : starEach [.Name y p2] X.env = (false, eval (.Name y p2) X.env) :: starEach [] X.env := by rfl)
    (hpl : (backTo pos (starEach [.Name y p2] X.env)).any (·.1) = false := by rfl) : PX X Z (.Call (.Name "isinstance" p) [e, .Name y p2] [] pos) (un1E (isiG T) f) := by
  refine px_of ⟨PE_imp (L2.pe_callB call_isi hg hm hb (L2.pa_cons ha.pe (L2.pa_cons (pe_bltn (v := .ty T) hgT hmT hvT rfl hn hd) L2.pa_nil he2) he) (by decide) (by decide) he hpl) fun σ H Q ⟨W, s, R, h⟩ => ⟨W, s, R, Post.bind h fun q s1 v W1 H1 _ st R1 rx po => ?_⟩⟩
  simp only [g1, isiG] at po
  cases e1 : tyN q with
  | none => simp only [e1] at po; exact po.elim
  | some n =>
    cases e2 : kitB n T with
    | none => simp only [e1, Option.bind_some, e2] at po; exact po.elim
    | some b =>
      simp only [e1, Option.bind_some, e2, Option.map_some] at po
      exact ⟨v, .ty T, .type n, .type T, b, rfl, .ty T, ty_of rx e1, kit_ty e2, po _ W1 H1 (Step.refl _ _) R1 (show RV X.K W1 H1 (.bl b) (.bl b) from rv_bl)⟩
end
end DR
/-! DR: dicts; in. -/
namespace DR
open PySem PySem.Spec PyProof.Rows L2
/-! ### tables of trees -/
section
variable {κ : Type} [DecidableEq κ]
def atP (l : List (κ × PV)) (k : κ) : Option PV := match l with
  | [] => none
  | p :: r => if p.1 = k then some p.2 else atP r k
def chP (l : List (κ × PV)) (k : κ) (v : PV) : List (κ × PV) := match l with
  | [] => []
  | p :: r => (if p.1 = k then (p.1, v) else p) :: chP r k v
def putP (l : List (κ × PV)) (k : κ) (v : PV) : List (κ × PV) := if (atP l k).isSome = true then chP l k v else l ++ [(k, v)]
end
section
variable {K : PySem.W.Frag} {cs : List Addr} {H : Hp}
theorem repK_at (k : Key) : ∀ {l : List (Key × PV)} {ws : List (Key × V)}, RepK K cs H l ws → (∀ p, atP l k = some p → ∃ v, valV ws k = some v ∧ Rep K cs H p v) ∧ (atP l k = none → valV ws k = none)
  | [], ws, r => by
    unfold RepK at r
    subst r
    exact And.intro (fun p e => by simp [atP] at e) (fun _ => rfl)
  | (j, q) :: l, ws, r => by
    unfold RepK at r
    obtain ⟨v, w, rfl, h1, h2⟩ := r
    by_cases e : j = k
    · refine ⟨fun p e' => ?_, fun e' => ?_⟩
      · simp only [atP, if_pos e, Option.some.injEq] at e'
        subst e'
        exact ⟨v, valV_pos e, h1⟩
      · simp only [atP, if_pos e] at e'
        cases e'
    · obtain ⟨g1, g2⟩ := repK_at k h2
      refine ⟨fun p e' => ?_, fun e' => ?_⟩
      · simp only [atP, if_neg e] at e'
        obtain ⟨u, u1, u2⟩ := g1 p e'
        exact ⟨u, by rw [valV_neg e]; exact u1, u2⟩
      · simp only [atP, if_neg e] at e'
        rw [valV_neg e]
        exact g2 e'
theorem repT_at (k : List Key) : ∀ {l : List (List Key × PV)} {ws : List (List Key × V)}, RepT K cs H l ws → (∀ p, atP l k = some p → ∃ v, valV ws k = some v ∧ Rep K cs H p v) ∧ (atP l k = none → valV ws k = none)
  | [], ws, r => by
    unfold RepT at r
    subst r
    exact And.intro (fun p e => by simp [atP] at e) (fun _ => rfl)
  | (j, q) :: l, ws, r => by
    unfold RepT at r
    obtain ⟨v, w, rfl, h1, h2⟩ := r
    by_cases e : j = k
    · refine ⟨fun p e' => ?_, fun e' => ?_⟩
      · simp only [atP, if_pos e, Option.some.injEq] at e'
        subst e'
        exact ⟨v, valV_pos e, h1⟩
      · simp only [atP, if_pos e] at e'
        cases e'
    · obtain ⟨g1, g2⟩ := repT_at k h2
      refine ⟨fun p e' => ?_, fun e' => ?_⟩
      · simp only [atP, if_neg e] at e'
        obtain ⟨u, u1, u2⟩ := g1 p e'
        exact ⟨u, by rw [valV_neg e]; exact u1, u2⟩
      · simp only [atP, if_neg e] at e'
        rw [valV_neg e]
        exact g2 e'
theorem repK_ch (k : Key) {p : PV} {v : V} (rp : Rep K cs H p v) : ∀ {l : List (Key × PV)} {ws : List (Key × V)}, RepK K cs H l ws → RepK K cs H (chP l k p) (ws.map fun kv => if kv.1 = k then (kv.1, v) else kv)
  | [], ws, r => by
    unfold RepK at r
    subst r
    unfold chP RepK
    rfl
  | (j, q) :: l, ws, r => by
    unfold RepK at r
    obtain ⟨u, w, rfl, h1, h2⟩ := r
    have ih := repK_ch k rp h2
    unfold chP
    by_cases e : j = k
    · simp only [e, if_true, List.map_cons]
      unfold RepK
      exact ⟨v, _, rfl, rp, ih⟩
    · simp only [e, if_false, List.map_cons]
      unfold RepK
      exact ⟨u, _, rfl, h1, ih⟩
theorem repT_ch (k : List Key) {p : PV} {v : V} (rp : Rep K cs H p v) : ∀ {l : List (List Key × PV)} {ws : List (List Key × V)}, RepT K cs H l ws → RepT K cs H (chP l k p) (ws.map fun kv => if kv.1 = k then (kv.1, v) else kv)
  | [], ws, r => by
    unfold RepT at r
    subst r
    unfold chP RepT
    rfl
  | (j, q) :: l, ws, r => by
    unfold RepT at r
    obtain ⟨u, w, rfl, h1, h2⟩ := r
    have ih := repT_ch k rp h2
    unfold chP
    by_cases e : j = k
    · simp only [e, if_true, List.map_cons]
      unfold RepT
      exact ⟨v, _, rfl, rp, ih⟩
    · simp only [e, if_false, List.map_cons]
      unfold RepT
      exact ⟨u, _, rfl, h1, ih⟩
theorem repK_snoc {k : Key} {p : PV} {v : V} (rp : Rep K cs H p v) : ∀ {l : List (Key × PV)} {ws : List (Key × V)}, RepK K cs H l ws → RepK K cs H (l ++ [(k, p)]) (ws ++ [(k, v)])
  | [], ws, r => by
    unfold RepK at r
    subst r
    show RepK K cs H [(k, p)] [(k, v)]
    unfold RepK
    exact ⟨v, [], rfl, rp, by unfold RepK; rfl⟩
  | (j, q) :: l, ws, r => by
    unfold RepK at r
    obtain ⟨u, w, rfl, h1, h2⟩ := r
    simp only [List.cons_append]
    unfold RepK
    exact ⟨u, _, rfl, h1, repK_snoc rp h2⟩
theorem repT_snoc {k : List Key} {p : PV} {v : V} (rp : Rep K cs H p v) : ∀ {l : List (List Key × PV)} {ws : List (List Key × V)}, RepT K cs H l ws → RepT K cs H (l ++ [(k, p)]) (ws ++ [(k, v)])
  | [], ws, r => by
    unfold RepT at r
    subst r
    show RepT K cs H [(k, p)] [(k, v)]
    unfold RepT
    exact ⟨v, [], rfl, rp, by unfold RepT; rfl⟩
  | (j, q) :: l, ws, r => by
    unfold RepT at r
    obtain ⟨u, w, rfl, h1, h2⟩ := r
    simp only [List.cons_append]
    unfold RepT
    exact ⟨u, _, rfl, h1, repT_snoc rp h2⟩
theorem repK_put (k : Key) {p : PV} {v : V} (rp : Rep K cs H p v) {l : List (Key × PV)} {ws : List (Key × V)} (r : RepK K cs H l ws) : RepK K cs H (putP l k p) (putK ws k v) := by
  obtain ⟨h1, h2⟩ := repK_at k r
  unfold putP putK
  rw [valV_any]
  cases e : atP l k with
  | none => rw [h2 e]; exact repK_snoc rp r
  | some q =>
    obtain ⟨u, e2, _⟩ := h1 q e
    rw [e2]
    exact repK_ch k rp r
theorem repT_put (k : List Key) {p : PV} {v : V} (rp : Rep K cs H p v) {l : List (List Key × PV)} {ws : List (List Key × V)} (r : RepT K cs H l ws) : RepT K cs H (putP l k p) (putK ws k v) := by
  obtain ⟨h1, h2⟩ := repT_at k r
  unfold putP putK
  rw [valV_any]
  cases e : atP l k with
  | none => rw [h2 e]; exact repT_snoc rp r
  | some q =>
    obtain ⟨u, e2, _⟩ := h1 q e
    rw [e2]
    exact repT_ch k rp r
theorem repK_len : ∀ {l : List (Key × PV)} {ws : List (Key × V)}, RepK K cs H l ws → ws.length = l.length
  | [], ws, r => by unfold RepK at r; subst r; rfl
  | (j, q) :: l, ws, r => by
    unfold RepK at r
    obtain ⟨u, w, rfl, h1, h2⟩ := r
    simp [repK_len h2]
theorem repT_len : ∀ {l : List (List Key × PV)} {ws : List (List Key × V)}, RepT K cs H l ws → ws.length = l.length
  | [], ws, r => by unfold RepT at r; subst r; rfl
  | (j, q) :: l, ws, r => by
    unfold RepT at r
    obtain ⟨u, w, rfl, h1, h2⟩ := r
    simp [repT_len h2]
/-- keys -/
def keyP : PV → Option Key
  | .int i => some (.inl i)
  | .str x => some (.inr x)
  | _ => none
def keysP : List PV → Option (List Key)
  | [] => some []
  | p :: ps => match keyP p, keysP ps with
    | some k, some ks => some (k :: ks)
    | _, _ => none
theorem keyP_v {p : PV} {k : Key} {v : V} (e : keyP p = some k) (r : Rep K cs H p v) : v = kV k := by
  cases p with
  | int i => cases e; unfold Rep at r; exact r
  | str i => cases e; unfold Rep at r; exact r
  | _ => cases e
theorem keysP_v : ∀ {ps : List PV} {ks : List Key} {vs : List V}, keysP ps = some ks → Reps K cs H ps vs → vs = ks.map kV
  | [], ks, vs, e, r => by
    cases e
    unfold Reps at r
    rw [r]
    rfl
  | p :: ps, ks, vs, e, r => by
    unfold Reps at r
    obtain ⟨v, w, rfl, h1, h2⟩ := r
    unfold keysP at e
    cases e1 : keyP p with
    | none => rw [e1] at e; cases e
    | some k =>
      cases e2 : keysP ps with
      | none => rw [e1, e2] at e; cases e
      | some ks' =>
        rw [e1, e2] at e
        cases e
        rw [keyP_v e1 h1, keysP_v e2 h2]
        rfl
end
/-! ### looking up, a key that may be a constant -/
def DG (K : PySem.W.Frag) (H : Hp) (a : Addr) (y : V) (r : Option V) : Prop :=
  (∃ l k, H a = some (.dK l) ∧ y = kV k ∧ r = valV l k) ∨ ∃ l ks b, H a = some (.dT l) ∧ y = .ref b ∧ SqT K H b (ks.map kV) ∧ r = valV l ks
section
variable {X : Cx} {pins : List (Addr × Obj)} {σ : L2.St} {H : Hp} {s : Shared} {a b : Addr} {y : V} {u : Value} {o : Option V} {A : Around} {E : Value → Shared → Prop}
theorem key_at {ks : List Key} (I : L2.Inv X pins σ H s) (h : SqT X.K H b (ks.map kV)) : (tupleKind (mixKind X.prog X.w)).is s.heap ks b := by
  obtain ⟨its, r, ⟨o, h1, h2, n, h3⟩, _⟩ := I.tuple h
  exact ⟨o, its.toArray, n, h1, h2, h3, by simpa using items_are r⟩
theorem DG.isD (I : L2.Inv X pins σ H s) (g : DG X.K H a y o) : s.TypeIs (.ref a) "dict" := by
  rcases g with ⟨l, k, e, _⟩ | ⟨l, ks, b, e, _⟩
  · obtain ⟨_, _, vs, _, dd⟩ := dk_of I.hok e
    exact dd.typeIs
  · obtain ⟨_, _, xs, _, dd⟩ := dt_of I.hok e
    exact dd.typeIs
theorem DG.get {v : V} {Q : Value → Shared → Prop} (hu : A.units + 1 < cLine) (I : L2.Inv X pins σ H s) (g : DG X.K H a y (some v)) (ry : RelV y u) (h : ∀ w' s', L2.Inv X pins σ H s' → RelV v w' → Q w' s') : wpAny (model X.prog X.w) A (getItem (.ref a) u) Q E s := by
  rcases g with ⟨l, k, e, ey, el⟩ | ⟨l, ks, b, e, ey, eb, el⟩
  · exact d_getItem hu I (by rw [ey, el]; exact DGet.k e) ry h
  · rw [ey] at ry
    cases (show u = Value.ref b from ry)
    obtain ⟨_, _, xs, rel, dd⟩ := dt_of I.hok e
    have ro := rel.val ks
    rw [← el] at ro
    obtain ⟨z, hz, rz⟩ := RelO.some_of ro
    obtain ⟨pr, hp, hp2⟩ := Option.map_eq_some_iff.mp hz
    subst hp2
    exact wpAny_getItem_heap (tupleKind_room_in1 hu) (key_at I eb) dd hp (h pr.2 _ (I.tok _) rz)
theorem DG.mem {Q : Value → Shared → Prop} (hu : A.units + 1 < cLine) (I : L2.Inv X pins σ H s) (g : DG X.K H a y o) (ry : RelV y u) (h : ∀ s', L2.Inv X pins σ H s' → Q (.bool o.isSome) s') : wpAny (model X.prog X.w) A (compareOp .In u (.ref a)) Q E s := by
  rcases g with ⟨l, k, e, ey, el⟩ | ⟨l, ks, b, e, ey, eb, el⟩
  · exact d_in (o := o) hu I (by rw [ey, el]; exact DGet.k e) ry h
  · rw [ey] at ry
    cases (show u = Value.ref b from ry)
    obtain ⟨_, hd, xs, rel, dd⟩ := dt_of I.hok e
    refine wpAny_in_heap (tupleKind_room_in1 hu) (key_at I eb) hd dd ?_
    have ro := (rel.val ks).isSome_eq
    rw [← el, Option.isSome_map] at ro
    rw [← ro]
    exact h _ (I.tok _)
theorem DG.nomem {Q : Value → Shared → Prop} (hu : A.units + 1 < cLine) (I : L2.Inv X pins σ H s) (g : DG X.K H a y o) (ry : RelV y u) (h : ∀ s', L2.Inv X pins σ H s' → Q (.bool (!o.isSome)) s') : wpAny (model X.prog X.w) A (compareOp .NotIn u (.ref a)) Q E s := by
  rcases g with ⟨l, k, e, ey, el⟩ | ⟨l, ks, b, e, ey, eb, el⟩
  · exact d_notIn (o := o) hu I (by rw [ey, el]; exact DGet.k e) ry h
  · rw [ey] at ry
    cases (show u = Value.ref b from ry)
    obtain ⟨_, hd, xs, rel, dd⟩ := dt_of I.hok e
    refine wpAny_notIn_heap (tupleKind_room_in1 hu) (key_at I eb) hd dd ?_
    have ro := (rel.val ks).isSome_eq
    rw [← el, Option.isSome_map] at ro
    rw [← ro]
    exact h _ (I.tok _)
end
/-- the value at a key: none where the key is of no kind, some none where there is nothing -/
def lookD (p q : PV) : Option (Option PV) := match p with
  | .dK l => (keyP q).map fun k => atP l k
  | .dT l => (match q with
    | .tup _ qs => (keysP qs).map fun ks => atP l ks
    | _ => none)
  | _ => none
section
variable {K : PySem.W.Frag} {W : Wd} {H : Hp}
theorem bv_dK {l : List (Key × PV)} {v : V} (h : BV K W H (.dK l) v) : ∃ a ws, v = .ref a ∧ H a = some (.dK ws) ∧ RepK K W.S (W.m H) l ws := by
  rcases h with h | ⟨a, e, ws, h1, h2⟩
  · unfold RV Rep at h
    obtain ⟨a, ws, e, h1, h2⟩ := h
    exact ⟨a, ws, e, (msk_some.mp h1).2, h2⟩
  · exact ⟨a, ws, e, h1, h2⟩
theorem bv_dT {l : List (List Key × PV)} {v : V} (h : BV K W H (.dT l) v) : ∃ a ws, v = .ref a ∧ H a = some (.dT ws) ∧ RepT K W.S (W.m H) l ws := by
  rcases h with h | ⟨a, e, ws, h1, h2⟩
  · unfold RV Rep at h
    obtain ⟨a, ws, e, h1, h2⟩ := h
    exact ⟨a, ws, e, (msk_some.mp h1).2, h2⟩
  · exact ⟨a, ws, e, h1, h2⟩
theorem lookD_ok {p q : PV} {x y : V} {r : Option PV} (e : lookD p q = some r) (rx : BV K W H p x) (ry : RV K W H q y) : ∃ a o, x = .ref a ∧ DG K H a y o ∧ (∀ z, r = some z → ∃ v, o = some v ∧ RV K W H z v) ∧ (r = none → o = none) := by
  unfold lookD at e
  split at e
  · rename_i l
    simp only [Option.map_eq_some_iff] at e
    obtain ⟨k, ek, rfl⟩ := e
    obtain ⟨a, ws, rfl, h1, h2⟩ := bv_dK rx
    obtain ⟨g1, g2⟩ := repK_at k h2
    exact ⟨a, valV ws k, rfl, .inl ⟨ws, k, h1, keyP_v ek ry, rfl⟩, g1, g2⟩
  · rename_i l
    split at e
    · rename_i c qs
      simp only [Option.map_eq_some_iff] at e
      obtain ⟨ks, ek, rfl⟩ := e
      obtain ⟨a, ws, rfl, h1, h2⟩ := bv_dT rx
      obtain ⟨g1, g2⟩ := repT_at ks h2
      obtain ⟨b, vs, rfl, k1, k2⟩ := rv_tup_inv ry
      have hv := keysP_v ek k2
      subst hv
      exact ⟨a, valV ws ks, rfl, .inr ⟨ws, ks, b, h1, rfl, k1, rfl⟩, g1, g2⟩
    · cases e
  · cases e
end
section
variable {X : Cx} {Z : WX} {x : Str} {pos pos' p1 p2 : Pos} {e a b : Expr} {f g : EM}
def rIxQ (K : PySem.W.Frag) : R2 := fun x y H Q => ∃ a v, x = .ref a ∧ DG K H a y (some v) ∧ Q v H
theorem ix_dict (hu : X.A.units + 1 < cLine) : IxR X (rIxQ X.K) := by
  intro value slice pins s σ H x y v u Q I rx ry h hs
  obtain ⟨a, z, rfl, g, q⟩ := h
  cases rx
  exact tail_any (DG.isD I g) PySem.F.slot_dict_getitem.lookup (g.get hu I ry fun w' s' I' rz => ⟨z, H, I', rz, q⟩) hs
theorem ix_all (hu : X.A.units + 1 < cLine) : IxR X (fun x y H Q => rIx X.K x y H Q ∨ rIxQ X.K x y H Q) := ix_seq.or (ix_dict hu)
/-! ### in -/
def rInT (K : PySem.W.Frag) (n : Bool) : R2 := fun x y H Q => ∃ d ds, Dp K H x d ∧ Dp K H y (.tuple ds) ∧ SeqAt.shaped d = true ∧ SeqAt.shaped (.tuple ds) = true ∧ Q (.bl (n != ds.any fun z => PyData.eqv z d)) H
theorem op_inT (hu : X.A.units + 65 < cLine) : OpR X (compareOp .In) (rInT X.K false) := by
  intro pins s σ H x y v u Q I rx ry h
  obtain ⟨d, ds, hd, he, sd, se, q⟩ := h
  obtain ⟨l1, r1⟩ := Dp.reads I d x v hd rx
  obtain ⟨l2, r2⟩ := Dp.reads I (.tuple ds) y u he ry
  rw [Bool.false_bne] at q
  have lay : PyData.canLayAll0 ds = true := by
    have := SeqAt.canLay_of_shaped se
    simpa [PyData.canLay0] using this
  exact SeqAt.in_tuple_reads r2 r1 lay (SeqAt.canLay_of_shaped sd) (room_in_shaped sd hu) ⟨.bl _, H, I, rfl, q⟩
theorem op_notInT (hu : X.A.units + 65 < cLine) : OpR X (compareOp .NotIn) (rInT X.K true) := by
  intro pins s σ H x y v u Q I rx ry h
  obtain ⟨d, ds, hd, he, sd, se, q⟩ := h
  obtain ⟨l1, r1⟩ := Dp.reads I d x v hd rx
  obtain ⟨l2, r2⟩ := Dp.reads I (.tuple ds) y u he ry
  rw [Bool.true_bne] at q
  have lay : PyData.canLayAll0 ds = true := by
    have := SeqAt.canLay_of_shaped se
    simpa [PyData.canLay0] using this
  exact SeqAt.notIn_tuple_reads r2 r1 lay (SeqAt.canLay_of_shaped sd) (room_in_shaped sd hu) ⟨.bl _, H, I, rfl, q⟩
def rInQ (K : PySem.W.Frag) (n : Bool) : R2 := fun x y H Q => ∃ a o, y = .ref a ∧ DG K H a x o ∧ Q (.bl (n != o.isSome)) H
theorem op_inQ (hu : X.A.units + 1 < cLine) : OpR X (compareOp .In) (rInQ X.K false) := by
  intro pins s σ H x y v u Q I rx ry h
  obtain ⟨a, o, rfl, g, q⟩ := h
  cases ry
  rw [Bool.false_bne] at q
  exact g.mem hu I rx fun s' I' => ⟨.bl _, H, I', rfl, q⟩
theorem op_notInQ (hu : X.A.units + 1 < cLine) : OpR X (compareOp .NotIn) (rInQ X.K true) := by
  intro pins s σ H x y v u Q I rx ry h
  obtain ⟨a, o, rfl, g, q⟩ := h
  cases ry
  rw [Bool.true_bne] at q
  exact g.nomem hu I rx fun s' I' => ⟨.bl _, H, I', rfl, q⟩
/-- the item, the container -/
def memD (q : PV) (ps : List PV) : Option Bool := match toD q, toDs ps with
  | some d, some ds => if SeqAt.shaped d && SeqAt.shaped (.list ds) && SeqAt.shaped (.tuple ds) then some (ds.any fun z => PyData.eqv z d) else none
  | _, _ => none
def inG (n : Bool) : P2 := fun q p => match p with
  | .lst ps => (memD q ps).map fun b => .bl (n != b)
  | .tup _ ps => (memD q ps).map fun b => .bl (n != b)
  | .dK _ => (lookD p q).map fun o => .bl (n != o.isSome)
  | .dT _ => (lookD p q).map fun o => .bl (n != o.isSome)
  | _ => none
theorem memD_some {q : PV} {ps : List PV} {b : Bool} (e : memD q ps = some b) : ∃ d ds, toD q = some d ∧ toDs ps = some ds ∧ SeqAt.shaped d = true ∧ SeqAt.shaped (.list ds) = true ∧ SeqAt.shaped (.tuple ds) = true ∧ b = ds.any fun z => PyData.eqv z d := by
  unfold memD at e
  split at e
  · rename_i d ds e1 e2
    split at e
    · rename_i h
      simp only [Bool.and_eq_true] at h
      exact ⟨d, ds, e1, e2, h.1.1, h.1.2, h.2, (Option.some.inj e).symm⟩
    · cases e
  · cases e
/-- a rule whose right side is only looked at -/
def BinB (X : Cx) (f : Value → Value → Sem Value) (g : P2) : Prop := ∃ r : R2, OpR X f r ∧ ∀ (W : Wd) (H : Hp) (p q : PV) (x y : V) (res : PV) (Q : VK), RV X.K W H p x → BV X.K W H q y → g p q = some res → (∀ v, RV X.K W H res v → Q v H) → r x y H Q
theorem inG_ok {K : PySem.W.Frag} {W : Wd} {H : Hp} {p q : PV} {x y : V} {n : Bool} {res : PV} {Q : VK} {rD : R2} (hD : ∀ d ds, Dp K H x d → Dp K H y (.list ds) → SeqAt.shaped d = true → SeqAt.shaped (.list ds) = true → Q (.bl (n != ds.any fun z => PyData.eqv z d)) H → rD x y H Q)
    (rx : RV K W H p x) (ry : BV K W H q y) (e : inG n p q = some res) (k : ∀ v, RV K W H res v → Q v H) : rD x y H Q ∨ rInT K n x y H Q ∨ rInQ K n x y H Q := by
  unfold inG at e
  split at e
  · rename_i ps
    simp only [Option.map_eq_some_iff] at e
    obtain ⟨b, e, rfl⟩ := e
    obtain ⟨d, ds, e1, e2, s1, s2, s3, rfl⟩ := memD_some e
    obtain ⟨a, vs, rfl, h1, h2⟩ := bv_lst ry
    exact .inl (hD d ds (rep_dp (msk_sub _ _) p x d rx e1) (.lst (SqL.of h1) (reps_dp (msk_sub _ _) ps vs ds h2 e2)) s1 s2 (k _ rv_bl))
  · rename_i c ps
    simp only [Option.map_eq_some_iff] at e
    obtain ⟨b, e, rfl⟩ := e
    obtain ⟨d, ds, e1, e2, s1, s2, s3, rfl⟩ := memD_some e
    obtain ⟨a, vs, rfl, h1, h2⟩ := bv_tup ry
    exact .inr (.inl ⟨d, ds, rep_dp (msk_sub _ _) p x d rx e1, .tup h1 (reps_dp (msk_sub _ _) ps vs ds h2 e2), s1, s3, k _ rv_bl⟩)
  · rename_i l
    simp only [Option.map_eq_some_iff] at e
    obtain ⟨r, e, rfl⟩ := e
    obtain ⟨a, o, ea, g, h1, h2⟩ := lookD_ok e ry rx
    refine .inr (.inr ⟨a, o, ea, g, k _ ?_⟩)
    cases r with
    | none => rw [h2 rfl]; exact rv_bl
    | some z => obtain ⟨v, hv, _⟩ := h1 z rfl; rw [hv]; exact rv_bl
  · rename_i l
    simp only [Option.map_eq_some_iff] at e
    obtain ⟨r, e, rfl⟩ := e
    obtain ⟨a, o, ea, g, h1, h2⟩ := lookD_ok e ry rx
    refine .inr (.inr ⟨a, o, ea, g, k _ ?_⟩)
    cases r with
    | none => rw [h2 rfl]; exact rv_bl
    | some z => obtain ⟨v, hv, _⟩ := h1 z rfl; rw [hv]; exact rv_bl
  · cases e
theorem bb_in (hu : X.A.units + 65 < cLine) : BinB X (compareOp .In) (inG false) :=
  ⟨_, OpR_or (op_inD hu) (OpR_or (op_inT hu) (op_inQ (by omega))), fun W H p q x y res Q rx ry e k => inG_ok (rD := rInD X.K) (fun d ds a b c f g => ⟨d, ds, a, b, c, f, by rw [Bool.false_bne] at g; exact g⟩) rx ry e k⟩
theorem bb_notin (hu : X.A.units + 65 < cLine) : BinB X (compareOp .NotIn) (inG true) :=
  ⟨_, OpR_or (op_notInD hu) (OpR_or (op_notInT hu) (op_notInQ (by omega))), fun W H p q x y res Q rx ry e k => inG_ok (rD := rNotInD X.K) (fun d ds a b c f g => ⟨d, ds, a, b, c, f, by rw [Bool.true_bne] at g; exact g⟩) rx ry e k⟩
theorem px_cmpB {op : CmpOp} {g : P2} {fa fb : EM} (hg : BinB X (compareOp op) g) (ha : PX X Z a fa) (hb : PB X Z b fb) (hm : behindInMarks op b = false := by first | exact nomark _ | rfl | with_unfolding_all rfl) : PX X Z (.Compare a [op] [b] pos) (binE g fa fb) := by
  obtain ⟨r, o, k⟩ := hg
  refine px_of ⟨PE_imp (L2.pe_cmpR o ha.pe hb.pe hm) fun σ H Q h => ?_⟩
  obtain ⟨W, s, R, h⟩ := h
  refine ⟨W, s, R, Post.bind h fun p s1 x W1 H1 _ st R1 rx q => ⟨W1, s1, R1, Post.bind q fun q0 s2 y W2 H2 _ st2 R2 ry q2 => ?_⟩⟩
  simp only [DR.p2] at q2
  cases e : g p q0 with
  | none => simp only [e, Option.map_none] at q2; exact q2.elim
  | some res =>
    simp only [e, Option.map_some] at q2
    exact k W2 H2 p q0 x y res Q (st2.rv rx) ry e fun v rv => q2 v W2 H2 (Step.refl _ _) R2 rv
/-! ### {}, len -/
def newK : OM := fun s => .ok (.dK [], true) s
def newT : OM := fun s => .ok (.dT [], true) s
theorem po_newK : PO X Z (.Dict [] [] pos) newK := ⟨PE_imp L2.pe_dnewK fun σ H Q ⟨W, s, R, h⟩ p hp => Post.newO R hp h ⟨[], upd_same, by unfold RepK; rfl⟩⟩
theorem po_newT : PO X Z (.Dict [] [] pos) newT := ⟨PE_imp L2.pe_dnewT fun σ H Q ⟨W, s, R, h⟩ p hp => Post.newO R hp h ⟨[], upd_same, by unfold RepT; rfl⟩⟩
def lenQ : G1 := fun p => match p with
  | .dK l => some (.int l.length)
  | .dT l => some (.int l.length)
  | _ => none
def rLenQ : List V → Hp → VK → Prop := fun xs H Q => ∃ (p : Addr) (l : List (Key × V)), xs = [.ref p] ∧ H p = some (.dK l) ∧ Q (.int ((l.length : Nat) : Int)) H
theorem call_len_dK : CallR X (.builtin "len") rLenQ := by
  intro pins s σ H xs us Q I r h
  obtain ⟨p, l, rfl, hp, q⟩ := h
  obtain ⟨u, rfl, rx⟩ := vals1 r
  cases rx
  exact d_len I (.inl hp) fun t s' I' => ⟨.int _, H, I', ⟨t, rfl⟩, q⟩
theorem u_lenQ : Un1 X (.builtin "len") (g1 lenQ) := Un1.plain (CallR_or call_len_dK call_len_dT) fun W H p x res Q rx e k => by
  cases p with
  | dK l =>
    simp only [lenQ, Option.some.injEq] at e
    subst e
    obtain ⟨a, ws, rfl, h1, h2⟩ := bv_dK rx
    exact .inl ⟨a, ws, rfl, h1, k _ (by rw [repK_len h2]; exact rv_int)⟩
  | dT l =>
    simp only [lenQ, Option.some.injEq] at e
    subst e
    obtain ⟨a, ws, rfl, h1, h2⟩ := bv_dT rx
    exact .inr ⟨a, ws, rfl, h1, k _ (by rw [repT_len h2]; exact rv_int)⟩
  | _ => simp [lenQ] at e
end
end DR
/-! DR: items, slices, methods, stores into lists. -/
namespace DR
open PySem PySem.Spec PyProof.Rows L2
theorem rE_non {K : PySem.W.Frag} {σ : L2.St} {W : Wd} {H : Hp} {s : DS} : rE K σ W H s .non .non := rv_non (K := K) (W := W) (H := H)
theorem atI_rep {K : PySem.W.Frag} {cs : List Addr} {H : Hp} {ps : List PV} {vs : List V} {i : Int} {p : PV} (r : Reps K cs H ps vs) (h : atI ps i = some p) : ∃ v, atI vs i = some v ∧ Rep K cs H p v := by
  unfold atI at h ⊢
  rw [r.len]
  cases e : ixN ps.length i with
  | none => rw [e] at h; cases h
  | some j =>
    rw [e] at h
    obtain ⟨v, h1, h2⟩ := r.get h
    exact ⟨v, h1, h2⟩
def ixG : P2 := fun p q => match p, q with
  | .lst ps, .int i => atI ps i
  | .tup _ ps, .int i => atI ps i
  | .scr ps, .int i => atI ps i
  | .str z, .int i => if lineOk z.length then (atI z.cps.toList i).map fun c => .str ⟨#[c]⟩ else none
  | .dK l, q => (lookD (.dK l) q).bind id
  | .dT l, q => (lookD (.dT l) q).bind id
  | _, _ => none
section
variable {X : Cx} {Z : WX} {x : Str} {pos pos' p1 p2 : Pos} {e a b : Expr} {f g : EM}
theorem ixG_ok {K : PySem.W.Frag} {W : Wd} {H : Hp} {p q r : PV} {x y : V} {Q : VK} (rx : BV K W H p x) (ry : RV K W H q y) (h : ixG p q = some r) (k : ∀ v, RV K W H r v → Q v H) : rIx K x y H Q ∨ rIxQ K x y H Q := by
  have dict : ∀ {d : PV}, ((lookD d q).bind id) = some r → BV K W H d x → rIxQ K x y H Q := fun {d} e rd => by
    cases e1 : lookD d q with
    | none => rw [e1] at e; cases e
    | some z =>
      rw [e1] at e
      obtain ⟨a, o, rfl, g, g1, g2⟩ := lookD_ok e1 rd ry
      cases z with
      | none => cases e
      | some z =>
        cases e
        obtain ⟨v, rfl, rv⟩ := g1 r rfl
        exact ⟨a, v, rfl, g, k v rv⟩
  unfold ixG at h
  split at h
  · rename_i ps i
    obtain ⟨a, vs, rfl, h1, h2⟩ := bv_lst rx
    obtain ⟨v, h3, h4⟩ := atI_rep h2 h
    exact .inl (.inl ⟨a, vs, i, v, rfl, rv_int_inv ry, SqL.of h1, h3, k v h4⟩)
  · rename_i ps i
    obtain ⟨a, vs, rfl, h1, h2⟩ := bv_tup rx
    obtain ⟨v, h3, h4⟩ := atI_rep h2 h
    exact .inl (.inr (.inl ⟨a, vs, i, v, rfl, rv_int_inv ry, h1, h3, k v h4⟩))
  · rename_i ps i
    obtain ⟨a, vs, rfl, h1, h2⟩ := bv_scr rx
    obtain ⟨v, h3, h4⟩ := atI_rep h2 h
    exact .inl (.inl ⟨a, vs, i, v, rfl, rv_int_inv ry, h1, h3, k v h4⟩)
  · rename_i z i
    by_cases hz : lineOk z.length = true
    · rw [if_pos hz] at h
      simp only [Option.map_eq_some_iff] at h
      obtain ⟨c, h, rfl⟩ := h
      exact .inl (.inr (.inr ⟨z, i, c, bv_str rx, rv_int_inv ry, of_decide_eq_true hz, h, k _ rv_str⟩))
    · rw [if_neg hz] at h
      cases h
  · exact .inr (dict h rx)
  · exact .inr (dict h rx)
  · cases h
def ixE (f g : EM) : EM := fun s => (f s).bind fun p s1 => (g s1).bind fun q s2 => match ixG p q with
  | some r => .ok r s2
  | none => .bad
def ixN (i : Nat) (g : EM) : EM := fun s => (nameB i s).bind fun _ _ => (g s).bind fun q s2 => (nameB i s2).bind fun p s3 => match ixG p q with
  | some r => .ok r s3
  | none => .bad
theorem px_ix (hu : X.A.units + 1 < cLine) (ha : PX X Z a f) (hb : PX X Z b g) (hs : PlainIx b := by exact fun _ _ => rfl) : PX X Z (.Subscript a b pos) (ixE f g) := by
  refine ⟨PE_imp (L2.pe_ix (ix_all hu) ha.pe hb.pe hs) fun σ H Q ⟨W, s, R, h⟩ => ⟨W, s, R, Post.bind h fun p s1 x W1 H1 _ st R1 rx q => ⟨W1, s1, R1, Post.bind q fun q2 s2 y W2 H2 _ st2 R2 ry k => ?_⟩⟩⟩
  cases e : ixG p q2 with
  | none => simp only [e] at k; exact k.elim
  | some r => simp only [e] at k; exact ixG_ok (.inl (st2.rv rx)) ry e fun v rv => k v W2 H2 (Step.refl _ _) R2 rv
theorem nameB_ok {s s1 : DS} {i : Nat} {p : PV} (h : nameB i s = .ok p s1) : s1 = s := by
  unfold nameB at h
  split at h
  · rename_i k e
    cases e1 : s.t[k]? <;> rw [e1] at h <;> cases h
    rfl
  · cases h; rfl
  · cases h; rfl
  · cases h
/-- the name's slot is looked at ahead of the index and behind it -/
theorem nameB_two {K : PySem.W.Frag} {W : Wd} {H : Hp} {s : DS} {σ : L2.St} {i : Nat} {Q : VK} {rest : DS → Re PV} (R : RSt K W H s σ) (h : Post rE K Z σ W H ((nameB i s).bind fun _ _ => rest s) Q) : ∃ v, σ[i]? = some (some v) ∧ Post rE K Z σ W H (rest s) Q := by
  cases e : nameB i s with
  | bad => rw [e] at h; exact h.elim
  | exc x s1 => exact (nameB_no e).elim
  | ok p s1 =>
    rw [e] at h
    obtain ⟨rfl, v, h1, _⟩ := nameB_bv R e
    exact ⟨v, h1, h⟩
theorem nameB_end {K : PySem.W.Frag} {W : Wd} {H : Hp} {s : DS} {σ : L2.St} {i : Nat} {v : V} {Q : VK} {rest : PV → DS → Re PV} (R : RSt K W H s σ) (hv : σ[i]? = some (some v)) (h : Post rE K Z σ W H ((nameB i s).bind rest) Q) : ∃ p, BV K W H p v ∧ Post rE K Z σ W H (rest p s) Q := by
  cases e : nameB i s with
  | bad => rw [e] at h; exact h.elim
  | exc x s1 => exact (nameB_no e).elim
  | ok p s1 =>
    rw [e] at h
    obtain ⟨rfl, v', h1, h2⟩ := nameB_bv R e
    rw [hv] at h1
    cases h1
    exact ⟨p, h2, h⟩
theorem px_ixN (hu : X.A.units + 1 < cLine) (i : Nat) (hN : X.N[i]? = some x := by rfl) (hb : PX X Z b g) (hv : Vis X.env.scope x := by first | exact Or.inl rfl | exact Or.inr (Or.inl rfl) | exact Or.inr (Or.inr rfl)) (hs : PlainIx b := by exact fun _ _ => rfl)
    (hd : (x == ("__debug__" : Str)) = false := by decide) (hcd : (x == ("__classdict__" : Str)) = false := by decide) : PX X Z (.Subscript (.Name x p1) b pos) (ixN i g) := by
  refine ⟨PE_imp (L2.pe_ix (ix_all hu) (pe_var hN hv hd hcd) hb.pe hs) fun σ H Q ⟨W, s, R, h⟩ => ?_⟩
  obtain ⟨v, h1, h⟩ := nameB_two (rest := fun s => (g s).bind fun q s2 => (nameB i s2).bind fun p s3 => match ixG p q with
    | some r => .ok r s3
    | none => .bad) R h
  refine ⟨v, h1, W, s, R, Post.bind h fun q2 s2 y W2 H2 _ st2 R2 ry k => ?_⟩
  obtain ⟨p, h2, k⟩ := nameB_end R2 h1 k
  cases e : ixG p q2 with
  | none => simp only [e] at k; exact k.elim
  | some r => simp only [e] at k; exact ixG_ok h2 ry e fun v rv => k v W2 H2 (Step.refl _ _) R2 rv
/-! ### slices -/
def cutP (ps : List PV) (lo hi : Option Int) : List PV := (ps.drop (HT.sIx ps.length 0 lo)).take (HT.sIx ps.length ps.length hi - HT.sIx ps.length 0 lo)
theorem cut_rep {K : PySem.W.Frag} {cs : List Addr} {H : Hp} {ps : List PV} {vs : List V} {lo hi : Option Int} (r : Reps K cs H ps vs) : Reps K cs H (cutP ps lo hi) (cutV vs lo hi) := by
  unfold cutP cutV
  rw [r.len]
  exact (r.drop _).take _
abbrev QM := DS → Re (Option Int)
def rQ : RT (Option Int) (Option Int) := fun _ _ _ _ _ a b => b = a
structure PQ (X : Cx) (Z : WX) (e : Option Expr) (f : QM) : Prop where
  po : L2.PO X e (tG rQ X.K Z f)
def noQ : QM := fun s => .ok none s
def someQ (f : EM) : QM := fun s => (f s).bind fun p s1 => match p with
  | .int i => .ok (some i) s1
  | _ => .bad
theorem q_none : PQ X Z none noQ := ⟨⟨fun pins s σ H Q I ⟨W, s1, R, h⟩ => L2.po_none.run pins s σ H Q I (h none W H (Step.refl _ _) R rfl)⟩⟩
theorem q_some (h : PX X Z e f) : PQ X Z (some e) (someQ f) := by
  refine ⟨⟨fun pins s σ H Q I h' => (L2.po_some h.pe).run pins s σ H Q I ?_⟩⟩
  obtain ⟨W, s1, R, h'⟩ := h'
  refine ⟨W, s1, R, Post.bind h' fun p s1 x W1 H1 _ st R1 rx q => ?_⟩
  cases p with
  | int i => exact ⟨i, rv_int_inv (K := X.K) (W := W1) (H := H1) rx, q _ W1 H1 (Step.refl _ _) R1 rfl⟩
  | _ => exact q.elim
def cutG (p : PV) (lo hi : Option Int) : Option (PV × Bool) := match p with
  | .lst ps => some (.lst (cutP ps lo hi), true)
  | .scr ps => some (.lst (cutP ps lo hi), true)
  | .tup c ps => some (.tup c (cutP ps lo hi), false)
  | .str z => if lineOk z.length then some (.str (cutS z lo hi), false) else none
  | _ => none
theorem sl_all : SlR X (fun x lo hi H Q => rSlL X.K x lo hi H Q ∨ (rSlA X.K x lo hi H Q ∨ rSlS x lo hi H Q)) := SlR.or sl_list (SlR.or sl_tupA sl_str)
theorem cutG_ok {W : Wd} {H : Hp} {K : PySem.W.Frag} {s : DS} {σ : L2.St} {p : PV} {x : V} {lo hi : Option Int} {res : PV × Bool} {Q : VK} (R : RSt K W H s σ) (rx : BV K W H p x) (e : cutG p lo hi = some res) (po : Post rO K Z σ W H (.ok res s) Q) :
    rSlL K x lo hi H Q ∨ (rSlA K x lo hi H Q ∨ rSlS x lo hi H Q) := by
  cases p with
  | lst ps =>
    simp only [cutG, Option.some.injEq] at e
    subst e
    obtain ⟨a, vs, rfl, h1, h2⟩ := bv_lst rx
    exact .inl ⟨a, vs, rfl, SqL.of h1, fun l hl => Post.newO R hl po ⟨_, upd_same, (Step.allocO hl (R.nP hl)).rvs (cut_rep h2)⟩⟩
  | scr ps =>
    simp only [cutG, Option.some.injEq] at e
    subst e
    obtain ⟨a, vs, rfl, h1, h2⟩ := bv_scr rx
    exact .inl ⟨a, vs, rfl, h1, fun l hl => Post.newO R hl po ⟨_, upd_same, (Step.allocO hl (R.nP hl)).rvs (cut_rep h2)⟩⟩
  | tup c ps =>
    simp only [cutG, Option.some.injEq] at e
    subst e
    obtain ⟨a, vs, rfl, h1, h2⟩ := bv_tup rx
    refine .inr (.inl ⟨a, vs, rfl, h1, fun hw => ?_, fun _ l hl => Post.newP R hl (Post.toP po) fun W1 st hL => new_tup hl hL (st.rvs (cut_rep h2))⟩)
    have hc : cutP ps lo hi = ps := by
      unfold cutP
      rw [← h2.len]
      rw [hw.1, hw.2, List.drop_zero, Nat.sub_zero, h2.len]
      exact List.take_length
    rw [hc] at po
    refine po _ W H (Step.refl _ _) R ?_
    rcases rx with rx | ⟨b, e, c⟩
    · exact rx
    · exact c.elim
  | str z =>
    simp only [cutG] at e
    by_cases hz : lineOk z.length = true
    · rw [if_pos hz] at e
      cases e
      exact .inr (.inr ⟨z, bv_str rx, of_decide_eq_true hz, po _ W H (Step.refl _ _) R (show RV K W H (.str (cutS z lo hi)) (.str (cutS z lo hi)) from rv_str)⟩)
    · rw [if_neg hz] at e
      cases e
  | _ => simp [cutG] at e
def cutO (f : EM) (l u : QM) : OM := fun s => (f s).bind fun p s1 => (l s1).bind fun lo s2 => (u s2).bind fun hi s3 => match cutG p lo hi with
  | some r => .ok r s3
  | none => .bad
def cutN (i : Nat) (l u : QM) : OM := fun s => (nameB i s).bind fun _ _ => (l s).bind fun lo s2 => (u s2).bind fun hi s3 => (nameB i s3).bind fun p s4 => match cutG p lo hi with
  | some r => .ok r s4
  | none => .bad
variable {lo hi : Option Expr} {l u : QM}
theorem po_cut (ha : PX X Z a f) (hl : PQ X Z lo l) (hu : PQ X Z hi u) : PO X Z (.Subscript a (.Slice lo hi none p2) pos) (cutO f l u) := by
  refine ⟨PE_imp (L2.pe_slice sl_all ha.pe hl.po hu.po) fun σ H Q ⟨W, s, R, h⟩ => ⟨W, s, R, Post.bind h fun p s1 x W1 H1 _ st R1 rx q => ⟨W1, s1, R1, Post.bind q fun lo s2 lo' W2 H2 _ st2 R2 e1 q => ⟨W2, s2, R2, Post.bind q fun hi s3 hi' W3 H3 _ st3 R3 e2 k => ?_⟩⟩⟩⟩
  obtain rfl : lo' = lo := e1
  obtain rfl : hi' = hi := e2
  cases e : cutG p lo' hi' with
  | none => simp only [e] at k; exact k.elim
  | some r => simp only [e] at k; exact cutG_ok R3 (.inl ((st2.trans st3).rv rx)) e k
theorem po_cutN (i : Nat) (hN : X.N[i]? = some x := by rfl) (hl : PQ X Z lo l) (hu : PQ X Z hi u) (hv : Vis X.env.scope x := by first | exact Or.inl rfl | exact Or.inr (Or.inl rfl) | exact Or.inr (Or.inr rfl))
    (hd : (x == ("__debug__" : Str)) = false := by decide) (hcd : (x == ("__classdict__" : Str)) = false := by decide) : PO X Z (.Subscript (.Name x p1) (.Slice lo hi none p2) pos) (cutN i l u) := by
  refine ⟨PE_imp (L2.pe_slice sl_all (pe_var hN hv hd hcd) hl.po hu.po) fun σ H Q ⟨W, s, R, h⟩ => ?_⟩
  unfold cutN at h
  cases e0 : nameB i s with
  | bad => rw [e0] at h; exact h.elim
  | exc x s1 => exact (nameB_no e0).elim
  | ok p0 s0 =>
    rw [e0] at h
    obtain ⟨rfl, v, h1, _⟩ := nameB_bv R e0
    refine ⟨v, h1, W, s0, R, Post.bind h fun lo s2 lo' W2 H2 _ st2 R2 e1 q => ⟨W2, s2, R2, Post.bind q fun hi s3 hi' W3 H3 _ st3 R3 e2 k => ?_⟩⟩
    obtain rfl : lo' = lo := e1
    obtain rfl : hi' = hi := e2
    cases e : nameB i s3 with
    | bad => rw [e] at k; exact k.elim
    | exc x s1 => exact (nameB_no e).elim
    | ok p s4 =>
      rw [e] at k
      obtain ⟨rfl, v', g1, g2⟩ := nameB_bv R3 e
      rw [h1] at g1
      cases g1
      simp only [Re.bind] at k
      cases e3 : cutG p lo' hi' with
      | none => simp only [e3] at k; exact k.elim
      | some r => simp only [e3] at k; exact cutG_ok R3 g2 e3 k
/-- x[::-1] of a list -/
def revG : O1 := fun p => match p with
  | .lst ps => some (.lst ps.reverse, true)
  | _ => none
theorem po_revL {k : Nat} {q1 q2 q3 : Pos} (ha : PB X Z a f) : PO X Z (.Subscript a (.Slice none none (some (.UnaryOp .USub (.Constant (.int 1) k q1) q2)) q3) pos) (un1O revG f) := by
  refine ⟨PE_imp (L2.pe_revL ha.pe) fun σ H Q ⟨W, s, R, h⟩ => ⟨W, s, R, Post.bind h fun p s1 x W1 H1 _ st R1 rx po => ?_⟩⟩
  cases p with
  | lst ps =>
    simp only [revG] at po
    obtain ⟨a, vs, rfl, h1, h2⟩ := bv_lst rx
    exact ⟨a, vs, rfl, SqL.of h1, fun l hl => Post.newO R1 hl po ⟨_, upd_same, (Step.allocO hl (R1.nP hl)).rvs h2.rev⟩⟩
  | _ => simp only [revG] at po; exact po.elim
/-! ### an object that a name holds is changed -/
def modB (i : Nat) (u : PV → Option (PV × PV)) (s : DS) : Re PV := match s.e[i]? with
  | some (.own p) => (match u p with
    | some (p', r) => .ok r ⟨s.e.set i (.own p'), s.t⟩
    | none => .bad)
  | some (.val (.cell k)) => (match s.t[k]? with
    | some p => (match u p with
      | some (p', r) => .ok r ⟨s.e, s.t.set k p'⟩
      | none => .bad)
    | none => .bad)
  | _ => .bad
theorem con_upd {K : PySem.W.Frag} {W : Wd} {H : Hp} {p : PV} {a b : Addr} {o : HO} (hL : a ∈ W.L) (hn : b ≠ a) (c : Con K W H p b) : Con K W (upd H a o) p b := by
  unfold Con at c ⊢
  cases p <;> simp only [Wd.m_upd hL, upd_ne hn] <;> exact c
theorem modB_ok {K : PySem.W.Frag} {W : Wd} {H : Hp} {s s' : DS} {σ : L2.St} {i : Nat} {u : PV → Option (PV × PV)} {r : PV} (R : RSt K W H s σ) (h : modB i u s = .ok r s') :
    ∃ p p' a, u p = some (p', r) ∧ σ[i]? = some (some (.ref a)) ∧ a ∈ W.L ∧ Con K W H p a ∧ ∀ o, Con K W (upd H a o) p' a → Step W H W (upd H a o) ∧ RSt K W (upd H a o) s' σ := by
  have step : ∀ {a : Addr} {o : HO}, a ∈ W.O ∨ a ∈ W.S → Step W H W (upd H a o) := fun {a o} ha => by
    have hL : a ∈ W.L := by
      unfold Wd.L
      rcases ha with z | z <;> simp [z]
    have nP : a ∉ W.P := ha.elim (R.t.pa a) (R.t.ps a)
    refine ⟨by rw [Wd.m_upd hL]; exact Same.refl _, fun b hb => ?_, fun _ z => .inl z, Pre.refl _, fun _ z => .inl z, rfl, fun b hb => upd_ne fun z => nP (z ▸ hb)⟩
    by_cases z : b = a
    · rw [z, upd_same] at hb
      cases hb
    · rw [upd_ne z] at hb
      exact hb
  unfold modB at h
  split at h
  · rename_i p e
    cases e1 : u p with
    | none => rw [e1] at h; cases h
    | some pr =>
      obtain ⟨p', r'⟩ := pr
      rw [e1] at h
      cases h
      obtain ⟨a, h1, h2, h3⟩ := R.e.ow i p e
      have hL : a ∈ W.L := by simp [Wd.L, h2]
      refine ⟨p, p', a, e1, h1, hL, h3, fun o hc => ⟨step (.inl h2), ?_⟩⟩
      have hm : W.m (upd H a o) = W.m H := Wd.m_upd hL
      have tr : ∀ {b}, Th H b → Th (upd H a o) b := fun {b} ⟨w, hw⟩ => by
        by_cases z : b = a
        · rw [z]; exact hc.th
        · exact ⟨w, by rw [upd_ne z]; exact hw⟩
      refine ⟨⟨by simp [R.e.len], fun j q hj => ?_, fun j q hj => ?_, fun j k q q' b h1' h2' h3' h4' => ?_⟩, ⟨R.t.len, fun k q b e1 e2 => ?_, R.t.nd, R.t.ap, fun b hb => tr (R.t.pt b hb), R.t.pa, R.t.ps, fun b hb => tr (R.t.ot b hb)⟩⟩
      · rcases get_set hj with ⟨rfl, z⟩ | ⟨hj, z⟩
        · cases z
        · obtain ⟨v, g1, g2⟩ := R.e.at_ j q z
          refine ⟨v, g1, ?_⟩
          show Rep K W.S (W.m (upd H a o)) q v
          rw [hm]
          exact g2
      · rcases get_set hj with ⟨rfl, z⟩ | ⟨hj, z⟩
        · cases z
          exact ⟨a, h1, h2, hc⟩
        · obtain ⟨b, g1, g2, g3⟩ := R.e.ow j q z
          exact ⟨b, g1, g2, con_upd hL (fun y => hj (R.e.inj j i q p a z e (by rw [g1, y]) h1)) g3⟩
      · have back : ∀ {j q}, (s.e.set i (Sl.own p'))[j]? = some (Sl.own q) → ∃ q', s.e[j]? = some (Sl.own q') := fun {j q} hj => by
          rcases get_set hj with ⟨rfl, z⟩ | ⟨_, z⟩
          · exact ⟨p, e⟩
          · exact ⟨q, z⟩
        obtain ⟨x1, y1⟩ := back h1'
        obtain ⟨x2, y2⟩ := back h2'
        exact R.e.inj j k x1 x2 b y1 y2 h3' h4'
      · exact con_upd hL (fun y => R.t.ap a h2 (y ▸ List.mem_of_getElem? e2)) (R.t.at_ k q b e1 e2)
  · rename_i k e
    cases e0 : s.t[k]? with
    | none => rw [e0] at h; cases h
    | some p =>
      rw [e0] at h
      simp only at h
      cases e1 : u p with
      | none => rw [e1] at h; cases h
      | some pr =>
        obtain ⟨p', r'⟩ := pr
        rw [e1] at h
        cases h
        obtain ⟨v, h1, h2⟩ := R.e.at_ i _ e
        unfold RV Rep at h2
        obtain ⟨a, rfl, h2⟩ := h2
        have hS : a ∈ W.S := List.mem_of_getElem? h2
        have hL : a ∈ W.L := by simp [Wd.L, hS]
        have hk : k < s.t.length := (List.getElem?_eq_some_iff.mp e0).1
        refine ⟨p, p', a, e1, h1, hL, R.t.at_ k p a e0 h2, fun o hc => ⟨step (.inr hS), ?_⟩⟩
        have hm : W.m (upd H a o) = W.m H := Wd.m_upd hL
        have tr : ∀ {b}, Th H b → Th (upd H a o) b := fun {b} ⟨w, hw⟩ => by
          by_cases z : b = a
          · rw [z]; exact hc.th
          · exact ⟨w, by rw [upd_ne z]; exact hw⟩
        refine ⟨⟨R.e.len, fun j q hj => ?_, fun j q hj => ?_, R.e.inj⟩, ⟨by simp [R.t.len], fun j q b g1 g2 => ?_, R.t.nd, R.t.ap, fun b hb => tr (R.t.pt b hb), R.t.pa, R.t.ps, fun b hb => tr (R.t.ot b hb)⟩⟩
        · obtain ⟨v, g1, g2⟩ := R.e.at_ j q hj
          refine ⟨v, g1, ?_⟩
          show Rep K W.S (W.m (upd H a o)) q v
          rw [hm]
          exact g2
        · obtain ⟨b, g1, g2, g3⟩ := R.e.ow j q hj
          exact ⟨b, g1, g2, con_upd hL (fun y => R.t.ap b g2 (y ▸ hS)) g3⟩
        · by_cases hjk : j = k
          · subst hjk
            rw [List.getElem?_set_self hk] at g1
            cases g1
            rw [h2] at g2
            cases g2
            exact hc
          · rw [List.getElem?_set_ne (Ne.symm hjk)] at g1
            refine con_upd hL (fun y => hjk ?_) (R.t.at_ j q b g1 g2)
            subst y
            obtain ⟨j1, j2⟩ := List.getElem?_eq_some_iff.mp g2
            obtain ⟨k1, k2⟩ := List.getElem?_eq_some_iff.mp h2
            exact (List.getElem_inj R.t.nd).mp (j2.trans k2.symm)
  · cases h
theorem modB_no {i : Nat} {u : PV → Option (PV × PV)} {s s1 : DS} {x : Exn} (h : modB i u s = .exc x s1) : False := by
  unfold modB at h
  split at h
  · rename_i p e
    cases e1 : u p <;> rw [e1] at h <;> cases h
  · rename_i k e
    cases e1 : s.t[k]? with
    | none => rw [e1] at h; cases h
    | some p =>
      rw [e1] at h
      simp only at h
      cases e2 : u p <;> rw [e2] at h <;> cases h
  · cases h
/-- x.append(e) -/
def appU (q : PV) : PV → Option (PV × PV) := fun p => match p with
  | .lst ps => if ps.length < sizeLine then some (.lst (ps ++ [q]), .non) else none
  | _ => none
def appE (i : Nat) (g : EM) : EM := fun s => (nameB i s).bind fun p _ => if (tyN p = some "list") then (g s).bind fun q s2 => modB i (appU q) s2 else .bad
theorem con_lst {K : PySem.W.Frag} {W : Wd} {H : Hp} {ps : List PV} {a : Addr} (c : Con K W H (.lst ps) a) : ∃ vs, H a = some (.lst vs) ∧ RVs K W H ps vs := c
theorem rvs_upd {K : PySem.W.Frag} {W : Wd} {H : Hp} {a : Addr} {o : HO} {ps : List PV} {vs : List V} (h : a ∈ W.L) (r : RVs K W H ps vs) : RVs K W (upd H a o) ps vs := by
  show Reps K W.S (W.m (upd H a o)) ps vs
  rw [Wd.m_upd h]
  exact r
theorem rv_upd {K : PySem.W.Frag} {W : Wd} {H : Hp} {a : Addr} {o : HO} {p : PV} {v : V} (h : a ∈ W.L) (r : RV K W H p v) : RV K W (upd H a o) p v := by
  show Rep K W.S (W.m (upd H a o)) p v
  rw [Wd.m_upd h]
  exact r
theorem px_app (i : Nat) {apos cpos : Pos} (hN : X.N[i]? = some x := by rfl) (hb : PX X Z e g) (hv : Vis X.env.scope x := by first | exact Or.inl rfl | exact Or.inr (Or.inl rfl) | exact Or.inr (Or.inr rfl))
    (hd : (x == ("__debug__" : Str)) = false := by decide) (hcd : (x == ("__classdict__" : Str)) = false := by decide)
    (hbase : attributeBase (.Name x p1) "append" X.env (eval (.Name x p1) X.env) = eval (.Name x p1) X.env := by rfl)
    (hfew : ((backTo cpos (starEach [e] X.env)).all (fun x => !x.1) && (backToKw cpos (keywordEach [] X.env)).all (fun x => x.1.isSome)
      && decide ([e].length + ([] : List Keyword).length + (if ([] : List Keyword).isEmpty then 0 else 1) < 30)) = true := by rfl)
    (hline : (apos.endLine == cpos.line) = true := by rfl) (hs : starEach [e] X.env = (false, eval e X.env) :: starEach [] X.env := by rfl) :
    PX X Z (.Call (.Attribute (.Name x p1) "append" apos) [e] [] cpos) (appE i g) := by
  refine ⟨PE_imp (L2.pe_bm PySem.F.plainAttrs_list PySem.F.slot_list_append PySem.F.type_list_append mt_append (pe_var hN hv hd hcd) (L2.pa_cons hb.pe L2.pa_nil hs) hbase hfew hline hs rfl) fun σ H Q ⟨W, s, R, h⟩ => ?_⟩
  unfold appE at h
  cases e0 : nameB i s with
  | bad => rw [e0] at h; exact h.elim
  | exc x s1 => exact (nameB_no e0).elim
  | ok p0 s0 =>
    rw [e0] at h
    simp only [Re.bind] at h
    obtain ⟨rfl, v, h1, hb0⟩ := nameB_bv R e0
    by_cases ht : tyN p0 = some "list"
    · rw [if_pos ht] at h
      obtain ⟨ps0, rfl⟩ : ∃ ps, p0 = .lst ps := by
        cases p0 <;> simp [tyN] at ht
        exact ⟨_, rfl⟩
      obtain ⟨a0, vs0, rfl, g1, g2⟩ := bv_lst hb0
      refine ⟨_, h1, .inl ⟨rfl, vs0, SqL.of g1⟩, W, s0, R, Post.bind h fun q s2 y W2 H2 _ st2 R2 ry k => ?_⟩
      cases em : modB i (appU q) s2 with
      | bad => rw [em] at k; exact k.elim
      | exc x s1 => exact (modB_no em).elim
      | ok r s3 =>
        rw [em] at k
        obtain ⟨p, p', a, u1, u2, u3, u4, u5⟩ := modB_ok R2 em
        rw [h1] at u2
        cases u2
        cases p with
        | lst ps =>
          obtain ⟨vs, c1, c2⟩ := con_lst u4
          simp only [appU] at u1
          split at u1
          · rename_i hz
            cases u1
            obtain ⟨st3, R3⟩ := u5 (.lst (vs ++ [y])) ⟨_, upd_same, rvs_upd u3 (c2.app (reps_cons ry reps_nil))⟩
            exact ⟨a0, vs, y, rfl, rfl, c1, by rw [c2.len]; exact hz, k _ W2 _ st3 R3 rE_non⟩
          · cases u1
        | _ => simp [appU] at u1
    · rw [if_neg ht] at h
      exact h.elim
/-- x[e] = v -/
def setU (j q : PV) : PV → Option (PV × PV) := fun p => match p, j with
  | .lst ps, .int j => (L2.ixN ps.length j).map fun k => (.lst (ps.set k q), .non)
  | .dK l, j => if l.length < sizeLine then (keyP j).map fun k => (.dK (putP l k q), .non) else none
  | .dT l, .tup false js => if l.length < sizeLine then (keysP js).map fun k => (.dT (putP l k q), .non) else none
  | _, _ => none
def rSetA : TSet := fun o i v H Q => rSetL o i v H Q ∨ rSetD o i v H Q
theorem set_all (hu : X.A.units + 1 < cLine) : PSet X rSetA := fun pins s σ H o i v ov iv u Q I a b c h => h.elim (set_list pins s σ H o i v ov iv u Q I a b c) (set_dict hu pins s σ H o i v ov iv u Q I a b c)
theorem con_dK {K : PySem.W.Frag} {W : Wd} {H : Hp} {l : List (Key × PV)} {a : Addr} (c : Con K W H (.dK l) a) : ∃ ws, H a = some (.dK ws) ∧ RepK K W.S (W.m H) l ws := c
theorem con_dT {K : PySem.W.Frag} {W : Wd} {H : Hp} {l : List (List Key × PV)} {a : Addr} (c : Con K W H (.dT l) a) : ∃ ws, H a = some (.dT ws) ∧ RepT K W.S (W.m H) l ws := c
theorem setU_ok {K : PySem.W.Frag} {W : Wd} {H : Hp} {s s' : DS} {σ : L2.St} {i : Nat} {j q r : PV} {jv y v : V} {Q : Hp → Prop} (R : RSt K W H s σ) (h1 : σ[i]? = some (some v)) (em : modB i (setU j q) s = .ok r s') (rj : RV K W H j jv) (rq : RV K W H q y)
    (k : ∀ H', Step W H W H' → RSt K W H' s' σ → Q H') : rSetA v jv y H Q := by
  obtain ⟨p, p', a, u1, u2, u3, u4, u5⟩ := modB_ok R em
  rw [h1] at u2
  cases u2
  unfold setU at u1
  split at u1
  · rename_i ps j
    simp only [Option.map_eq_some_iff] at u1
    obtain ⟨jn, hj, u1⟩ := u1
    cases u1
    obtain ⟨vs, c1, c2⟩ := con_lst u4
    obtain ⟨st3, R3⟩ := u5 (.lst (vs.set jn y)) ⟨_, upd_same, rvs_upd u3 (c2.set rq)⟩
    exact .inl ⟨a, vs, j, jn, rfl, rv_int_inv rj, c1, by rw [c2.len]; exact hj, k _ st3 R3⟩
  · rename_i l
    split at u1
    · rename_i hl
      simp only [Option.map_eq_some_iff] at u1
      obtain ⟨kk, hk, u1⟩ := u1
      cases u1
      obtain ⟨ws, c1, c2⟩ := con_dK u4
      obtain ⟨st3, R3⟩ := u5 (.dK (putK ws kk y)) ⟨_, upd_same, by rw [Wd.m_upd u3]; exact repK_put kk rq c2⟩
      exact .inr ⟨a, _, rfl, .inl ⟨ws, kk, c1, keyP_v hk rj, by rw [repK_len c2]; exact hl, rfl⟩, k _ st3 R3⟩
    · cases u1
  · rename_i l js
    split at u1
    · rename_i hl
      simp only [Option.map_eq_some_iff] at u1
      obtain ⟨kk, hk, u1⟩ := u1
      cases u1
      obtain ⟨ws, c1, c2⟩ := con_dT u4
      obtain ⟨st3, R3⟩ := u5 (.dT (putK ws kk y)) ⟨_, upd_same, by rw [Wd.m_upd u3]; exact repT_put kk rq c2⟩
      unfold RV Rep at rj
      obtain ⟨b, vs, eb, k1, k2⟩ := rj
      rw [if_neg (by decide)] at k1
      have hv := keysP_v hk k2
      subst hv
      exact .inr ⟨a, _, rfl, .inr ⟨ws, kk, b, c1, eb, (msk_some.mp k1).2, by rw [repT_len c2]; exact hl, rfl⟩, k _ st3 R3⟩
    · cases u1
  · cases u1
def setIxS (i : Nat) (f g : EM) : SM := fun s => (f s).bind fun q s1 => (nameB i s1).bind fun _ _ => (g s1).bind fun j s2 => (modB i (setU j q) s2).bind fun _ s3 => .ok .nx s3
theorem ps_setIx (hu : X.A.units + 1 < cLine) (i : Nat) {vpos : Pos} {v : Expr} (hN : X.N[i]? = some x := by rfl) (hf : PX X Z v f) (hb : PX X Z b g) (hv : Vis X.env.scope x := by first | exact Or.inl rfl | exact Or.inr (Or.inl rfl) | exact Or.inr (Or.inr rfl))
    (hd : (x == ("__debug__" : Str)) = false := by decide) (hcd : (x == ("__classdict__" : Str)) = false := by decide)
    (ha : ∀ v, assign (.Subscript (.Name x p1) b vpos) X.env v = (do
      let ov ← holding [v] (eval (.Name x p1) X.env)
      let iv ← holding [v, ov] (eval b X.env)
      standAt vpos
      holding [v, ov, iv] (setItem ov iv v)
      release [v, ov, iv] []) := by intro _; rfl)
    (hs : swapsWithSole [.Subscript (.Name x p1) b vpos] v pos.line X.env = pure false := by rfl) (hw : swappedStores [.Subscript (.Name x p1) b vpos] v X.env = pure none := by rfl)
    (h1 : (assignEach [.Subscript (.Name x p1) b vpos] X.env).map (·.2) = [assign (.Subscript (.Name x p1) b vpos) X.env] := by rfl) : PSX X Z (.Assign [.Subscript (.Name x p1) b vpos] v pos) (setIxS i f g) := by
  refine ⟨PS_imp (L2.ps_asg hf.pe (L2.pg_sub (pe_var hN hv hd hcd) hb.pe (set_all hu) ha) hs hw h1) fun D σ H ⟨W, s, R, h⟩ => ⟨W, s, R, PostS.bindE h fun q s1 y W1 H1 _ st R1 ry k => ?_⟩⟩
  cases e0 : nameB i s1 with
  | bad => simp only [e0] at k; exact k.elim
  | exc x s1 => exact (nameB_no e0).elim
  | ok p0 s0 =>
    rw [e0] at k
    simp only [Re.bind] at k
    obtain ⟨rfl, v, h1, hb0⟩ := nameB_bv R1 e0
    refine ⟨v, h1, W1, s0, R1, PostS.bindE k fun j s2 jv W2 H2 _ st2 R2 rj k => ?_⟩
    cases em : modB i (setU j q) s2 with
    | bad => rw [em] at k; exact k.elim
    | exc x s1 => exact (modB_no em).elim
    | ok r s3 =>
      rw [em] at k
      exact setU_ok R2 h1 em rj (st2.rv ry) fun H3 st3 R3 => k σ W2 H3 st3 R3
/-- x[e] += v, x[e] -= v over ints -/
def lixG : P2 := fun p q => match p, q with
  | .lst ps, .int i => atI ps i
  | _, _ => none
def augIxS (i : Nat) (c : P2) (g f : EM) : SM := fun s => (nameB i s).bind fun _ _ => (g s).bind fun j s1 => (nameB i s1).bind fun p _ => match lixG p j with
  | some old => (f s1).bind fun q s2 => (match c old q with
    | some r => (modB i (setU j r) s2).bind fun _ s3 => .ok .nx s3
    | none => .bad)
  | none => .bad
theorem get_all (hu : X.A.units + 1 < cLine) : PGet X (rIxL X.K) := by
  intro pins s σ H o i ov iv Q I ro ri h
  obtain ⟨p, xs, k, z, rfl, rfl, hq, he, q⟩ := h
  cases ro
  obtain ⟨t, rfl⟩ := ri
  obtain ⟨its, r, pl, hz⟩ := I.list hq
  obtain ⟨j, h1, h2, h3, h4, h5⟩ := atI_get he
  obtain ⟨w, ew, rw'⟩ := r.get h2
  have hl := r.length
  have hn := line63
  have fin : EP X pins σ Q w s := ⟨z, H, I, rw', q⟩
  by_cases h0 : 0 ≤ k
  · have hj : k.toNat = j := by
      rw [seqIndex_of h0 h5] at h1
      exact Option.some.inj h1
    exact wpAny_getItem_list pl.isList h0 (by omega) (by rw [hj]; simpa using ew) fin
  · have hj : (k + (its.toArray.size : Int)).toNat = j := by
      rw [seqIndex_neg (by omega) h4] at h1
      rw [List.size_toArray, ← hl]
      exact Option.some.inj h1
    exact wpAny_getItem_list_neg pl.isList (by omega) (by rw [List.size_toArray] <;> omega) (by omega) (by rw [hj]; simpa using ew) fin
end
end DR
/-! DR: several values at once, op=, the store grows. -/
namespace DR
open PySem PySem.Spec PyProof.Rows L2
/-! ### an owned value is kept while others are reckoned -/
def Wd.hold (W : Wd) (a : Addr) : Wd := ⟨W.O.filter fun b => decide (b ≠ a), W.S, a :: W.P⟩
def Wd.free (W' W : Wd) (a : Addr) : Wd := ⟨a :: W'.O, W'.S, W.P⟩
section
variable {K : PySem.W.Frag} {W W' : Wd} {H H' : Hp} {s s' : DS} {σ : L2.St} {a : Addr}
theorem hold_in {b : Addr} : b ∈ (W.hold a).O ↔ b ∈ W.O ∧ b ≠ a := by simp [Wd.hold]
theorem hold_m (ha : a ∈ W.O) : (W.hold a).m H = W.m H := m_of_iff fun b => by
  simp only [Wd.L, Wd.hold, List.mem_append, List.mem_cons, List.mem_filter, decide_eq_true_eq]
  by_cases hb : b = a
  · subst hb; simp [ha]
  · constructor
    · rintro (⟨h, _⟩ | h | h | h)
      · exact .inl h
      · exact .inr (.inl h)
      · exact absurd h hb
      · exact .inr (.inr h)
    · rintro (h | h | h)
      · exact .inl ⟨h, hb⟩
      · exact .inr (.inl h)
      · exact .inr (.inr (.inr h))
theorem RSt.hold (R : RSt K W H s σ) (ha : a ∈ W.O) (hn : ∀ (i : Nat) (q : PV), s.e[i]? = some (.own q) → σ[i]? ≠ some (some (.ref a))) : RSt K (W.hold a) H s σ := by
  have hm : (W.hold a).m H = W.m H := hold_m ha
  refine ⟨⟨R.e.len, fun i p h => ?_, fun i p h => ?_, R.e.inj⟩, ⟨R.t.len, fun k p b e1 e2 => con_m hm.symm rfl (R.t.at_ k p b e1 e2), R.t.nd, fun b h => R.t.ap b (hold_in.mp h).1, fun b h => ?_, fun b h z => ?_, fun b h z => ?_, fun b h => R.t.ot b (hold_in.mp h).1⟩⟩
  · obtain ⟨v, h1, h2⟩ := R.e.at_ i p h
    refine ⟨v, h1, ?_⟩
    show Rep K W.S ((W.hold a).m H) p v
    rw [hm]
    exact h2
  · obtain ⟨b, h1, h2, h3⟩ := R.e.ow i p h
    exact ⟨b, h1, hold_in.mpr ⟨h2, fun z => hn i p h (by rw [h1, z])⟩, con_m hm.symm rfl h3⟩
  · rcases List.mem_cons.mp h with z | z
    · rw [z]; exact R.t.ot a ha
    · exact R.t.pt b z
  · rcases List.mem_cons.mp z with y | y
    · exact (hold_in.mp h).2 y
    · exact R.t.pa b (hold_in.mp h).1 y
  · rcases List.mem_cons.mp z with y | y
    · exact R.t.ap a ha (y ▸ h)
    · exact R.t.ps b h y
theorem free_m (hP : W'.P = a :: W.P) : (W'.free W a).m H' = W'.m H' := m_of_iff fun b => by
  simp only [Wd.L, Wd.free, hP, List.mem_append, List.mem_cons]
  constructor
  · rintro ((h | h) | h | h) <;> simp [h]
  · rintro (h | h | h | h) <;> simp [h]
theorem Step.free (ha : a ∈ W.O) (st : Step (W.hold a) H W' H') : Step W H (W'.free W a) H' := by
  have hP : W'.P = a :: W.P := st.prv
  refine ⟨?_, st.there, fun b h => ?_, st.pre, fun b h => ?_, rfl, fun b h => st.pk b (List.mem_cons_of_mem _ h)⟩
  · rw [free_m hP, ← hold_m ha]
    exact st.same
  · rcases List.mem_cons.mp h with h | h
    · rw [h]; exact .inl ha
    · exact (st.new b h).imp (fun z => (hold_in.mp z).1) id
  · rcases st.sto b h with z | z | z
    · exact .inl z
    · exact .inr (.inl (hold_in.mp z).1)
    · exact .inr (.inr z)
theorem RSt.free (R : RSt K W H s σ) (ha : a ∈ W.O) (st : Step (W.hold a) H W' H') (R' : RSt K W' H' s' σ) : RSt K (W'.free W a) H' s' σ := by
  have hP : W'.P = a :: W.P := st.prv
  have hm : (W'.free W a).m H' = W'.m H' := free_m hP
  refine ⟨⟨R'.e.len, fun i p h => ?_, fun i p h => ?_, R'.e.inj⟩, ⟨R'.t.len, fun k p b e1 e2 => con_m hm.symm rfl (R'.t.at_ k p b e1 e2), R'.t.nd, fun b h => ?_, fun b h => R'.t.pt b (by rw [hP]; exact List.mem_cons_of_mem _ h), fun b h z => ?_, fun b h z => R'.t.ps b h (by rw [hP]; exact List.mem_cons_of_mem _ z), fun b h => ?_⟩⟩
  · obtain ⟨v, h1, h2⟩ := R'.e.at_ i p h
    refine ⟨v, h1, ?_⟩
    show Rep K W'.S ((W'.free W a).m H') p v
    rw [hm]
    exact h2
  · obtain ⟨b, h1, h2, h3⟩ := R'.e.ow i p h
    exact ⟨b, h1, List.mem_cons_of_mem _ h2, con_m hm.symm rfl h3⟩
  · rcases List.mem_cons.mp h with z | z
    · rw [z]; exact fun y => R'.t.ps a y (by rw [hP]; exact List.mem_cons_self)
    · exact R'.t.ap b z
  · rcases List.mem_cons.mp h with y | y
    · rw [y] at z; exact R.t.pa a ha z
    · exact R'.t.pa b y (by rw [hP]; exact List.mem_cons_of_mem _ z)
  · rcases List.mem_cons.mp h with y | y
    · rw [y]; exact R'.t.pt a (by rw [hP]; exact List.mem_cons_self)
    · exact R'.t.ot b y
end
/-! ### several values, some owned -/
def rOs (K : PySem.W.Frag) (σ : L2.St) (W : Wd) (H : Hp) (s : DS) : List (PV × Bool) → List V → Prop
  | [], vs => vs = []
  | p :: ps, vs => ∃ v r, vs = v :: r ∧ rO K σ W H s p v ∧ rOs K σ W H s ps r ∧ (p.2 = true → ∀ (i : Nat) (q : PV × Bool) (w : V), ps[i]? = some q → q.2 = true → r[i]? = some w → w ≠ v)
abbrev LM := DS → Re (List (PV × Bool))
def rOsT : RT (List (PV × Bool)) (List V) := fun K σ W H s ps vs => rOs K σ W H s ps vs
def nilL : LM := fun s => .ok [] s
def consL (f : OM) (g : LM) : LM := fun s => (f s).bind fun p s1 => (g s1).bind fun ps s2 => .ok (p :: ps) s2
structure PLX (X : Cx) (Z : WX) (es : List Expr) (f : LM) : Prop where
  pa : PA X es (tG rOsT X.K Z f)
section
variable {K : PySem.W.Frag} {W W' : Wd} {H H' : Hp} {s s' : DS} {σ : L2.St} {a : Addr}
theorem rOs_own : ∀ {ps : List (PV × Bool)} {vs : List V}, rOs K σ W H s ps vs → ∀ (i : Nat) (q : PV × Bool) (w : V), ps[i]? = some q → q.2 = true → vs[i]? = some w → ∃ b, w = .ref b ∧ b ∈ W.O
  | [], _, _, i, q, w, e, _, _ => by simp at e
  | p :: ps, vs, r, i, q, w, e, hq, ew => by
    unfold rOs at r
    obtain ⟨v, rr, rfl, h1, h2, h3⟩ := r
    cases i with
    | zero =>
      simp at e ew
      subst e ew
      obtain ⟨p, b⟩ := p
      subst hq
      obtain ⟨b, e, hb, _⟩ := (show Own K σ W H s p v from h1)
      exact ⟨b, e, hb⟩
    | succ i => exact rOs_own h2 i q w (by simpa using e) hq (by simpa using ew)
theorem rO_free {p : PV × Bool} {v : V} (hm : (W'.free W a).m H' = W'.m H') (r : rO K σ W' H' s' p v) : rO K σ (W'.free W a) H' s' p v := by
  obtain ⟨p, b⟩ := p
  cases b with
  | false =>
    show Rep K W'.S ((W'.free W a).m H') p v
    rw [hm]
    exact r
  | true =>
    obtain ⟨b, e1, e2, e3, e4⟩ := (show Own K σ W' H' s' p v from r)
    exact ⟨b, e1, List.mem_cons_of_mem _ e2, con_m hm.symm rfl e3, e4⟩
theorem rOs_free (hm : (W'.free W a).m H' = W'.m H') : ∀ {ps : List (PV × Bool)} {vs : List V}, rOs K σ W' H' s' ps vs → rOs K σ (W'.free W a) H' s' ps vs
  | [], _, r => r
  | p :: ps, vs, r => by
    unfold rOs at r ⊢
    obtain ⟨v, rr, e, h1, h2, h3⟩ := r
    exact ⟨v, rr, e, rO_free hm h1, rOs_free hm h2, h3⟩
theorem rO_step {p : PV × Bool} {v : V} (h : p.2 = false) (st : Step W H W' H') (r : rO K σ W H s p v) : rO K σ W' H' s' p v := by
  obtain ⟨p, b⟩ := p
  subst h
  exact st.rv (show RV K W H p v from r)
end
section
variable {X : Cx} {Z : WX} {e : Expr} {es : List Expr} {f : OM} {g : LM} {pos : Pos}
theorem pl_nil : PLX X Z [] nilL := ⟨PA_imp pa_nil fun σ H Q ⟨W, s, R, h⟩ => h [] W H (Step.refl _ _) R (show rOs X.K σ W H s [] [] from rfl)⟩
theorem pl_cons (ha : PO X Z e f) (hr : PLX X Z es g) (hs : starEach (e :: es) X.env = (false, eval e X.env) :: starEach es X.env := by rfl) : PLX X Z (e :: es) (consL f g) := by
  refine ⟨PA_imp (L2.pa_cons ha.pe hr.pa hs) fun σ H Q ⟨W, s, R, h⟩ => ?_⟩
  refine ⟨W, s, R, Post.bind h fun p s1 v W1 H1 _ st R1 rv q => ?_⟩
  obtain ⟨p, fr⟩ := p
  cases fr with
  | false =>
    have rv : RV X.K W1 H1 p v := rv
    refine ⟨W1, s1, R1, Post.bind q fun ps s2 vs W2 H2 _ st2 R2 rvs q2 => q2 _ W2 H2 (Step.refl _ _) R2 ?_⟩
    show rOs X.K σ W2 H2 s2 ((p, false) :: ps) (v :: vs)
    unfold rOs
    exact ⟨v, vs, rfl, st2.rv rv, rvs, fun z => nomatch z⟩
  | true =>
    obtain ⟨a, e1, ha, hc, hn⟩ := (show Own X.K σ W1 H1 s1 p v from rv)
    refine ⟨W1.hold a, s1, R1.hold ha hn, ?_⟩
    cases e2 : g s1 with
    | bad => rw [e2] at q; exact q.elim
    | exc x s2 =>
      rw [e2] at q
      intro d W' H' st' R' xr
      refine q d _ H' (st'.free ha) (R1.free ha st' R') ?_
      have hm : (W'.free W1 a).m H' = W'.m H' := free_m st'.prv
      unfold XR at xr ⊢
      cases hx : x.fs with
      | none => rw [hx] at xr; exact xr
      | some l =>
        rw [hx] at xr
        obtain ⟨dd, ws, h1, h2, h3⟩ := xr
        refine ⟨dd, ws, h1, ?_, ?_⟩
        · rw [hm]; exact h2
        · rw [hm]; exact h3
    | ok ps s2 =>
      rw [e2] at q
      intro vs W' H' st' R' rvs
      have hP : W'.P = a :: W1.P := st'.prv
      have hm : (W'.free W1 a).m H' = W'.m H' := free_m hP
      have rvs : rOs X.K σ W' H' s2 ps vs := rvs
      refine q (v :: vs) _ H' (st'.free ha) (R1.free ha st' R') ?_
      show rOs X.K σ (W'.free W1 a) H' s2 ((p, true) :: ps) (v :: vs)
      unfold rOs
      have inP : a ∈ W'.P := by rw [hP]; exact List.mem_cons_self
      refine ⟨v, vs, rfl, ⟨a, e1, List.mem_cons_self, hc.step (st'.free ha) (st'.pk a List.mem_cons_self), fun i q hi z => ?_⟩, rOs_free hm rvs, fun _ i q w hi hq hw z => ?_⟩
      · obtain ⟨b, g1, g2, _⟩ := R'.e.ow i q hi
        rw [g1] at z
        have zb : b = a := by injection z with z; injection z with z; injection z
        exact R'.t.pa b g2 (by rw [zb]; exact inP)
      · obtain ⟨b, g1, g2⟩ := rOs_own rvs i q w hi hq hw
        rw [z, e1] at g1
        have zb : a = b := by injection g1
        exact R'.t.pa b g2 (by rw [← zb]; exact inP)
/-- stores, one after the other -/
def putL : List Nat → List (PV × Bool) → DE → DE
  | i :: is, p :: ps, e => putL is ps (e.set i (putSl p))
  | _, _, e => e
def putV : List Nat → List V → L2.St → L2.St
  | i :: is, v :: vs, σ => putV is vs (σ.set i (some v))
  | _, _, σ => σ
theorem rO_put {K : PySem.W.Frag} {W : Wd} {H : Hp} {s : DS} {σ : L2.St} {i : Nat} {p q : PV × Bool} {v w : V} (hp : rO K σ W H s p v) (hq : rO K σ W H s q w) (hd : p.2 = true → q.2 = true → w ≠ v) : rO K (σ.set i (some v)) W H ⟨s.e.set i (putSl p), s.t⟩ q w := by
  obtain ⟨q, b⟩ := q
  cases b with
  | false => exact hq
  | true =>
    obtain ⟨a, e1, e2, e3, e4⟩ := (show Own K σ W H s q w from hq)
    refine ⟨a, e1, e2, e3, fun j r hj z => ?_⟩
    rcases get_set hj with ⟨rfl, y⟩ | ⟨hne, y⟩
    · have hj2 := (List.getElem?_eq_some_iff.mp z).1
      rw [List.length_set] at hj2
      rw [List.getElem?_set_self hj2] at z
      obtain ⟨p, c⟩ := p
      cases c with
      | false => simp [putSl] at y
      | true => exact hd rfl rfl (by injection z with z; injection z with z; rw [e1, z])
    · rw [List.getElem?_set_ne (Ne.symm hne)] at z
      exact e4 j r y z
theorem rOs_put {K : PySem.W.Frag} {W : Wd} {H : Hp} {s : DS} {σ : L2.St} {i : Nat} {p : PV × Bool} {v : V} (hp : rO K σ W H s p v) : ∀ {ps : List (PV × Bool)} {vs : List V}, rOs K σ W H s ps vs → (p.2 = true → ∀ (i : Nat) (q : PV × Bool) (w : V), ps[i]? = some q → q.2 = true → vs[i]? = some w → w ≠ v) →
    rOs K (σ.set i (some v)) W H ⟨s.e.set i (putSl p), s.t⟩ ps vs
  | [], _, r, _ => r
  | q :: ps, vs, r, hd => by
    unfold rOs at r ⊢
    obtain ⟨w, rr, e, h1, h2, h3⟩ := r
    subst e
    exact ⟨w, rr, rfl, rO_put hp h1 (fun z y => hd z 0 q w rfl y rfl), rOs_put hp h2 (fun z j q' w' a b c => hd z (j + 1) q' w' (by simpa using a) b (by simpa using c)), h3⟩
theorem RSt.puts {K : PySem.W.Frag} {W : Wd} {H : Hp} : ∀ {is : List Nat} {ps : List (PV × Bool)} {vs : List V} {s : DS} {σ : L2.St}, RSt K W H s σ → rOs K σ W H s ps vs → RSt K W H ⟨putL is ps s.e, s.t⟩ (putV is vs σ)
  | [], _, _, s, σ, R, _ => by simpa [putL, putV] using R
  | i :: is, [], vs, s, σ, R, r => by
    unfold rOs at r
    subst r
    simpa [putL, putV] using R
  | i :: is, p :: ps, vs, s, σ, R, r => by
    unfold rOs at r
    obtain ⟨v, rr, e, h1, h2, h3⟩ := r
    subst e
    have R1 := R.put (i := i) h1
    exact RSt.puts (s := ⟨s.e.set i (putSl p), s.t⟩) R1 (rOs_put h1 h2 h3)
theorem rOs_len {K : PySem.W.Frag} {W : Wd} {H : Hp} {s : DS} {σ : L2.St} : ∀ {ps : List (PV × Bool)} {vs : List V}, rOs K σ W H s ps vs → vs.length = ps.length
  | [], _, r => by unfold rOs at r; subst r; rfl
  | p :: ps, vs, r => by
    unfold rOs at r
    obtain ⟨v, rr, e, h1, h2, h3⟩ := r
    subst e
    simp [rOs_len h2]
/-- a, b = x, y; all are reckoned first -/
def parS (is : List Nat) (f : LM) : SM := fun s => (f s).bind fun ps s1 => if ps.length = is.length then .ok .nx ⟨putL is ps s1.e, s1.t⟩ else .bad
theorem ps_par2 {f : LM} {i j : Nat} {x y : Str} {a b : Expr} {px py pt : Pos} {kt k2 pt2} (hc : X.calm = true) (hN : X.N.Nodup) (ha : PLX X Z [a, b] f) (hi : X.N[i]? = some x := by rfl) (hj : X.N[j]? = some y := by rfl) (hij : i ≠ j := by decide)
    (hx : X.env.scope.names.lookup x = some .local := by rfl) (hy : X.env.scope.names.lookup y = some .local := by rfl)
    (hw : swappedStores [.Tuple [.Name x px, .Name y py] kt pt] (.Tuple [a, b] k2 pt2) X.env = pure (some [x, y]) := by rfl)
    (hs : swapsWithSole [.Tuple [.Name x px, .Name y py] kt pt] (.Tuple [a, b] k2 pt2) pos.line X.env = pure false := by rfl) :
    PSX X Z (.Assign [.Tuple [.Name x px, .Name y py] kt pt] (.Tuple [a, b] k2 pt2) pos) (parS [i, j] f) := by
  refine ⟨PS_imp (L2.ps_par hc hN hi hj hij hx hy ha.pa hw hs) fun D σ H ⟨W, s, R, h⟩ => ⟨W, s, R, PostS.bindE h fun ps s1 vs W1 H1 _ st R1 rv q => ?_⟩⟩
  have rv : rOs X.K σ W1 H1 s1 ps vs := rv
  split at q
  · rename_i hl
    have R2 := R1.puts (is := [i, j]) rv
    have hv : vs.length = 2 := by rw [rOs_len rv, hl]; rfl
    match vs, hv with
    | [v, w], _ => exact ⟨v, w, rfl, q _ W1 H1 (Step.refl _ _) R2⟩
  · exact q.elim
theorem ps_par3X {f : LM} {i j l : Nat} {x y z : Str} {a b c : Expr} {px py pz pt : Pos} {kt k2 pt2} (hc : X.calm = true) (hN : X.N.Nodup) (ha : PLX X Z [a, b, c] f) (hi : X.N[i]? = some x := by rfl) (hj : X.N[j]? = some y := by rfl) (hl : X.N[l]? = some z := by rfl) (hij : i ≠ j := by decide) (hil : i ≠ l := by decide) (hjl : j ≠ l := by decide)
    (hx : X.env.scope.names.lookup x = some .local := by rfl) (hy : X.env.scope.names.lookup y = some .local := by rfl) (hz : X.env.scope.names.lookup z = some .local := by rfl)
    (hw : swappedStores [.Tuple [.Name x px, .Name y py, .Name z pz] kt pt] (.Tuple [a, b, c] k2 pt2) X.env = pure (some [x, y, z]) := by rfl)
    (hs : swapsWithSole [.Tuple [.Name x px, .Name y py, .Name z pz] kt pt] (.Tuple [a, b, c] k2 pt2) pos.line X.env = pure false := by rfl) :
    PSX X Z (.Assign [.Tuple [.Name x px, .Name y py, .Name z pz] kt pt] (.Tuple [a, b, c] k2 pt2) pos) (parS [i, j, l] f) := by
  refine ⟨PS_imp (L2.ps_par3 hc hN hi hj hl hij hil hjl hx hy hz ha.pa hw hs) fun D σ H ⟨W, s, R, h⟩ => ⟨W, s, R, PostS.bindE h fun ps s1 vs W1 H1 _ st R1 rv q => ?_⟩⟩
  have rv : rOs X.K σ W1 H1 s1 ps vs := rv
  split at q
  · rename_i hl
    have R2 := R1.puts (is := [i, j, l]) rv
    have hv : vs.length = 3 := by rw [rOs_len rv, hl]; rfl
    match vs, hv with
    | [v, w, u], _ => exact ⟨v, w, u, rfl, q _ W1 H1 (Step.refl _ _) R2⟩
  · exact q.elim
/-! ### the store grows: a fresh list gets a cell -/
theorem RSt.cell {K : PySem.W.Frag} {W : Wd} {H : Hp} {s : DS} {σ : L2.St} {p : PV} {v : V} (R : RSt K W H s σ) (o : Own K σ W H s p v) : ∃ W1, Step W H W1 H ∧ RSt K W1 H ⟨s.e, s.t ++ [p]⟩ σ ∧ RV K W1 H (.cell s.t.length) v := by
  obtain ⟨a, e, ha, hc, hn⟩ := o
  have hS : a ∉ W.S := R.t.ap a ha
  have hm : Wd.m ⟨W.O.filter fun b => decide (b ≠ a), W.S ++ [a], W.P⟩ H = W.m H := m_of_iff fun b => by
    simp only [Wd.L, List.mem_append, List.mem_cons, List.mem_filter, decide_eq_true_eq, List.not_mem_nil, or_false]
    by_cases hb : b = a
    · subst hb; simp [ha]
    · constructor
      · rintro (⟨h, _⟩ | (h | h) | h)
        · exact .inl h
        · exact .inr (.inl h)
        · exact absurd h hb
        · exact .inr (.inr h)
      · rintro (h | h | h)
        · exact .inl ⟨h, hb⟩
        · exact .inr (.inl (.inl h))
        · exact .inr (.inr h)
  have st : Step W H ⟨W.O.filter fun b => decide (b ≠ a), W.S ++ [a], W.P⟩ H := by
    refine ⟨by rw [hm]; exact Same.refl _, fun _ h => h, fun b h => .inl (List.mem_filter.mp h).1, Pre.app _ _, fun b h => ?_, rfl, fun _ _ => rfl⟩
    rcases List.mem_append.mp h with z | z
    · exact .inl z
    · rw [List.mem_singleton.mp z]; exact .inr (.inl ha)
  refine ⟨_, st, ⟨⟨R.e.len, fun i q h => ?_, fun i q h => ?_, R.e.inj⟩, ⟨by simp [R.t.len], fun k q b e1 e2 => ?_, ?_, fun b h z => ?_, R.t.pt, fun b h => R.t.pa b (List.mem_filter.mp h).1, fun b h => ?_, fun b h => R.t.ot b (List.mem_filter.mp h).1⟩⟩, ?_⟩
  · obtain ⟨w, h1, h2⟩ := R.e.at_ i q h
    exact ⟨w, h1, st.rv h2⟩
  · obtain ⟨b, h1, h2, h3⟩ := R.e.ow i q h
    exact ⟨b, h1, List.mem_filter.mpr ⟨h2, decide_eq_true fun z => hn i q h (by rw [h1, z])⟩, h3.step st rfl⟩
  · by_cases hk : k < s.t.length
    · rw [List.getElem?_append_left hk] at e1
      rw [List.getElem?_append_left (by rw [← R.t.len]; exact hk)] at e2
      exact (R.t.at_ k q b e1 e2).step st rfl
    · have hk2 : k = s.t.length := by
        have := (List.getElem?_eq_some_iff.mp e1).1
        simp at this
        omega
      subst hk2
      rw [List.getElem?_append_right (Nat.le_refl _), Nat.sub_self] at e1
      have hz : s.t.length = W.S.length := R.t.len
      rw [hz, List.getElem?_append_right (Nat.le_refl _), Nat.sub_self] at e2
      cases e1
      cases e2
      exact hc.step st rfl
  · rw [List.nodup_append]
    refine ⟨R.t.nd, by simp, fun b hb c hc z => ?_⟩
    rw [List.mem_singleton.mp hc] at z
    exact hS (z ▸ hb)
  · obtain ⟨h1, h2⟩ := List.mem_filter.mp h
    rcases List.mem_append.mp z with y | y
    · exact R.t.ap b h1 y
    · exact of_decide_eq_true h2 (List.mem_singleton.mp y)
  · rcases List.mem_append.mp h with y | y
    · exact R.t.ps b y
    · rw [List.mem_singleton.mp y]; exact R.t.pa a ha
  · unfold RV Rep
    refine ⟨a, e, ?_⟩
    show (W.S ++ [a])[s.t.length]? = some a
    rw [R.t.len, List.getElem?_append_right (Nat.le_refl _), Nat.sub_self]
    rfl
/-- name = a fresh list that all around may change -/
def cellS (i : Nat) (g : OM) : SM := fun s => (g s).bind fun p s1 => if p.2 = true then .ok .nx ⟨s1.e.set i (.val (.cell s1.t.length)), s1.t ++ [p.1]⟩ else .bad
theorem ps_cell (i : Nat) {x : Str} {pos' : Pos} (hN : X.N.Nodup) (he : PO X Z e f) (hi : X.N[i]? = some x := by rfl) (hx : Loc X.env.scope x := by first | exact Or.inl rfl | exact Or.inr rfl) (hs : swapsWith e (some (.Name x pos')) pos.line X.env = pure false := by rfl)
    (hf : X.fn x = true ∨ X.env.scope.names.lookup x = some .local := by first | exact .inl rfl | exact .inr rfl) : PSX X Z (.Assign [.Name x pos'] e pos) (cellS i f) := by
  refine ⟨PS_imp (L2.ps_set hN hi hx he.pe hs hf) fun D σ H ⟨W, s, R, h⟩ => ⟨W, s, R, PostS.bindE h fun p s1 y W1 H1 _ st R1 ry q => ?_⟩⟩
  obtain ⟨p, b⟩ := p
  cases b with
  | false => exact q.elim
  | true =>
    obtain ⟨W2, st2, R2, rv⟩ := R1.cell (show Own X.K σ W1 H1 s1 p y from ry)
    exact q _ W2 H1 st2 (R2.setv rv)
/-! ### name op= e -/
def augS (i : Nat) (g : P2) (f : EM) : SM := fun s => match s.e[i]? with
  | some (.val p) => (f s).bind fun q s1 => match g p q with
    | some r => .ok .nx ⟨s1.e.set i (.val r), s1.t⟩
    | none => .bad
  | _ => .bad
theorem ps_augX (i : Nat) {x : Str} {op : Operator} {h : Int → Int → Int} {f : EM} {pos' : Pos} (hN : X.N.Nodup) (ho : PIp X op (ipI h)) (he : PX X Z e f) (hi : X.N[i]? = some x := by rfl) (hx : Loc X.env.scope x := by first | exact Or.inl rfl | exact Or.inr rfl)
    (hf : X.fn x = true ∨ X.env.scope.names.lookup x = some .local := by first | exact .inl rfl | exact .inr rfl) : PSX X Z (.AugAssign (.Name x pos') op e pos) (augS i (ii (fun _ _ => true) fun a b => .int (h a b)) f) := by
  refine ⟨PS_imp (L2.ps_aug hN hi hx he.pe ho hf) fun D σ H ⟨W, s, R, hh⟩ => ?_⟩
  unfold augS at hh
  split at hh
  · rename_i p ep
    obtain ⟨v, h1, h2⟩ := R.e.at_ i p ep
    refine ⟨v, h1, W, s, R, PostS.bindE hh fun q s1 y W1 H1 _ st R1 ry k => ?_⟩
    cases eg : ii (fun _ _ => true) (fun a b => .int (h a b)) p q with
    | none => simp only [eg] at k; exact k.elim
    | some r =>
      simp only [eg] at k
      obtain ⟨a, b, rfl, rfl, _, rfl⟩ := ii_some eg
      exact ⟨a, b, rv_int_inv h2, rE_int_inv ry, k _ W1 H1 (Step.refl _ _) (R1.setv rv_int)⟩
  · exact hh.elim
theorem ps_augIx (hu : X.A.units + 1 < cLine) (i : Nat) {x : Str} {op : Operator} {h : Int → Int → Int} {g' f' : EM} {p1 tpos : Pos} {b v : Expr} (ho : PIp X op (ipI h)) (hN : X.N[i]? = some x := by rfl) (hb : PX X Z b g') (hf : PX X Z v f')
    (hv : Vis X.env.scope x := by first | exact Or.inl rfl | exact Or.inr (Or.inl rfl) | exact Or.inr (Or.inr rfl)) (hd : (x == ("__debug__" : Str)) = false := by decide) (hcd : (x == ("__classdict__" : Str)) = false := by decide)
    (ha : ∀ ov iv new, augStore b ov iv new = (do holding [new, ov, iv] (setItem ov iv new); release [new, ov, iv] []; pure .next) := by intros; rfl) :
    PSX X Z (.AugAssign (.Subscript (.Name x p1) b tpos) op v pos) (augIxS i (ii (fun _ _ => true) fun a b => .int (h a b)) g' f') := by
  refine ⟨PS_imp (L2.ps_augS (pe_var hN hv hd hcd) hb.pe (get_all hu) hf.pe ho (set_all hu) ha) fun D σ H ⟨W, s, R, hh⟩ => ?_⟩
  unfold augIxS at hh
  cases e0 : nameB i s with
  | bad => rw [e0] at hh; exact hh.elim
  | exc y s1 => exact (nameB_no e0).elim
  | ok p0 s0 =>
    rw [e0] at hh
    simp only [Re.bind] at hh
    obtain ⟨rfl, vv, h1, hb0⟩ := nameB_bv R e0
    refine ⟨vv, h1, W, s0, R, PostS.bindE hh fun j s2 jv W2 H2 _ st2 R2 rj k => ?_⟩
    cases e1 : nameB i s2 with
    | bad => simp only [e1] at k; exact k.elim
    | exc y s1 => exact (nameB_no e1).elim
    | ok p s1 =>
      simp only [e1] at k
      obtain ⟨rfl, v2, h2, hb2⟩ := nameB_bv R2 e1
      rw [h1] at h2
      cases h2
      have rj : RV X.K W2 H2 j jv := rj
      cases p with
      | lst ps =>
        cases j with
        | int j =>
          simp only [lixG] at k
          cases e2 : atI ps j with
          | none => simp only [e2] at k; exact k.elim
          | some old =>
            simp only [e2] at k
            obtain ⟨a, vs, rfl, k1, k2⟩ := bv_lst hb2
            obtain ⟨w, h3, h4⟩ := atI_rep k2 e2
            refine ⟨a, vs, j, w, rfl, rv_int_inv rj, SqL.of k1, h3, W2, s1, R2, PostS.bindE k fun q s4 y W4 H4 _ st4 R4 ry k => ?_⟩
            cases e3 : ii (fun _ _ => true) (fun a b => .int (h a b)) old q with
            | none => simp only [e3] at k; exact k.elim
            | some r =>
              simp only [e3] at k
              obtain ⟨m, n, rfl, rfl, _, rfl⟩ := ii_some e3
              refine ⟨m, n, rv_int_inv h4, rE_int_inv ry, ?_⟩
              cases em : modB i (setU (.int j) (.int (h m n))) s4 with
              | bad => rw [em] at k; exact k.elim
              | exc y s5 => exact (modB_no em).elim
              | ok r s5 =>
                rw [em] at k
                exact setU_ok R4 h1 em (st4.rv rj) rv_int fun H5 st5 R5 => k σ W4 H5 st5 R5
        | _ => simp only [lixG] at k; exact k.elim
      | _ => simp only [lixG] at k; exact k.elim
end
end DR
/-! DR: comprehensions of two clauses; enumerate over tuples, zip of mixed kinds. -/
namespace DR
open PySem PySem.Spec PyProof.Rows L2
section
variable {X : Cx} {Z : WX} {it it1 : IM} {t t1 : Tg} {tt tt1 : TM} {vs vs1 : List Nat} {f : EM} {pos : Pos}
def lc2L (t : Tg) (tt : TM) (it1 : IM) (t1 : Tg) (tt1 : TM) (f : EM) (vs vs1 : List Nat) : List PV → List PV → DS → Re (List PV)
  | [], acc, s => .ok acc s
  | p :: ps, acc, s => match asgT t p (wipeE vs s.e) with
    | none => .bad
    | some e' => (tt ⟨e', s.t⟩).bind fun b s1 => if b = true then (it1 s1).bind fun qs s2 => (lcL t1 tt1 f vs1 qs acc s2).bind fun acc' s3 => lc2L t tt it1 t1 tt1 f vs vs1 ps acc' s3
      else lc2L t tt it1 t1 tt1 f vs vs1 ps acc s1
theorem lc2L_cons (p : PV) (ps acc : List PV) (s : DS) : lc2L t tt it1 t1 tt1 f vs vs1 (p :: ps) acc s = match asgT t p (wipeE vs s.e) with
    | none => .bad
    | some e' => (tt ⟨e', s.t⟩).bind fun b s1 => if b = true then (it1 s1).bind fun qs s2 => (lcL t1 tt1 f vs1 qs acc s2).bind fun acc' s3 => lc2L t tt it1 t1 tt1 f vs vs1 ps acc' s3
      else lc2L t tt it1 t1 tt1 f vs vs1 ps acc s1 := rfl
def lc2O (it : IM) (t : Tg) (tt : TM) (it1 : IM) (t1 : Tg) (tt1 : TM) (f : EM) (vs vs1 : List Nat) : OM := fun s => (it s).bind fun ps s1 => (noX (lc2L t tt it1 t1 tt1 f vs vs1 ps [] s1)).bind fun acc s2 => .ok (.lst acc, true) ⟨restE vs s1.e s2.e, s2.t⟩
theorem wipe_in (σ : L2.St) (h : ∀ i ∈ vs1, i ∈ vs) : L2.wipe (L2.wipe σ vs1) vs = L2.wipe σ vs := by
  refine List.ext_getElem? fun j => ?_
  rw [wipe_get, wipe_get, wipe_get]
  by_cases hj : j ∈ vs
  · rw [if_pos hj, if_pos hj]
    split
    · cases σ[j]? <;> rfl
    · rfl
  · rw [if_neg hj, if_neg hj, if_neg fun z => hj (h j z)]
theorem wipeE_in (e : DE) (h : ∀ i ∈ vs1, i ∈ vs) : wipeE vs (wipeE vs1 e) = wipeE vs e := by
  refine List.ext_getElem? fun j => ?_
  rw [wipeE_get, wipeE_get, wipeE_get]
  by_cases hj : j ∈ vs
  · rw [if_pos hj, if_pos hj]
    split
    · cases e[j]? <;> rfl
    · rfl
  · rw [if_neg hj, if_neg hj, if_neg fun z => hj (h j z)]
/-- how far a comprehension is: its list at D -/
structure Far (K : PySem.W.Frag) (W0 : Wd) (H0 : Hp) (D : Addr) (e : DE) (σ : L2.St) (H2 : Hp) (t : DT) (acc : List PV) (W2 : Wd) (av : List V) : Prop where
  l : LSt W0 H0 D W2 H2
  R : RSt K W2 H2 ⟨e, t⟩ σ
  A : H2 D = some (.lst av)
  r : RVs K W2 H2 acc av
theorem LSt.inP {W0 W2 : Wd} {H0 H2 : Hp} {D : Addr} (l : LSt W0 H0 D W2 H2) : D ∈ W2.P := by rw [l.P]; exact List.mem_cons_self
theorem Far.step {K : PySem.W.Frag} {W0 W2 W3 : Wd} {H0 H2 H3 : Hp} {D : Addr} {e e' : DE} {σ σ' : L2.St} {t t' : DT} {acc : List PV} {av : List V} (F : Far K W0 H0 D e σ H2 t acc W2 av) (st : Step W2 H2 W3 H3) (R : RSt K W3 H3 ⟨e', t'⟩ σ') : Far K W0 H0 D e' σ' H3 t' acc W3 av :=
  ⟨F.l.step st, R, by rw [st.pk D F.l.inP]; exact F.A, st.rvs F.r⟩
theorem Far.wipe {K : PySem.W.Frag} {W0 W2 : Wd} {H0 H2 : Hp} {D : Addr} {e : DE} {σ : L2.St} {t : DT} {acc : List PV} {av : List V} (F : Far K W0 H0 D e σ H2 t acc W2 av) (vs : List Nat) : Far K W0 H0 D (wipeE vs e) (L2.wipe σ vs) H2 t acc W2 av := ⟨F.l, F.R.wipe vs, F.A, F.r⟩
/-- one turn of the last clause -/
theorem turn_last {K : PySem.W.Frag} {W0 W2 : Wd} {H0 H2 : Hp} {D : Addr} {s2 : DS} {σ σ4 : L2.St} {acc qs : List PV} {av : List V} {e2 : DE} {W3 : Wd} {Good : Re (List PV) → Prop} (gb : ¬ Good .bad) (ge : ∀ x s, ¬ Good (.exc x s)) {Nx : Hp → Prop}
    (F : Far K W0 H0 D e2 σ4 H2 s2.t acc W2 av) (hw : L2.wipe σ4 vs1 = L2.wipe σ vs1)
    (g : Good ((tt1 ⟨e2, s2.t⟩).bind fun b s1 => if b = true then (f s1).bind fun y s2 => if acc.length < sizeLine then lcL t1 tt1 f vs1 qs (acc ++ [y]) s2 else .bad else lcL t1 tt1 f vs1 qs acc s1))
    (nx : ∀ W' s' acc' av' H', Far K W0 H0 D (wipeE vs1 s'.e) (L2.wipe σ vs1) H' s'.t acc' W' av' → Good (lcL t1 tt1 f vs1 qs acc' s') → Nx H') :
    tT K Z0 tt1 σ4 H2 fun b H6 => if b = true then tE K Z0 f σ4 H6 fun y H7 => ∃ acc, H7 D = some (.lst acc) ∧ acc.length < sizeLine ∧ Nx (upd H7 D (.lst (acc ++ [y]))) else Nx H6 := by
  refine ⟨W2, ⟨e2, s2.t⟩, F.R, ?_⟩
  cases e3 : tt1 ⟨e2, s2.t⟩ with
  | bad => rw [e3] at g; exact (gb g).elim
  | exc x s3 => rw [e3] at g; exact (ge _ _ g).elim
  | ok b s3 =>
    rw [e3] at g
    simp only [Re.bind] at g
    intro c W4 H4 st4 R5 rc
    obtain rfl : c = b := rc
    have F4 := F.step st4 R5
    cases c with
    | false =>
      rw [if_neg (by decide)] at g ⊢
      exact nx W4 s3 acc av H4 (by rw [← hw]; exact F4.wipe vs1) g
    | true =>
      rw [if_pos rfl] at g ⊢
      refine ⟨W4, s3, R5, ?_⟩
      cases e4 : f s3 with
      | bad => rw [e4] at g; exact (gb g).elim
      | exc x s4 => rw [e4] at g; exact (ge _ _ g).elim
      | ok y s4 =>
        rw [e4] at g
        simp only at g
        intro v W5 H5 st5 R6 rv5
        have F5 := F4.step st5 R6
        by_cases hz : acc.length < sizeLine
        · rw [if_pos hz] at g
          refine ⟨av, F5.A, by rw [F5.r.len]; exact hz, nx W5 s4 (acc ++ [y]) (av ++ [v]) _ ?_ g⟩
          have F6 := F5.wipe vs1
          rw [hw] at F6
          exact ⟨F6.l.poke, F6.R.poke F6.l.inP, upd_same, rvs_poke F6.l.inP (F6.r.app (reps_cons rv5 reps_nil))⟩
        · rw [if_neg hz] at g
          exact (gb g).elim
theorem tLc2_of {Q : VK} {σ : L2.St} {H : Hp} {K : PySem.W.Frag} (ht : tgIn t vs = true) (ht1 : tgIn t1 vs1 = true) (hin : ∀ i ∈ vs1, i ∈ vs) (h : tO K Z (lc2O it t tt it1 t1 tt1 f vs vs1) σ H Q) :
    tLc2 (tI K Z it) (gX K t) (tT K Z0 tt) (tI K Z0 it1) (gX K t1) (tT K Z0 tt1) (tE K Z0 f) vs vs1 σ H Q := by
  obtain ⟨W, s, R, h⟩ := h
  refine ⟨W, s, R, Post.bind h fun ps s1 J W1 H1 _ st0 R1 G q D hD => ?_⟩
  have G : Goes K J ps W1 H1 := G
  obtain ⟨W1', stN, R1', hL⟩ := R1.newL hD
  obtain ⟨nO, nS, nP⟩ := Wd.notL.mp hL
  have q := Post.step q stN
  obtain ⟨Rk, vk⟩ := R1'.keep (o := .lst []) hD nO
  have good : ∀ {P : Prop}, (lc2L t tt it1 t1 tt1 f vs vs1 ps [] s1 = .bad ∨ ∃ x s', lc2L t tt it1 t1 tt1 f vs vs1 ps [] s1 = .exc x s') → P := fun {P} z => by
    rcases z with z | ⟨x, s', z⟩ <;> (rw [z] at q; exact q.elim)
  refine ⟨fun i m H2 => m = ps.length - i ∧ i ≤ ps.length ∧ ∃ W2 s2 acc av, Far K W1' H1 D (wipeE vs s2.e) (L2.wipe σ vs) H2 s2.t acc W2 av ∧ lc2L t tt it1 t1 tt1 f vs vs1 ps [] s1 = lc2L t tt it1 t1 tt1 f vs vs1 (ps.drop i) acc s2,
    ⟨ps.length, by simp, Nat.zero_le _, W1'.keep D, s1, [], [], ⟨LSt.start hD nP, Rk.wipe vs, upd_same, reps_nil⟩, rfl⟩, ?_⟩
  rintro i m H2 ⟨rfl, hi, W2, s2, acc, av, F, eq⟩
  have vw : Vw W1 H1 W2 H2 := stN.vw.trans F.l.vw
  by_cases hlt : i < ps.length
  · refine .inr ⟨G.go W2 H2 i vw hlt, fun H2 => i + 1 ≤ ps.length ∧ ∃ W2 s2 acc av, Far K W1' H1 D (wipeE vs s2.e) (L2.wipe σ vs) H2 s2.t acc W2 av ∧ lc2L t tt it1 t1 tt1 f vs vs1 ps [] s1 = lc2L t tt it1 t1 tt1 f vs vs1 (ps.drop (i + 1)) acc s2, fun H' z => ⟨ps.length - (i + 1), by omega, rfl, z⟩, fun x H3 y => ?_⟩
    obtain ⟨W3, st3, R3, rv⟩ := G.yld W2 H2 i x H3 ps[i] ⟨wipeE vs s2.e, s2.t⟩ (L2.wipe σ vs) vw (List.getElem?_eq_getElem hlt) F.R y
    have F3 := F.step st3 R3
    have eq2 := eq
    rw [List.drop_eq_getElem_cons hlt, lc2L_cons] at eq2
    cases e1 : asgT t ps[i] (wipeE vs s2.e) with
    | none => simp only [e1] at eq2; exact good (.inl eq2)
    | some e2 =>
      simp only [e1] at eq2
      refine ⟨W3, ⟨wipeE vs s2.e, s2.t⟩, ps[i], R3, rv, e2, e1, fun σ4 hw R4 => ⟨(hw vs ht).trans (wipe_wipe σ), W3, ⟨e2, s2.t⟩, R4, ?_⟩⟩
      have hw4 : L2.wipe σ4 vs = L2.wipe σ vs := (hw vs ht).trans (wipe_wipe σ)
      have F4 : Far K W1' H1 D e2 σ4 H3 s2.t acc W3 av := F3.step (Step.refl _ _) R4
      cases e3 : tt ⟨e2, s2.t⟩ with
      | bad => rw [e3] at eq2; exact good (.inl eq2)
      | exc x s3 => rw [e3] at eq2; exact good (.inr ⟨x, s3, eq2⟩)
      | ok b s3 =>
        rw [e3] at eq2
        simp only [Re.bind] at eq2
        intro c W4 H4 st4 R5 rc
        obtain rfl : c = b := rc
        have F5 := F4.step st4 R5
        cases c with
        | false =>
          rw [if_neg (by decide)] at eq2 ⊢
          exact ⟨hlt, W4, s3, acc, av, by rw [← hw4]; exact F5.wipe vs, eq2⟩
        | true =>
          rw [if_pos rfl] at eq2 ⊢
          refine ⟨W4, s3, R5, ?_⟩
          cases e4 : it1 s3 with
          | bad => rw [e4] at eq2; exact good (.inl eq2)
          | exc x s4 => rw [e4] at eq2; exact good (.inr ⟨x, s4, eq2⟩)
          | ok qs s4 =>
            rw [e4] at eq2
            simp only at eq2
            intro J1 W5 H5 st5 R6 G1
            have G1 : Goes K J1 qs W5 H5 := G1
            have F6 := F5.step st5 R6
            refine ⟨fun j k H => k = qs.length - j ∧ j ≤ qs.length ∧ ∃ W' s' acc' av', Far K W1' H1 D (wipeE vs1 s'.e) (L2.wipe σ4 vs1) H s'.t acc' W' av' ∧ Vw W5 H5 W' H ∧ lcL t1 tt1 f vs1 qs acc s4 = lcL t1 tt1 f vs1 (qs.drop j) acc' s',
              ⟨qs.length, by simp, Nat.zero_le _, W5, s4, acc, av, F6.wipe vs1, (Step.refl _ _).vw, rfl⟩, ?_⟩
            rintro j k H6 ⟨rfl, hj, W6, s6, acc6, av6, F7, vw7, eq7⟩
            by_cases hl2 : j < qs.length
            · refine .inr ⟨G1.go W6 H6 j vw7 hl2, fun H => j + 1 ≤ qs.length ∧ ∃ W' s' acc' av', Far K W1' H1 D (wipeE vs1 s'.e) (L2.wipe σ4 vs1) H s'.t acc' W' av' ∧ Vw W5 H5 W' H ∧ lcL t1 tt1 f vs1 qs acc s4 = lcL t1 tt1 f vs1 (qs.drop (j + 1)) acc' s', fun H' z => ⟨qs.length - (j + 1), by omega, rfl, z⟩, fun x2 H7 y2 => ?_⟩
              obtain ⟨W7, st7, R7, rv7⟩ := G1.yld W6 H6 j x2 H7 qs[j] ⟨wipeE vs1 s6.e, s6.t⟩ (L2.wipe σ4 vs1) vw7 (List.getElem?_eq_getElem hl2) F7.R y2
              have F8 := F7.step st7 R7
              have eq8 := eq7
              rw [List.drop_eq_getElem_cons hl2, lcL_cons] at eq8
              cases e5 : asgT t1 qs[j] (wipeE vs1 s6.e) with
              | none => simp only [e5] at eq8; rw [eq8] at eq2; exact good (.inl eq2)
              | some e6 =>
                simp only [e5] at eq8
                refine ⟨W7, ⟨wipeE vs1 s6.e, s6.t⟩, qs[j], R7, rv7, e6, e5, fun σ9 hw9 R9 => ⟨(hw9 vs1 ht1).trans (wipe_wipe σ4), ?_⟩⟩
                have F9 : Far K W1' H1 D e6 σ9 H7 s6.t acc6 W7 av6 := F8.step (Step.refl _ _) R9
                -- the world grows on
                let Good : Re (List PV) → Prop := fun r => lcL t1 tt1 f vs1 qs acc s4 = r
                have gb : ¬ Good .bad := fun z => by
                  have z : lcL t1 tt1 f vs1 qs acc s4 = .bad := z
                  rw [z] at eq2
                  exact good (.inl eq2)
                have ge : ∀ x s, ¬ Good (.exc x s) := fun x s z => by
                  have z : lcL t1 tt1 f vs1 qs acc s4 = .exc x s := z
                  rw [z] at eq2
                  exact good (.inr ⟨x, s, eq2⟩)
                have vw9 : Vw W5 H5 W7 H7 := vw7.trans st7.vw
                refine ⟨W7, ⟨e6, s6.t⟩, F9.R, ?_⟩
                cases e8 : tt1 ⟨e6, s6.t⟩ with
                | bad => rw [e8] at eq8; exact (gb eq8).elim
                | exc x s3 => rw [e8] at eq8; exact (ge _ _ eq8).elim
                | ok b s8 =>
                  rw [e8] at eq8
                  simp only [Re.bind] at eq8
                  intro c W10 H10 st10 R10 rc
                  obtain rfl : c = b := rc
                  have F10 := F9.step st10 R10
                  have hw : L2.wipe σ9 vs1 = L2.wipe σ4 vs1 := (hw9 vs1 ht1).trans (wipe_wipe σ4)
                  cases c with
                  | false =>
                    rw [if_neg (by decide)] at eq8 ⊢
                    exact ⟨hl2, W10, s8, acc6, av6, by rw [← hw]; exact F10.wipe vs1, vw9.trans st10.vw, eq8⟩
                  | true =>
                    rw [if_pos rfl] at eq8 ⊢
                    refine ⟨W10, s8, R10, ?_⟩
                    cases e9 : f s8 with
                    | bad => rw [e9] at eq8; exact (gb eq8).elim
                    | exc x s4 => rw [e9] at eq8; exact (ge _ _ eq8).elim
                    | ok y s9 =>
                      rw [e9] at eq8
                      simp only at eq8
                      intro v W11 H11 st11 R11 rv11
                      have F11 := F10.step st11 R11
                      by_cases hz : acc6.length < sizeLine
                      · rw [if_pos hz] at eq8
                        have F12 := F11.wipe vs1
                        rw [hw] at F12
                        refine ⟨av6, F11.A, by rw [F11.r.len]; exact hz, hl2, W11, s9, acc6 ++ [y], av6 ++ [v], ⟨F12.l.poke, F12.R.poke F12.l.inP, upd_same, rvs_poke F12.l.inP (F12.r.app (reps_cons rv11 reps_nil))⟩, ?_, eq8⟩
                        have vw12 := (vw9.trans st10.vw).trans st11.vw
                        exact ⟨by rw [Wd.m_upd (by simp [Wd.L, F12.l.inP])]; exact vw12.same, vw12.pre⟩
                      · rw [if_neg hz] at eq8
                        exact (gb eq8).elim
            · have e : j = qs.length := by omega
              subst e
              rw [List.drop_length] at eq7
              refine .inl ⟨G1.stop W6 H6 vw7, hlt, W6, s6, acc6, av6, ?_, ?_⟩
              · have F8 := F7.wipe vs
                rw [wipeE_in _ hin, wipe_in _ hin, hw4] at F8
                exact F8
              · rw [eq7] at eq2
                exact eq2
  · have e : i = ps.length := by omega
    subst e
    rw [List.drop_length] at eq
    refine .inl ⟨G.stop W2 H2 vw, ?_⟩
    rw [eq] at q
    have l := F.l
    have R2 := F.R
    refine q (.ref D) ⟨D :: W2.O, W2.S, W1'.P⟩ H2 l.fin (l.fin_R ⟨_, F.A, fun _ z => nomatch z⟩ R1'.e R2) ⟨D, rfl, List.mem_cons_self, ?_, fun j p hj z => ?_⟩
    · refine ⟨av, F.A, ?_⟩
      show Reps K W2.S (Wd.m ⟨D :: W2.O, W2.S, W1'.P⟩ H2) acc av
      rw [l.fin_m]
      exact F.r
    · obtain ⟨hj, hj2⟩ := restE_own hj
      obtain ⟨a, g1, g2, _⟩ := R2.e.ow j p (by rw [wipeE_get, if_neg hj]; exact hj2)
      rw [wipe_get, if_neg hj] at g1
      rw [g1] at z
      have za : a = D := by injection z with z; injection z with z; injection z
      exact R2.t.pa a g2 (by rw [l.P, za]; exact List.mem_cons_self)
theorem po_lc2 {elt tgt iter tgt1 iter1 : Expr} {ifs ifs1 : List Expr} {scope : Scope} {own : List (Str × Nat)} (hc : X.calm = true) (hN : X.N.Nodup) (hi : PIX X Z tgt iter it) (ok : BlkOk X.N X.env.scope scope own) (hg : Blk X scope fun Y => PGX Y tgt t) (ht : Blk X scope fun Y => PTsX Y ifs tt)
    (hi1 : Blk X scope fun Y => PIX Y Z0 tgt1 iter1 it1) (hg1 : Blk X scope fun Y => PGX Y tgt1 t1) (ht1 : Blk X scope fun Y => PTsX Y ifs1 tt1) (he : Blk X scope fun Y => PX Y Z0 elt f)
    (hv : own.map (·.2) = vs := by rfl) (hin : tgIn t vs = true := by rfl) (hin1 : tgIn t1 vs1 = true := by rfl) (hsub : ∀ i ∈ vs1, i ∈ vs := by decide) (hs : ∀ x, foldedSetIterable iter X.env x = pure x := by intro _; rfl) (hs1 : ∀ env x, foldedSetIterable iter1 env x = pure x := by intro _ _; rfl) :
    PO X Z (.ListComp elt [⟨tgt, iter, ifs, 0⟩, ⟨tgt1, iter1, ifs1, 0⟩] scope pos) (lc2O it t tt it1 t1 tt1 f vs vs1) := by
  subst hv
  exact ⟨PE_imp (L2.pe_lc2 (wi := tI X.K Z it) (g := gX X.K t) (tt := tT X.K Z0 tt) (wi1 := tI X.K Z0 it1) (g1 := gX X.K t1) (tt1 := tT X.K Z0 tt1) (te := tE X.K Z0 f) hc hN hi.pi ok hsub (fun s H L cl fp => (hg s H L cl fp).pg) (fun s H L cl fp => (ht s H L cl fp).pts) (fun s H L cl fp => (hi1 s H L cl fp).pi) (fun s H L cl fp => (hg1 s H L cl fp).pg) (fun s H L cl fp => (ht1 s H L cl fp).pts) (fun s H L cl fp => (he s H L cl fp).pe) hs hs1) fun σ H Q h => tLc2_of hin hin1 hsub h⟩
theorem ps_setLc2X {i : Nat} {y : Str} {py spos : Pos} {elt tgt iter tgt1 iter1 : Expr} {ifs ifs1 : List Expr} {scope : Scope} {own : List (Str × Nat)} (hc : X.calm = true) (hN : X.N.Nodup) (hy : X.N[i]? = some y) (hyl : X.env.scope.names.lookup y = some .local)
    (hsw : swapsWith (.ListComp elt [⟨tgt, iter, ifs, 0⟩, ⟨tgt1, iter1, ifs1, 0⟩] scope pos) (some (.Name y py)) spos.line X.env = pure true) (hi : PIX X Z tgt iter it) (ok : BlkOk X.N X.env.scope scope own) (hg : Blk X scope fun Y => PGX Y tgt t) (ht : Blk X scope fun Y => PTsX Y ifs tt)
    (hi1 : Blk X scope fun Y => PIX Y Z0 tgt1 iter1 it1) (hg1 : Blk X scope fun Y => PGX Y tgt1 t1) (ht1 : Blk X scope fun Y => PTsX Y ifs1 tt1) (he : Blk X scope fun Y => PX Y Z0 elt f)
    (hv : own.map (·.2) = vs := by rfl) (hin : tgIn t vs = true := by rfl) (hin1 : tgIn t1 vs1 = true := by rfl) (hsub : ∀ i ∈ vs1, i ∈ vs := by decide) (hs : ∀ x, foldedSetIterable iter X.env x = pure x := by intro _; rfl) (hs1 : ∀ env x, foldedSetIterable iter1 env x = pure x := by intro _ _; rfl) :
    PSX X Z (.Assign [.Name y py] (.ListComp elt [⟨tgt, iter, ifs, 0⟩, ⟨tgt1, iter1, ifs1, 0⟩] scope pos) spos) (setS i (lc2O it t tt it1 t1 tt1 f vs vs1)) := by
  subst hv
  refine ⟨PS_imp (L2.ps_setLc2 (wi := tI X.K Z it) (g := gX X.K t) (tt := tT X.K Z0 tt) (wi1 := tI X.K Z0 it1) (g1 := gX X.K t1) (tt1 := tT X.K Z0 tt1) (te := tE X.K Z0 f) hc hN hy hyl hsw hi.pi ok hsub (fun s H L cl fp => (hg s H L cl fp).pg) (fun s H L cl fp => (ht s H L cl fp).pts) (fun s H L cl fp => (hi1 s H L cl fp).pi) (fun s H L cl fp => (hg1 s H L cl fp).pg) (fun s H L cl fp => (ht1 s H L cl fp).pts) (fun s H L cl fp => (he s H L cl fp).pe) hs hs1) fun D σ H ⟨W, s, R, h⟩ => ?_⟩
  exact tLc2_of hin hin1 hsub ⟨W, s, R, PostS.bindE h fun p s1 y W1 H1 _ st R1 ry q => q _ W1 H1 (Step.refl _ _) (R1.put ry)⟩
end
end DR
/-! DR: several values at once by way of a pair; built-ins of two arguments; facts of the built-in names. -/
namespace DR
open PySem PySem.Spec PyProof.Rows L2
section
variable {X : Cx} {Z : WX} {e : Expr} {es : List Expr} {f g : EM} {pos : Pos}
theorem rOs_alloc {K : PySem.W.Frag} {W : Wd} {H : Hp} {s : DS} {σ : L2.St} {p : Addr} {o : HO} (R : RSt K W H s σ) (hp : H p = none) : ∀ {ps : List (PV × Bool)} {vs : List V}, rOs K σ W H s ps vs → rOs K σ W (upd H p o) s ps vs
  | [], _, r => r
  | (q, b) :: ps, vs, r => by
    unfold rOs at r ⊢
    obtain ⟨v, rr, e, h1, h2, h3⟩ := r
    have st : Step W H W (upd H p o) := Step.alloc hp (R.nP hp)
    refine ⟨v, rr, e, ?_, rOs_alloc R hp h2, h3⟩
    cases b with
    | false => exact st.rv (show RV K W H q v from h1)
    | true =>
      obtain ⟨a, e1, e2, e3, e4⟩ := (show Own K σ W H s q v from h1)
      obtain ⟨u, hu⟩ := e3.there
      exact ⟨a, e1, e2, e3.step st (upd_ne (ne_of_none hu hp)), e4⟩
def gsO (K : PySem.W.Frag) (is : List Nat) : TGs := fun vs σ H Q => ∃ W s ps, RSt K W H s σ ∧ rOs K σ W H s ps vs ∧ ps.length = is.length ∧ ∀ σ', RSt K W H ⟨putL is ps s.e, s.t⟩ σ' → Q σ' H
structure PGsO (X : Cx) (es : List Expr) (is : List Nat) : Prop where
  pgs : PGs X es (gsO X.K is)
theorem go_nil : PGsO X [] [] := by
  refine ⟨PGs_imp L2.pgs_nil fun v σ H Q ⟨W, s, ps, R, r, hl, k⟩ => ?_⟩
  cases ps with
  | nil => exact ⟨r, k σ R⟩
  | cons a b => simp at hl
theorem go_cons (i : Nat) {x : Str} {p1 : Pos} {is : List Nat} (hN : X.N.Nodup) (h2 : PGsO X es is) (hi : X.N[i]? = some x := by rfl) (hx : Loc X.env.scope x := by first | exact Or.inl rfl | exact Or.inr rfl) (hf : X.fn x = true ∨ X.env.scope.names.lookup x = some .local := by first | exact .inl rfl | exact .inr rfl)
    (hs : (assignEach (.Name x p1 :: es) X.env).map (·.2) = assign (.Name x p1) X.env :: (assignEach es X.env).map (·.2) := by rfl) : PGsO X (.Name x p1 :: es) (i :: is) := by
  refine ⟨PGs_imp (L2.pgs_cons (L2.pg_name hN hi hx hf) h2.pgs hs) fun vs σ H Q ⟨W, s, ps, R, r, hl, k⟩ => ?_⟩
  cases ps with
  | nil => simp at hl
  | cons p ps =>
    unfold rOs at r
    obtain ⟨v, rr, e, h1, h2, h3⟩ := r
    exact ⟨v, rr, e, W, ⟨s.e.set i (putSl p), s.t⟩, ps, R.put h1, rOs_put h1 h2 h3, by simpa using hl, fun σ' R' => k σ' R'⟩
theorem ps_parT {es tgs : List Expr} {f : LM} {is : List Nat} {k2 kt : Nat} {pt2 pt : Pos} (hc : X.calm = true) (ha : PLX X Z es f) (hg : PGsO X tgs is) (hl : lineOk is.length = true := by rfl)
    (hs : swapsWithSole [.Tuple tgs kt pt] (.Tuple es k2 pt2) pos.line X.env = pure false := by rfl) (hw : swappedStores [.Tuple tgs kt pt] (.Tuple es k2 pt2) X.env = pure none := by rfl)
    (h1 : (assignEach [.Tuple tgs kt pt] X.env).map (·.2) = [assign (.Tuple tgs kt pt) X.env] := by rfl) (hn : (assignEach tgs X.env).length = is.length := by rfl) (hst : (assignEach tgs X.env).findIdx? (·.1) = none := by rfl) :
    PSX X Z (.Assign [.Tuple tgs kt pt] (.Tuple es k2 pt2) pos) (parS is f) := by
  refine ⟨PS_imp (L2.ps_asg (pe_tup ha.pa) (L2.pg_tup hc hg.pgs hn hst) hs hw h1) fun D σ H ⟨W, s, R, h⟩ => ⟨W, s, R, PostS.bindE h fun ps s1 vs W1 H1 _ st R1 rv q => ?_⟩⟩
  have rv : rOs X.K σ W1 H1 s1 ps vs := rv
  split at q
  · rename_i hps
    have hv : vs.length = is.length := by rw [rOs_len rv, hps]
    refine ⟨by rw [hv]; exact of_decide_eq_true hl, fun p hp => ?_⟩
    exact ⟨p, vs, rfl, SqT.of upd_same, hv, W1, s1, ps, R1.alloc hp, rOs_alloc R1 hp rv, hps, fun σ' R' => q σ' W1 _ (Step.alloc hp (R1.nP hp)) R'⟩
  · exact q.elim
theorem pt_cmpB {a b : Expr} {op : CmpOp} {g : P2} {fa fb : EM} (hg : BinB X (compareOp op) g) (ha : PX X Z a fa) (hb : PB X Z b fb) (hm : behindInMarks op b = false := by first | exact nomark _ | rfl | with_unfolding_all rfl) : PTX X Z (.Compare a [op] [b] pos) (testE (binE g fa fb)) := by
  obtain ⟨r, o, k⟩ := hg
  refine ⟨PT_imp (L2.pt_cmpR o ha.pe hb.pe hm) fun σ H Q h => ?_⟩
  obtain ⟨W, s, R, h⟩ := h
  unfold testE binE plainE binO at h
  refine ⟨W, s, R, ?_⟩
  cases e1 : fa s with
  | bad => rw [e1] at h; exact h.elim
  | exc x s1 => rw [e1] at h; exact h
  | ok p s1 =>
    rw [e1] at h
    intro x W1 H1 st R1 rx
    refine ⟨W1, s1, R1, ?_⟩
    cases e2 : fb s1 with
    | bad => simp only [Re.bind, e2] at h; exact h.elim
    | exc x s2 => simp only [Re.bind, e2] at h; exact fun d W' H' st' R' xr => h d W' H' (st.trans st') R' xr
    | ok q s2 =>
      intro y W2 H2 st2 R2 ry
      simp only [Re.bind, e2, DR.p2] at h
      cases e : g p q with
      | none => simp only [e, Option.map_none] at h; exact h.elim
      | some res =>
        simp only [e, Option.map_some] at h
        refine k W2 H2 p q x y res _ (st2.rv rx) ry e fun v rv => ?_
        exact toB_post (Z := Z) R2 rv (Post.step (Post.step h st) st2)
/-! ### built-ins of two arguments -/
theorem px_blt2 {x : Str} {id : String} {a b : Expr} {p : Pos} {fa fb : EM} {r : List V → Hp → VK → Prop} {g : P2} (c : CallR X (.builtin id) r) (k : ∀ (W : Wd) (H : Hp) (p q : PV) (x y : V) (res : PV) (Q : VK), RV X.K W H p x → RV X.K W H q y → g p q = some res → (∀ v, RV X.K W H res v → Q v H) → r [x, y] H Q)
    (hg : Gl X x) (hm : X.mg x = none) (hv : bootBuiltins x = some (.builtin id)) (ha : PX X Z a fa) (hb : PX X Z b fb) (hn : x ≠ "__name__" := by decide) (hdb : (x == ("__debug__" : Str)) = false := by decide)
    (he : starEach [a, b] X.env = (false, eval a X.env) :: starEach [b] X.env := by rfl) (he2 : starEach [b] X.env = (false, eval b X.env) :: starEach [] X.env := by rfl) (hpl : (backTo pos (starEach [b] X.env)).any (·.1) = false := by rfl) : PX X Z (.Call (.Name x p) [a, b] [] pos) (binE g fa fb) := by
  refine px_of ⟨PE_imp (L2.pe_callB c hg hm hv (L2.pa_cons ha.pe (L2.pa_cons hb.pe L2.pa_nil he2) he) hn hdb he hpl) fun σ H Q ⟨W, s, R, h⟩ => ⟨W, s, R, Post.bind h fun p s1 x W1 H1 _ st R1 rx q => ⟨W1, s1, R1, Post.bind q fun q0 s2 y W2 H2 _ st2 R2 ry q2 => ?_⟩⟩⟩
  simp only [DR.p2] at q2
  cases e : g p q0 with
  | none => simp only [e, Option.map_none] at q2; exact q2.elim
  | some res =>
    simp only [e, Option.map_some] at q2
    exact k W2 H2 p q0 x y res Q (st2.rv rx) ry e fun v rv => q2 v W2 H2 (Step.refl _ _) R2 rv
def max2G : P2 := ii (fun _ _ => true) fun i j => .int (if j > i then j else i)
def min2G : P2 := ii (fun _ _ => true) fun i j => .int (if j < i then j else i)
theorem px_max2 {a b : Expr} {p : Pos} {fa fb : EM} (hc : X.calm = true) (hg : Gl X "max") (hm : X.mg "max" = none) (hv : bootBuiltins "max" = some (.builtin "max")) (ha : PX X Z a fa) (hb : PX X Z b fb)
    (he : starEach [a, b] X.env = (false, eval a X.env) :: starEach [b] X.env := by rfl) (he2 : starEach [b] X.env = (false, eval b X.env) :: starEach [] X.env := by rfl) (hpl : (backTo pos (starEach [b] X.env)).any (·.1) = false := by rfl) : PX X Z (.Call (.Name "max" p) [a, b] [] pos) (binE max2G fa fb) :=
  px_blt2 (call_max2 hc) (fun W H p q x y res Q rx ry e k => by
    obtain ⟨i, j, rfl, rfl, _, rfl⟩ := ii_some e
    exact ⟨i, j, by rw [rv_int_inv rx, rv_int_inv ry], k _ rv_int⟩) hg hm hv ha hb (by decide) (by decide) he he2 hpl
theorem px_min2 {a b : Expr} {p : Pos} {fa fb : EM} (hc : X.calm = true) (hg : Gl X "min") (hm : X.mg "min" = none) (hv : bootBuiltins "min" = some (.builtin "min")) (ha : PX X Z a fa) (hb : PX X Z b fb)
    (he : starEach [a, b] X.env = (false, eval a X.env) :: starEach [b] X.env := by rfl) (he2 : starEach [b] X.env = (false, eval b X.env) :: starEach [] X.env := by rfl) (hpl : (backTo pos (starEach [b] X.env)).any (·.1) = false := by rfl) : PX X Z (.Call (.Name "min" p) [a, b] [] pos) (binE min2G fa fb) :=
  px_blt2 (call_min2 hc) (fun W H p q x y res Q rx ry e k => by
    obtain ⟨i, j, rfl, rfl, _, rfl⟩ := ii_some e
    exact ⟨i, j, by rw [rv_int_inv rx, rv_int_inv ry], k _ rv_int⟩) hg hm hv ha hb (by decide) (by decide) he he2 hpl
end
theorem u65 {k : Nat} {A : Around} (r : RoomG k A) : A.units + 65 < cLine := by have := r.r.un; omega
theorem u64 {k : Nat} {A : Around} (r : RoomG k A) : A.units + 64 < cLine := by have := r.r.un; omega
theorem u1 {k : Nat} {A : Around} (r : RoomG k A) : A.units + 1 < cLine := by have := r.r.un; omega
/-! ### the built-in names -/
theorem bb_len : bootBuiltins "len" = some (.builtin "len") := by decide +kernel
theorem bb_abs : bootBuiltins "abs" = some (.builtin "abs") := by decide +kernel
theorem bb_all : bootBuiltins "all" = some (.builtin "all") := by decide +kernel
theorem bb_any : bootBuiltins "any" = some (.builtin "any") := by decide +kernel
theorem bb_sum : bootBuiltins "sum" = some (.builtin "sum") := by decide +kernel
theorem bb_max : bootBuiltins "max" = some (.builtin "max") := by decide +kernel
theorem bb_min : bootBuiltins "min" = some (.builtin "min") := by decide +kernel
theorem bb_sorted : bootBuiltins "sorted" = some (.builtin "sorted") := by decide +kernel
theorem bb_repr : bootBuiltins "repr" = some (.builtin "repr") := by decide +kernel
theorem bb_isinstance : bootBuiltins "isinstance" = some (.builtin "isinstance") := by decide +kernel
theorem bb_int : bootBuiltins "int" = some (.type "int") := by decide +kernel
theorem bb_bool : bootBuiltins "bool" = some (.type "bool") := by decide +kernel
theorem bb_tuple : bootBuiltins "tuple" = some (.type "tuple") := by decide +kernel
theorem bb_list : bootBuiltins "list" = some (.type "list") := by decide +kernel
theorem bb_dict : bootBuiltins "dict" = some (.type "dict") := by decide +kernel
theorem bb_set : bootBuiltins "set" = some (.type "set") := by decide +kernel
theorem bb_str : bootBuiltins "str" = some (.type "str") := by decide +kernel
end DR
namespace DR
open PySem
/-! ### where a comprehension stands -/
def pS (l : List Stmt) (i : Nat) : Stmt := l.getD i (.Pass ⟨0, 0, 0, 0⟩)
def pX : Expr := .Constant .none 0 ⟨0, 0, 0, 0⟩
def pVal : Stmt → Expr
  | .Assign _ e _ => e
  | .AugAssign _ _ e _ => e
  | .Expr e _ => e
  | .Return (some e) _ => e
  | _ => pX
def pTest : Stmt → Expr
  | .If c _ _ _ => c
  | .While c _ _ _ => c
  | .For _ i _ _ _ => i
  | _ => pX
def pBody : Stmt → List Stmt
  | .If _ b _ _ => b
  | .While _ b _ _ => b
  | .For _ _ b _ _ => b
  | _ => []
def pElse : Stmt → List Stmt
  | .If _ _ b _ => b
  | .While _ _ b _ => b
  | .For _ _ _ b _ => b
  | _ => []
def pFun : Expr → Expr
  | .Call f _ _ _ => f
  | .Attribute v _ _ => v
  | .IfExp t _ _ _ => t
  | _ => pX
def pArg : Expr → Nat → Expr
  | .Call _ as _ _, i => as.getD i pX
  | .Compare _ _ as _, i => as.getD i pX
  | .BoolOp _ as _, i => as.getD i pX
  | .Tuple as _ _, i => as.getD i pX
  | .List as _, i => as.getD i pX
  | _, _ => pX
def pL : Expr → Expr
  | .BinOp a _ _ _ => a
  | .Compare a _ _ _ => a
  | .UnaryOp _ a _ => a
  | .IfExp _ a _ _ => a
  | .Subscript a _ _ => a
  | .ListComp a _ _ _ => a
  | _ => pX
def pR : Expr → Expr
  | .BinOp _ _ a _ => a
  | .IfExp _ _ a _ => a
  | .Subscript _ a _ => a
  | _ => pX
def pIter : Expr → Nat → Expr
  | .ListComp _ [⟨_, a, _, _⟩] _ _, 0 => a
  | .ListComp _ [⟨_, a, _, _⟩, _] _ _, 0 => a
  | .ListComp _ [_, ⟨_, a, _, _⟩] _ _, 1 => a
  | _, _ => pX
def pIf : Expr → Nat → Nat → Expr
  | .ListComp _ [⟨_, _, as, _⟩] _ _, 0, i => as.getD i pX
  | .ListComp _ [⟨_, _, as, _⟩, _] _ _, 0, i => as.getD i pX
  | .ListComp _ [_, ⟨_, _, as, _⟩] _ _, 1, i => as.getD i pX
  | _, _, _ => pX
def pScope : Expr → Scope
  | .ListComp _ _ s _ => s
  | _ => default
/-- how many turns a loop is allowed -/
def fuel : Nat := 1000000
end DR
/-! DR: max and min of a list or a tuple of ints. -/
namespace DR
open PySem PySem.Spec PyProof.Rows L2
section
variable {X : Cx}
def rTopT (K : PySem.W.Frag) (best : Int → List Int → Int) : List V → Hp → VK → Prop := fun xs H Q => ∃ (a : Addr) (n : Int) (ns : List Int), xs = [.ref a] ∧ SqT K H a ((n :: ns).map V.int) ∧ Q (.int (best n ns)) H
theorem dpInts {K : PySem.W.Frag} {H : Hp} : ∀ ns : List Int, DpAll K H (ns.map V.int) (ns.map PyData.int)
  | [] => .nil
  | n :: ns => .cons (.int n) (dpInts ns)
theorem reads_int {h : Heap} {v : Value} {m : Int} {bs : List Addr} (r : Reads h v (.int m) bs) : ∃ t, v = .int m t := by
  cases r
  exact ⟨_, rfl⟩
theorem cr_maxT (hc : X.calm = true) (hu : X.A.units + 65 < cLine) : CallR X (.builtin "max") (rTopT X.K fun n ns => ns.foldl max n) := by
  intro pins s σ H xs us Q I r h
  obtain ⟨a, n, ns, rfl, hs, q⟩ := h
  obtain ⟨its, rv, tp, _⟩ := I.tuple hs
  rw [Vals.ref1 r]
  obtain ⟨as, rs⟩ := Dp.readsAll I ((n :: ns).map PyData.int) ((n :: ns).map V.int) its (dpInts (n :: ns)) rv
  have dep := PySem.W.depthAll_map (α := Int) (n :: ns)
  refine PySem.W.max_tuple_data (x := .int n) (xs := ns.map .int) (I.ok.hd hc) tp (by simpa using rs) (PySem.W.alikeAll_datum (α := Int) (n :: ns)) ?_ fun i v h' tk bs hi rd hk => ?_
  · have : PyData.depthAll ((n :: ns).map PyData.int) ≤ 0 := dep
    rw [List.map_cons] at this
    omega
  · rw [PySem.W.maxD_ints] at rd
    obtain ⟨t, rfl⟩ := reads_int rd
    exact ⟨.int _, H, I.kept (t' := tk) hk, ⟨t, rfl⟩, q⟩
theorem cr_minT (hc : X.calm = true) (hu : X.A.units + 65 < cLine) : CallR X (.builtin "min") (rTopT X.K fun n ns => ns.foldl min n) := by
  intro pins s σ H xs us Q I r h
  obtain ⟨a, n, ns, rfl, hs, q⟩ := h
  obtain ⟨its, rv, tp, _⟩ := I.tuple hs
  rw [Vals.ref1 r]
  obtain ⟨as, rs⟩ := Dp.readsAll I ((n :: ns).map PyData.int) ((n :: ns).map V.int) its (dpInts (n :: ns)) rv
  have dep := PySem.W.depthAll_map (α := Int) (n :: ns)
  refine PySem.W.min_tuple_data (x := .int n) (xs := ns.map .int) (I.ok.hd hc) tp (by simpa using rs) (PySem.W.alikeAll_datum (α := Int) (n :: ns)) ?_ fun i v h' tk bs hi rd hk => ?_
  · have : PyData.depthAll ((n :: ns).map PyData.int) ≤ 0 := dep
    rw [List.map_cons] at this
    omega
  · rw [PySem.W.minD_ints] at rd
    obtain ⟨t, rfl⟩ := reads_int rd
    exact ⟨.int _, H, I.kept (t' := tk) hk, ⟨t, rfl⟩, q⟩
def maxTG : G1 := fun p => match p with
  | .tup _ ps => ((intsP ps).bind maxL).map PV.int
  | _ => none
def minTG : G1 := fun p => match p with
  | .tup _ ps => ((intsP ps).bind minL).map PV.int
  | _ => none
theorem u_maxT (hc : X.calm = true) (hu : X.A.units + 65 < cLine) : Un1 X (.builtin "max") (g1 maxTG) := Un1.plain (cr_maxT hc hu) fun W H p x res Q rx e k => by
  cases p with
  | tup c ps =>
    simp only [maxTG, Option.map_eq_some_iff, Option.bind_eq_some_iff] at e
    obtain ⟨m, ⟨bs, e, hm⟩, rfl⟩ := e
    obtain ⟨a, vs, rfl, h1, h2⟩ := bv_tup rx
    have hv := ints_vs e h2
    subst hv
    cases bs with
    | nil => cases hm
    | cons n ns =>
      cases hm
      exact ⟨a, n, ns, rfl, h1, k _ rv_int⟩
  | _ => simp [maxTG] at e
theorem u_minT (hc : X.calm = true) (hu : X.A.units + 65 < cLine) : Un1 X (.builtin "min") (g1 minTG) := Un1.plain (cr_minT hc hu) fun W H p x res Q rx e k => by
  cases p with
  | tup c ps =>
    simp only [minTG, Option.map_eq_some_iff, Option.bind_eq_some_iff] at e
    obtain ⟨m, ⟨bs, e, hm⟩, rfl⟩ := e
    obtain ⟨a, vs, rfl, h1, h2⟩ := bv_tup rx
    have hv := ints_vs e h2
    subst hv
    cases bs with
    | nil => cases hm
    | cons n ns =>
      cases hm
      exact ⟨a, n, ns, rfl, h1, k _ rv_int⟩
  | _ => simp [minTG] at e
/-- two rules with plain answers -/
theorem Un1.or1 {f : Value} {g g' : G1} (h : Un1 X f (g1 g)) (h' : Un1 X f (g1 g')) : Un1 X f (g1 fun p => (g p).or (g' p)) := by
  have := h.or h'
  have e : (fun p => (g1 g p).or (g1 g' p)) = g1 fun p => (g p).or (g' p) := by
    funext p
    simp only [g1]
    cases g p <;> rfl
  rw [← e]
  exact this
def maxA : G1 := fun p => (maxG p).or (maxTG p)
def minA : G1 := fun p => (minG p).or (minTG p)
theorem u_maxA (hc : X.calm = true) (hu : X.A.units + 65 < cLine) : Un1 X (.builtin "max") (g1 maxA) := (u_max hc).or1 (u_maxT hc hu)
theorem u_minA (hc : X.calm = true) (hu : X.A.units + 65 < cLine) : Un1 X (.builtin "min") (g1 minA) := (u_min hc).or1 (u_minT hc hu)
def lenA : G1 := fun p => (lenG p).or (lenQ p)
theorem u_lenA : Un1 X (.builtin "len") (g1 lenA) := u_len.or1 u_lenQ
end
end DR
set_option maxHeartbeats 4000000
/-! DR: a law's end, its def called where no guard is under way. -/
namespace DR
open PySem PySem.Spec PyProof.Rows L2 LamX
/-- what is tracked ahead of a law: the tables T, the script at a -/
def lawH (T : List Addr) (a : Addr) (u : Option HO) : Hp := fun b => if b ∈ T then some (.tbl #[]) else if b = a then u else none
section
variable {T : List Addr} {a b : Addr} {u : Option HO} {o : HO}
theorem lawH_T (h : b ∈ T) : lawH T a u b = some (.tbl #[]) := if_pos h
theorem lawH_a (h : a ∉ T) : lawH T a u a = u := (if_neg h).trans (if_pos rfl)
theorem lawH_inv (h : lawH T a u b = some o) : (b ∈ T ∧ o = .tbl #[]) ∨ (b ∉ T ∧ b = a ∧ u = some o) := by
  unfold lawH at h
  by_cases hb : b ∈ T
  · rw [if_pos hb] at h
    cases h
    exact .inl ⟨hb, rfl⟩
  · rw [if_neg hb] at h
    by_cases hc : b = a
    · rw [if_pos hc] at h
      exact .inr ⟨hb, hc, h⟩
    · rw [if_neg hc] at h
      cases h
end
theorem law_callG {P : Program} {w : World} {K : PySem.W.Frag} {mg mb : Str → Option Value} {CX : CXT} {k : Nat} {fa a : Addr} {cs : List (Addr × Addr)} {fd : FuncData} {x : Str} {sp : Sp} {s : Shared} {vs : List Value} {ns : List Int}
    (KX : K.In s.heap) (hns : s.heap.Ns mainGlobals mg) (hb : s.heap.Ns builtinsNs mb) (hbb : ∀ x : Str, x ≠ "__name__" → mb x = bootBuiltins x) (hlim : s.heap.NoLimit) (hg : s.gens = #[])
    (hT : ∀ p ∈ cs, s.heap.get? p.2 = some { cls := .none, data := .fields #[] }) (nT : ∀ p ∈ cs, K.lookup p.2 = none) (C : ∀ p ∈ cs, PySem.W.CodeHd s.heap p.1 p.2)
    (hbm : ∃ (bm : Addr) (ob : Obj), mg "__builtins__" = some (.ref bm) ∧ bm ≠ builtinsNs ∧ s.heap.get? bm = some ob ∧ ob.cls = .type "module" ∧ ob.dict = some builtinsNs ∧ ob.data = .plain)
    (ha : s.heap.get? a = some { cls := .type "list", data := .seq vs.toArray }) (hi : IntsAre vs ns) (hl : ns.length ≤ sizeLine) (hr : RoomG k callerA)
    (F : ∀ base : Heap, K.In base → base.Ns mainGlobals mg → (∀ p ∈ cs, TabB base mg p.1 p.2) → FnG P w K mg base CX k fa fd [x] sp) (bind : ∀ (s : Shared) (u : Value), BindsTo s fd ⟨[u], []⟩ [(x, u)])
    (says : ∀ H : Hp, (∀ p ∈ cs, H p.2 = some (.tbl #[])) → SqL K H a (ns.map V.int) → sp [.ref a] H (fun v _ => v = .bl true) fun _ _ _ => False)
    (calm : ∀ H e s', CX [] H s (fun _ _ _ => False) e s' → False) :
    codeAny (model P w) callerA (.call (.ref fa) ⟨[.ref a], []⟩) (fun r s' => r = .ok (.ret (.bool true)) ∧ OldK s.heap s'.heap ∧ s'.os = s.os ∧ AllBare s'.gens) s := by
  have rvs := vals_ints hi
  have many := hi.length
  let T := cs.map (·.2)
  have onT : ∀ b ∈ T, ∃ p ∈ cs, p.2 = b := fun b hb => let ⟨p, h1, h2⟩ := List.mem_map.mp hb; ⟨p, h1, h2⟩
  have toT : ∀ p ∈ cs, p.2 ∈ T := fun p hp => List.mem_map.mpr ⟨p, hp, rfl⟩
  have tabAt : ∀ b ∈ T, s.heap.get? b = some { cls := .none, data := .fields #[] } := fun b hb => by
    obtain ⟨p, hp, rfl⟩ := onT b hb
    exact hT p hp
  have aT : a ∉ T := fun z => by
    have q := tabAt a z
    rw [ha] at q
    injection q with q
    injection q with _ _ q
    cases q
  let u : Option HO := match K.lookup a with
    | some _ => none
    | none => some (.frz { cls := .type "list", data := .seq vs.toArray } (.lst (ns.map V.int)))
  have uK : ∀ o, u = some o → K.lookup a = none ∧ o = .frz { cls := .type "list", data := .seq vs.toArray } (.lst (ns.map V.int)) := fun o e => by
    show K.lookup a = none ∧ _
    have e : (match K.lookup a with
      | some _ => none
      | none => some (HO.frz { cls := .type "list", data := .seq vs.toArray } (.lst (ns.map V.int)))) = some o := e
    cases q : K.lookup a with
    | some z => rw [q] at e; cases e
    | none => rw [q] at e; cases e; exact ⟨rfl, rfl⟩
  let H : Hp := lawH T a u
  have HT : ∀ p ∈ cs, H p.2 = some (.tbl #[]) := fun p hp => lawH_T (toT p hp)
  -- an object that is neither a list nor a table's is not tracked
  have off : ∀ {b : Addr} {o : Obj}, s.heap.get? b = some o → (∀ vs n, o.data ≠ .seq vs n) → o.data ≠ .fields #[] → H b = none := fun {b o} e h1 h2 => by
    cases q : H b with
    | none => rfl
    | some z =>
      rcases lawH_inv q with ⟨hb, _⟩ | ⟨_, rfl, _⟩
      · rw [tabAt b hb] at e
        cases e
        exact absurd rfl h2
      · rw [ha] at e
        cases e
        exact absurd rfl (h1 _ _)
  have list : SqL K H a (ns.map V.int) := by
    cases q : K.lookup a with
    | some o =>
      have e := KX a o q
      rw [ha] at e
      cases e
      exact .inr ⟨_, vs.toArray, _, q, rfl, rfl, rfl, by rw [List.size_toArray, many]; exact hl, by simpa using rvs⟩
    | none =>
      refine .inl (.inr ⟨{ cls := .type "list", data := .seq vs.toArray }, (lawH_a aT).trans ?_⟩)
      show (match K.lookup a with
        | some _ => none
        | none => some (HO.frz { cls := .type "list", data := .seq vs.toArray } (.lst (ns.map V.int)))) = _
      rw [q]
  have good : HOk P w H s.heap := fun b o z => by
    rcases lawH_inv z with ⟨hb, rfl⟩ | ⟨_, rfl, e⟩
    · exact tabAt b hb
    · obtain ⟨_, rfl⟩ := uK o e
      exact ⟨ha, by rw [List.length_map]; exact hl, vs, _, rvs, ha⟩
  have dictOff : ∀ {b : Addr} {o : Obj} {es : Array DictEntry} {ep : Nat}, s.heap.get? b = some o → o.data = .dict es ep → H b = none := fun e d => off e (fun vs n z => by rw [d] at z; cases z) fun z => by rw [d] at z; cases z
  have ns' : ∀ {b : Addr} {m : Str → Option Value}, s.heap.Ns b m → (hidT s.heap H).Ns b m := fun ⟨o, es, ep, e, d, r⟩ => ⟨o, es, ep, hidT_get e (dictOff e d), d, r⟩
  have kin : K.In (hidT s.heap H) := fun b o e => hidT_get (KX b o e) (by
    cases q : H b with
    | none => rfl
    | some z =>
      rcases lawH_inv q with ⟨hb, _⟩ | ⟨_, rfl, e2⟩
      · obtain ⟨p, hp, rfl⟩ := onT b hb
        rw [nT p hp] at e
        cases e
      · rw [(uK z e2).1] at e
        cases e)
  have md : L2.Mod K mg (hidT s.heap H) := ⟨kin, ns' hns, ⟨mb, ns' hb, hbb⟩, let ⟨mc, h1, h2⟩ := hlim; ⟨mc, ns' h1, h2⟩⟩
  have tabs : ∀ p ∈ cs, TabB (hidT s.heap H) mg p.1 p.2 := fun p hp => by
    have here := hT p hp
    refine ⟨?_, ?_, fun z => ?_⟩
    · obtain ⟨o, us, file, tf, flags, tg, inF, text, tt, e1, r1, r2, r3, r4, r5, r6, r7, r8, r9⟩ := C p hp
      refine ⟨o, us, file, tf, flags, tg, inF, text, tt, hidT_get e1 (off e1 (fun vs n z => ?_) fun z => ?_), r1, r2, r3, r4, r5, r6, r7, r8, r9⟩
      · rw [r2] at z; cases z
      · rw [r2] at z; cases z; simp at r3
    · obtain ⟨bm, ob, b1, b2, b3, b4, b5, b6⟩ := hbm
      have n1 : bm ≠ mainGlobals := fun q => by
        obtain ⟨o, es, ep, e, hd, _⟩ := hns
        rw [q, e] at b3
        cases b3
        rw [hd] at b6
        cases b6
      have n2 : bm ≠ p.2 := fun q => by
        rw [q, here] at b3
        cases b3
        cases b6
      exact ⟨bm, ob, b1, b2, n1, n2, hidT_get b3 (off b3 (fun vs n z => by rw [b6] at z; cases z) fun z => by rw [b6] at z; cases z), b4, b5, b6⟩
    · obtain ⟨o, es, ep, e, hd, _⟩ := hns
      rw [z, here] at e
      cases e
      cases hd
  have e0 : Env0 P w K mg (hidT s.heap H) callerA [] s H := ⟨rfl, md, fun b o e => of_hidT e, Nat.le_of_eq (hidT_size _ _), trivial, fun b hb => (by cases hb), good, .of_eq hg⟩
  refine codeAny_mono ((F _ kin (ns' hns) tabs).run callerA [] s H ⟨[.ref a], []⟩ [.ref a] [.ref a] _ _ hr e0 (bind s (.ref a)) (.cons rfl .nil) (says H HT list)) fun r s' h => ?_
  cases r with
  | error e => exact (calm H e s' h).elim
  | ok fl =>
    cases fl with
    | next => exact False.elim h
    | brk => exact False.elim h
    | cont => exact False.elim h
    | ret z =>
      obtain ⟨v, H', os, bare, un, good', r', q⟩ := h
      have q : v = .bl true := q
      subst q
      obtain rfl : z = Value.bool true := r'
      have still : ∀ b o, b ∉ T → s.heap.get? b = some o → s'.heap.get? b = some o := fun b o nb e => by
        cases q : H b with
        | none => exact un.keep b o e q (by intro z; cases z) (by simp)
        | some y =>
          rcases lawH_inv q with ⟨hb, _⟩ | ⟨_, rfl, e2⟩
          · exact absurd hb nb
          · obtain ⟨_, rfl⟩ := uK y e2
            have q2 := un.frzs b _ _ q
            obtain ⟨e3, _⟩ := good b _ q
            obtain ⟨e4, _⟩ := good' b _ q2
            rw [e] at e3
            cases e3
            exact e4
      have more : ∀ p ∈ cs, ∃ m : Array Value, s'.heap.get? p.2 = some { cls := .none, data := .fields m } := fun p hp => by
        obtain ⟨m, z⟩ := un.tbls p.2 #[] (HT p hp)
        exact ⟨_, good' p.2 _ z⟩
      refine ⟨rfl, ⟨fun b o e => ?_, fun b o e => ?_⟩, os, bare⟩
      · by_cases hb : b ∈ T
        · obtain ⟨p, hp, rfl⟩ := onT b hb
          obtain ⟨m, hm⟩ := more p hp
          rw [hT p hp] at e
          cases e
          exact .inr (.inl ⟨((C p hp).tab (hT p hp)).isCodeTable, rfl, #[], m, rfl, by rw [Array.empty_append]; exact hm⟩)
        · exact .inl (still b o hb e)
      · by_cases hb : b ∈ T
        · obtain ⟨p, hp, rfl⟩ := onT b hb
          obtain ⟨m, hm⟩ := more p hp
          exact ⟨_, hm⟩
        · exact ⟨o, still b o hb e⟩
/-- what is known of the law's promise at the head's heap h -/
def LawAtG (l : PySem.W.OpenLaw) (w : World) (K : PySem.W.Frag) (CX : CXT) (k n : Nat) (x : Str) (mg : Str → Option Value) (fa : Addr) (h : Heap) : Prop :=
  ∃ (fd : FuncData) (cs : List (Addr × Addr)) (sp : Sp), (∀ p ∈ cs, h.get? p.2 = some { cls := .none, data := .fields #[] }) ∧ (∀ p ∈ cs, K.lookup p.2 = none) ∧ (∀ p ∈ cs, PySem.W.CodeHd h p.1 p.2) ∧ (∀ (s : Shared) (u : Value), BindsTo s fd ⟨[u], []⟩ [(x, u)]) ∧
    (∀ (H : Hp) (a : Addr) (ns : List Int), ns.length ≤ n → (∀ p ∈ cs, H p.2 = some (.tbl #[])) → SqL K H a (ns.map V.int) → sp [.ref a] H (fun v _ => v = .bl true) fun _ _ _ => False) ∧
    ∀ base : Heap, K.In base → base.Ns mainGlobals mg → (∀ p ∈ cs, TabB base mg p.1 p.2) → FnG l.prog w K mg base CX k fa fd [x] sp
theorem walkG {l : PySem.W.OpenLaw} {n k : Nat} {q : Program} {loose : List Str} {XP : (Str → Option Value) → Heap → Prop} {YP : World → Heap → Prop} {d : DefRec} {CX : World → CXT} {x : Str} (most : l.most = some n) (small : n ≤ sizeLine) (nodf : d.params.defaults = []) (room : Room k callerA)
    (F : ∀ (w : World) (mg : Str → Option Value) (fa : Addr) (h : Heap), YP w h → h.Ns mainGlobals mg → mg d.name = some (.ref fa) → ∃ K : PySem.W.Frag, K.In h ∧ LawAtG l w K (CX w) k n x mg fa h)
    (out : ∀ (w : World) (H : Hp) (s : Shared) (e : Value) (s' : Shared), CX w [] H s (fun _ _ _ => False) e s' → False) :
    PySem.W.WalkO q loose XP YP l.row.toRowW d [] (fun f vs => PySem.call f vs) := by
  refine Att.attach_callB most nodf fun w s0 s mg mb fa o pm cd doc a vs ns G Y _ _ _ hm hobj his hln _ hg => ?_
  obtain ⟨K, KX, fd, cs, sp, hT, nT, C, bind, says, ok⟩ := F w mg fa _ Y G.T.g hm
  exact law_callG KX G.T.g G.T.b G.T.builtins G.T.nolimit hg hT nT C G.T.bmain hobj his (Nat.le_trans hln small) ⟨room, rfl⟩ ok bind (fun H hH hS => says H a ns hln hH hS) fun H e s' => out w H s e s'
end DR
/-! DR: a law's end. -/
namespace DR
open PySem PySem.Spec PyProof.Rows L2
theorem walkW {l : PySem.W.OpenLaw} {n k : Nat} {q : Program} {loose : List Str} {XP : (Str → Option Value) → Heap → Prop} {YP : World → Heap → Prop} {d : DefRec} {CX : World → CXT} {x : Str} (most : l.most = some n) (small : n ≤ sizeLine) (nodf : d.params.defaults = []) (room : Room k callerA)
    (out : ∀ (w : World) (H : Hp) (s : Shared) (e : Value) (s' : Shared), CX w [] H s (fun _ _ _ => False) e s' → False)
    (F : ∀ (w : World) (mg : Str → Option Value) (g : Addr) (h : Heap), YP w h → h.Ns mainGlobals mg → mg d.name = some (.ref g) → ∃ (K : PySem.W.Frag) (fd : FuncData) (sp : Sp), K.In h ∧ (∀ (s : Shared) (u : Value), BindsTo s fd ⟨[u], []⟩ [(x, u)]) ∧
      (∀ (H : Hp) (a : Addr) (ns : List Int), ns.length ≤ n → SqL K H a (ns.map V.int) → sp [.ref a] H (fun v _ => v = .bl true) fun _ _ _ => False) ∧ ∀ base : Heap, K.In base → base.Ns mainGlobals mg → FnG l.prog w K mg base (CX w) k g fd [x] sp) :
    PySem.W.WalkO q loose XP YP l.row.toRowW d [] (fun f vs => PySem.call f vs) := by
  refine walkG (x := x) most small nodf room (fun w mg g h Y hn hm => ?_) out
  obtain ⟨K, fd, sp, kin, bind, says, ok⟩ := F w mg g h Y hn hm
  exact ⟨K, kin, fd, [], sp, fun p hp => (nomatch hp), fun p hp => (nomatch hp), fun p hp => (nomatch hp), bind, fun H a ns hl _ hS => says H a ns hl hS, fun base h1 h2 _ => ok base h1 h2⟩
theorem cx_closed {P : Program} (w : World) (H : Hp) (s : Shared) (e : Value) (s' : Shared) (h : L2.CX P w [] H s (fun _ _ _ => False) e s') : False := by
  obtain ⟨_, _, _, _, _, _, _, _, _, _, _, _, z⟩ := h
  exact z
/-- a law that answers True -/
theorem promise {K : PySem.W.Frag} {f : SemF} (law : ∀ ns : List Int, ns.length ≤ 63 → ∃ t, f [.scr (ns.map .int)] [] = .ok (.bl true) false t) (H : Hp) (a : Addr) (ns : List Int) (hl : ns.length ≤ 63) (hS : SqL K H a (ns.map V.int)) :
    spF K 1 f [.ref a] H (fun v _ => v = .bl true) fun _ _ _ => False := by
  obtain ⟨t, e⟩ := law ns hl
  have hm : Wd.m ⟨[], [], []⟩ H = H := by
    funext b
    exact msk_out (by simp [Wd.L])
  have nums : ∀ l : List Int, Reps K [] H (l.map PV.int) (l.map V.int) := fun l => by
    induction l with
    | nil => exact reps_nil
    | cons i l ih => exact reps_cons (by unfold Rep; rfl) ih
  refine ⟨rfl, ⟨[], [], []⟩, [], [.scr (ns.map .int)], rfl, ⟨rfl, fun k p a h => by simp at h, List.nodup_nil, fun a h => (nomatch h), fun a h => (nomatch h), fun a h => (nomatch h), fun a h => (nomatch h), fun a h => (nomatch h)⟩, reps_cons ?_ reps_nil, ?_⟩
  · rw [hm]
    unfold Rep
    exact ⟨a, ns.map V.int, rfl, hS, nums ns⟩
  · rw [e]
    exact fun v W' H' _ _ r => rv_bl_inv (K := K) (W := W') (H := H') r
/-- facts by names -/
theorem Fd.of_ok {P : Program} {w : World} {K : PySem.W.Frag} {mg : Str → Option Value} {base : Heap} {x : Str} {k n : Nat} {sem : SemF} (h : Fd P w K mg base x k n sem) {f : Addr} (hm : mg x = some (.ref f)) :
    ∃ (fd : FuncData) (ps : List Str), FnG P w K mg base (L2.CX P w) k f fd ps (spF K n sem) ∧ ps.length = n := by
  obtain ⟨g, fd, ps, e, ok, kp, b, hl⟩ := h.ex
  rw [hm] at e
  cases e
  exact ⟨fd, ps, ok, hl⟩
end DR
/-! DR: reckoning with the forms. -/
namespace DR
open PySem PySem.Spec PyProof.Rows L2
section
variable {α β : Type}
theorem bind_ok (a : α) (s : DS) (g : α → DS → Re β) : (Re.ok a s).bind g = g a s := (rfl)
theorem bind_bad (g : α → DS → Re β) : (Re.bad : Re α).bind g = .bad := (rfl)
theorem bind_exc (x : Exn) (s : DS) (g : α → DS → Re β) : (Re.exc x s : Re α).bind g = .exc x s := (rfl)
theorem noX_ok (a : α) (s : DS) : noX (Re.ok a s) = .ok a s := (rfl)
/-! names -/
theorem nameE_val {i : Nat} {e : DE} {t : DT} {p : PV} (h : e[i]? = some (.val p)) : nameE i ⟨e, t⟩ = .ok p ⟨e, t⟩ := by simp [nameE, h]
/-! kinds -/
theorem isi_int_int (i : Int) : isiG "int" (.int i) = some (.bl true) := (by rfl)
theorem isi_int_bool (i : Int) : isiG "bool" (.int i) = some (.bl false) := (by rfl)
theorem isi_tup_tup (c : Bool) (ps : List PV) : isiG "tuple" (.tup c ps) = some (.bl true) := (by rfl)
theorem isi_lst_lst (ps : List PV) : isiG "list" (.lst ps) = some (.bl true) := (by rfl)
theorem isi_lst_tup (ps : List PV) : isiG "tuple" (.lst ps) = some (.bl false) := (by rfl)
theorem isi_tup_lst (c : Bool) (ps : List PV) : isiG "list" (.tup c ps) = some (.bl false) := (by rfl)
end
/-! ints -/
theorem subI_ok (i j : Int) : subI (.int i) (.int j) = some (.int (i - j)) := (rfl)
theorem addI_ok (i j : Int) : addO (.int i) (.int j) = some (.int (i + j), false) := (rfl)
theorem mulI_r {i j : Int} (h : -18446744073709551616 < j ∧ j < 18446744073709551616) : mulO (.int i) (.int j) = some (.int (i * j), false) := by simp [mulO, p2, mulI, ii, h]
theorem mulI_l {i j : Int} (h : -18446744073709551616 < i ∧ i < 18446744073709551616) : mulO (.int i) (.int j) = some (.int (i * j), false) := by simp [mulO, p2, mulI, ii, h]
theorem modI_ok {i j : Int} (h : 0 < j) : modI (.int i) (.int j) = some (.int (i % j)) := by simp [modI, ii, h]
theorem fdivI_ok {i j : Int} (h : 0 < j) (h2 : j < 1073741824) : fdivI (.int i) (.int j) = some (.int (i / j)) := by simp [fdivI, ii, h, h2]
theorem ltI_ok (i j : Int) : ltI (.int i) (.int j) = some (.bl (decide (i < j))) := (rfl)
theorem leI_ok (i j : Int) : leI (.int i) (.int j) = some (.bl (decide (i ≤ j))) := (rfl)
theorem gtI_ok (i j : Int) : gtI (.int i) (.int j) = some (.bl (decide (j < i))) := (rfl)
theorem geI_ok (i j : Int) : geI (.int i) (.int j) = some (.bl (decide (j ≤ i))) := (rfl)
theorem cmpI_ok (c : Int → Int → Bool) (i j : Int) : cmpI c (.int i) (.int j) = some (.bl (c i j)) := (rfl)
theorem max2_ok (i j : Int) : max2G (.int i) (.int j) = some (.int (max i j)) := by
  simp only [max2G, ii, if_true]
  congr 2
  split <;> omega
theorem min2_ok (i j : Int) : min2G (.int i) (.int j) = some (.int (min i j)) := by
  simp only [min2G, ii, if_true]
  congr 2
  split <;> omega
theorem abs_ok (i : Int) : absG (.int i) = some (.int (if i < 0 then -i else i)) := (rfl)
theorem eq_int (n : Bool) (i j : Int) : eqG n (.int i) (.int j) = some (.bl (n != decide (i = j))) := by
  simp [eqG, okD, toD, SeqAt.shaped, eqD, PyData.eqv, PyData.canLay0, PyData.depth]
  by_cases h : i = j <;> simp [h]
/-! several -/
section
variable {vs : List Nat} {tg : Tg} {tt : TM} {f : EM}
inductive All2 (R : PV → Option PV → Prop) : List PV → List (Option PV) → Prop
  | nil : All2 R [] []
  | cons {p o ps os} : R p o → All2 R ps os → All2 R (p :: ps) (o :: os)
theorem All2.fn {g : PV → Option PV} {R : PV → Option PV → Prop} (h : ∀ p o, R p o → o = g p) : ∀ {ps os}, All2 R ps os → os = ps.map g
  | [], _, .nil => rfl
  | p :: ps, _, .cons a b => by rw [h _ _ a, All2.fn h b]; rfl
theorem All2.all {Q : PV → Prop} {R : PV → Option PV → Prop} (h : ∀ p y, R p (some y) → Q y) : ∀ {ps os}, All2 R ps os → ∀ y ∈ os.filterMap id, Q y
  | [], _, .nil, y, hy => by simp at hy
  | p :: ps, _, .cons (o := o) a b, y, hy => by
    cases o with
    | none => exact All2.all h b y (by simpa using hy)
    | some z =>
      simp only [List.filterMap_cons, id] at hy
      rcases List.mem_cons.mp hy with rfl | hy
      · exact h p y a
      · exact All2.all h b y hy
/-- a comprehension under an invariant of the state -/
theorem lcL_inv {Inv : DE → DT → Prop} {R : PV → Option PV → Prop} :
    ∀ (ps acc : List PV) (s : DS), (∀ p ∈ ps, ∀ e t, Inv e t → ∃ e1 b s2, asgT tg p e = some e1 ∧ tt ⟨e1, t⟩ = .ok b s2 ∧ ((b = true ∧ ∃ y s3, f s2 = .ok y s3 ∧ R p (some y) ∧ Inv (wipeE vs s3.e) s3.t) ∨ (b = false ∧ R p none ∧ Inv (wipeE vs s2.e) s2.t))) →
    Inv (wipeE vs s.e) s.t → acc.length + ps.length ≤ sizeLine → ∃ os s', lcL tg tt f vs ps acc s = .ok (acc ++ os.filterMap id) s' ∧ All2 R ps os ∧ Inv (wipeE vs s'.e) s'.t
  | [], acc, s, h, i, hl => ⟨[], s, by simp [lcL], .nil, i⟩
  | p :: ps, acc, s, h, i, hl => by
    obtain ⟨e1, b, s2, h1, h2, h3⟩ := h p List.mem_cons_self _ _ i
    simp only [List.length_cons] at hl
    rcases h3 with ⟨rfl, y, s3, h4, h5, h6⟩ | ⟨rfl, h5, h6⟩
    · obtain ⟨os, s', g1, g2, g3⟩ := lcL_inv ps (acc ++ [y]) s3 (fun q hq => h q (List.mem_cons_of_mem _ hq)) h6 (by simp; omega)
      refine ⟨some y :: os, s', ?_, .cons h5 g2, g3⟩
      rw [lcL_cons, h1]
      simp only [h2, bind_ok, if_true, h4]
      rw [if_pos (by omega), g1]
      simp
    · obtain ⟨os, s', g1, g2, g3⟩ := lcL_inv ps acc s2 (fun q hq => h q (List.mem_cons_of_mem _ hq)) h6 (by omega)
      refine ⟨none :: os, s', ?_, .cons h5 g2, g3⟩
      rw [lcL_cons, h1]
      simp only [h2, bind_ok]
      rw [if_neg (by decide), g1]
      simp
/-- a comprehension that changes nothing -/
theorem lcL_pure {e0 : DE} {t0 : DT} (g : PV → Option PV) (ps acc : List PV) (s : DS) (h : ∀ p ∈ ps, ∃ e1 b s2, asgT tg p e0 = some e1 ∧ tt ⟨e1, t0⟩ = .ok b s2 ∧ ((b = true ∧ ∃ y s3, f s2 = .ok y s3 ∧ g p = some y ∧ wipeE vs s3.e = e0 ∧ s3.t = t0) ∨ (b = false ∧ g p = none ∧ wipeE vs s2.e = e0 ∧ s2.t = t0)))
    (i : wipeE vs s.e = e0) (it : s.t = t0) (hl : acc.length + ps.length ≤ sizeLine) : ∃ s', lcL tg tt f vs ps acc s = .ok (acc ++ ps.filterMap g) s' ∧ wipeE vs s'.e = e0 ∧ s'.t = t0 := by
  obtain ⟨os, s', h1, h2, h3⟩ := lcL_inv (Inv := fun e t => e = e0 ∧ t = t0) (R := fun p o => o = g p) ps acc s (fun p hp e t ⟨a, b⟩ => by
    subst a b
    obtain ⟨e1, b, s2, h1, h2, h3⟩ := h p hp
    refine ⟨e1, b, s2, h1, h2, ?_⟩
    rcases h3 with ⟨a, y, s3, h4, h5, h6, h7⟩ | ⟨a, h5, h6, h7⟩
    · exact .inl ⟨a, y, s3, h4, h5.symm, h6, h7⟩
    · exact .inr ⟨a, h5.symm, h6, h7⟩) ⟨i, it⟩ hl
  have ho := h2.fn (fun _ _ z => z)
  subst ho
  refine ⟨s', ?_, h3.1, h3.2⟩
  rw [h1]
  congr 2
  induction ps with
  | nil => rfl
  | cons p ps ih => cases hg : g p <;> simp [hg]
theorem restE_eq {e0 : DE} : ∀ {e e' : DE}, wipeE vs e' = wipeE vs e → restE vs e0 e' = restE vs e0 e := fun {e e'} h => by
  refine List.ext_getElem? fun j => ?_
  have hj := congrArg (fun l => l[j]?) h
  simp only [wipeE_get] at hj
  rw [restE_get, restE_get]
  by_cases z : j ∈ vs
  · rw [if_pos z, if_pos z]
    rw [if_pos z, if_pos z] at hj
    cases h1 : e'[j]? <;> cases h2 : e[j]? <;> simp_all
  · rw [if_neg z, if_neg z]
    rw [if_neg z, if_neg z] at hj
    exact hj
/-- a list made item by item, nothing changed -/
theorem lcO_pure {it : IM} {s s1 : DS} {ps : List PV} (g : PV → Option PV) (hit : it s = .ok ps s1) (h : ∀ p ∈ ps, ∃ e1 b s2, asgT tg p (wipeE vs s1.e) = some e1 ∧ tt ⟨e1, s1.t⟩ = .ok b s2 ∧ ((b = true ∧ ∃ y s3, f s2 = .ok y s3 ∧ g p = some y ∧ wipeE vs s3.e = wipeE vs s1.e ∧ s3.t = s1.t) ∨ (b = false ∧ g p = none ∧ wipeE vs s2.e = wipeE vs s1.e ∧ s2.t = s1.t)))
    (hl : ps.length ≤ sizeLine) : lcO it tg tt f vs s = .ok (.lst (ps.filterMap g), true) ⟨restE vs s1.e s1.e, s1.t⟩ := by
  obtain ⟨s', h1, h2, h3⟩ := lcL_pure (vs := vs) (tg := tg) (tt := tt) (f := f) (e0 := wipeE vs s1.e) (t0 := s1.t) g ps [] s1 h rfl rfl (by simpa using hl)
  unfold lcO
  rw [hit, bind_ok, h1, noX_ok, bind_ok, h3, restE_eq h2]
  simp
/-- every item is made: no guard -/
theorem lcO_map {it : IM} {s s1 : DS} {ps : List PV} (g : PV → PV) (hit : it s = .ok ps s1) (h : ∀ p ∈ ps, ∃ e1 s3, asgT tg p (wipeE vs s1.e) = some e1 ∧ f ⟨e1, s1.t⟩ = .ok (g p) s3 ∧ wipeE vs s3.e = wipeE vs s1.e ∧ s3.t = s1.t)
    (hl : ps.length ≤ sizeLine) : lcO it tg yesT f vs s = .ok (.lst (ps.map g), true) ⟨restE vs s1.e s1.e, s1.t⟩ := by
  rw [lcO_pure (fun p => some (g p)) hit (fun p hp => ?_) hl]
  · congr 3
    clear h hl hit
    induction ps with
    | nil => rfl
    | cons p ps ih => simp [ih]
  · obtain ⟨e1, s3, h1, h2, h3, h4⟩ := h p hp
    exact ⟨e1, true, ⟨e1, s1.t⟩, h1, rfl, .inl ⟨rfl, _, s3, h2, rfl, h3, h4⟩⟩
/-- a loop under an invariant -/
theorem forL_inv {b : SM} {Inv : Nat → DE → DT → Prop} (ps : List PV) : ∀ (n : Nat) (s : DS), (∀ i p, ps[i]? = some p → ∀ e t, Inv i e t → ∃ e1 s', asgT tg p e = some e1 ∧ (b ⟨e1, t⟩ = .ok .nx s' ∨ b ⟨e1, t⟩ = .ok .ct s') ∧ Inv (i + 1) s'.e s'.t) →
    n ≤ ps.length → Inv n s.e s.t → ∃ s', forL tg b (ps.drop n) s = .ok .nx s' ∧ Inv ps.length s'.e s'.t := by
  intro n s h hn hi
  induction k : ps.length - n generalizing n s with
  | zero =>
    have e : n = ps.length := by omega
    subst e
    rw [List.drop_length]
    exact ⟨s, rfl, hi⟩
  | succ k ih =>
    have hlt : n < ps.length := by omega
    obtain ⟨e1, s', h1, h2, h3⟩ := h n _ (List.getElem?_eq_getElem hlt) _ _ hi
    obtain ⟨s2, g1, g2⟩ := ih (n + 1) s' hlt h3 (by omega)
    refine ⟨s2, ?_, g2⟩
    rw [List.drop_eq_getElem_cons hlt]
    unfold forL
    rw [h1]
    rcases h2 with h2 | h2 <;> (simp only [h2, bind_ok]; exact g1)
/-- a loop that may leave -/
theorem forL_ret {b : SM} {Inv : Nat → DE → DT → Prop} {Q : Re Fl → Prop} (ps : List PV) : ∀ (n : Nat) (s : DS), (∀ i p, ps[i]? = some p → ∀ e t, Inv i e t → ∃ e1, asgT tg p e = some e1 ∧ ((∃ s', (b ⟨e1, t⟩ = .ok .nx s' ∨ b ⟨e1, t⟩ = .ok .ct s') ∧ Inv (i + 1) s'.e s'.t) ∨ (∃ p fr s', b ⟨e1, t⟩ = .ok (.rt p fr) s' ∧ Q (.ok (.rt p fr) s')) ∨ ∃ s', b ⟨e1, t⟩ = .ok .bk s' ∧ Q (.ok .nx s'))) →
    (∀ e t, Inv ps.length e t → Q (.ok .nx ⟨e, t⟩)) → n ≤ ps.length → Inv n s.e s.t → Q (forL tg b (ps.drop n) s) := by
  intro n s h hq hn hi
  induction k : ps.length - n generalizing n s with
  | zero =>
    have e : n = ps.length := by omega
    subst e
    rw [List.drop_length]
    exact hq _ _ hi
  | succ k ih =>
    have hlt : n < ps.length := by omega
    obtain ⟨e1, h1, h2⟩ := h n _ (List.getElem?_eq_getElem hlt) _ _ hi
    rw [List.drop_eq_getElem_cons hlt]
    unfold forL
    rw [h1]
    rcases h2 with ⟨s', h2, h3⟩ | ⟨p, fr, s', h2, h3⟩ | ⟨s', h2, h3⟩
    · rcases h2 with h2 | h2 <;> (simp only [h2, bind_ok]; exact ih (n + 1) s' hlt h3 (by omega))
    · simp only [h2, bind_ok]; exact h3
    · simp only [h2, bind_ok]; exact h3
/-- a while loop by a measure -/
theorem while_inv {tt : TM} {b : SM} {Inv : Nat → DE → DT → Prop} {Q : Re Fl → Prop} : ∀ (m n : Nat) (s : DS), m < n → (∀ m e t, Inv m e t → ∃ c s1, tt ⟨e, t⟩ = .ok c s1 ∧ ((c = false ∧ Q (.ok .nx s1)) ∨ (c = true ∧ ((∃ s2 m', (b s1 = .ok .nx s2 ∨ b s1 = .ok .ct s2) ∧ m' < m ∧ Inv m' s2.e s2.t) ∨ (∃ p fr s2, b s1 = .ok (.rt p fr) s2 ∧ Q (.ok (.rt p fr) s2)) ∨ ∃ s2, b s1 = .ok .bk s2 ∧ Q (.ok .nx s2))))) →
    Inv m s.e s.t → Q (whileN tt b n s) := by
  intro m
  induction m using Nat.strongRecOn with
  | ind m ih =>
    intro n s hn h hi
    cases n with
    | zero => omega
    | succ n =>
      obtain ⟨c, s1, h1, h2⟩ := h m _ _ hi
      unfold whileN
      have h1 : tt s = .ok c s1 := h1
      rw [h1]
      rcases h2 with ⟨rfl, h2⟩ | ⟨rfl, h2⟩
      · simp only [bind_ok]; rw [if_neg (by decide)]; exact h2
      · simp only [bind_ok, if_true]
        rcases h2 with ⟨s2, m', h2, h3, h4⟩ | ⟨p, fr, s2, h2, h3⟩ | ⟨s2, h2, h3⟩
        · rcases h2 with h2 | h2 <;> (simp only [h2, bind_ok]; exact ih m' h3 n s2 (by omega) h h4)
        · simp only [h2, bind_ok]; exact h3
        · simp only [h2, bind_ok]; exact h3
end
end DR
namespace DR
theorem mul_modL {x y k : Int} (h : 0 < k) (h2 : k < 18446744073709551616) : mulO (.int (x % k)) (.int y) = some (.int (x % k * y), false) :=
  mulI_l ⟨by have := Int.emod_nonneg x (show k ≠ 0 by omega); omega, by have := Int.emod_lt_of_pos x h; omega⟩
theorem pow_ok {i j : Int} (h : 0 ≤ j) (h1 : j ≤ 1000000) (h2 : i.natAbs < 2 ^ 64) : powI (.int i) (.int j) = some (.int (i ^ j.toNat)) := by simp [powI, ii, h, h1, h2]
theorem atI_nat {ps : List PV} {n : Nat} {p : PV} (h : ps[n]? = some p) : L2.atI ps (n : Int) = some p := by
  have hn : n < ps.length := (List.getElem?_eq_some_iff.mp h).1
  have hp : ps[n] = p := by
    rw [List.getElem?_eq_getElem hn] at h
    exact Option.some.inj h
  unfold L2.atI L2.ixN
  simp [hn, hp]
theorem atI_of {ps : List PV} {i : Int} (h0 : 0 ≤ i) (h : i < ps.length) : L2.atI ps i = ps[i.toNat]? := by
  unfold L2.atI L2.ixN
  simp [h0, h]
theorem ixN_of {n : Nat} {i : Int} (h0 : 0 ≤ i) (h : i < n) : L2.ixN n i = some i.toNat := by
  unfold L2.ixN
  simp [h0, h]
theorem atI_int {ps : List PV} {i : Int} {p : PV} (h0 : 0 ≤ i) (h : ps[i.toNat]? = some p) : L2.atI ps i = some p := by
  have := atI_nat h
  rwa [Int.toNat_of_nonneg h0] at this
/-- the hand that a law draws from -/
def HandP (cells : List PV) (a b c d : Int) : PV := .lst [.lst cells, .int a, .int b, .int c, .int d]
def HandOk (h : PV) : Prop := ∃ (xs : List Int) (a b c d : Int), (∀ x ∈ xs, 0 ≤ x) ∧ 0 ≤ a ∧ 0 ≤ b ∧ h = HandP (xs.map .int) a b c d
end DR
/-! DR: each form at a state, in steps that a rewriter takes from the left. -/
namespace DR
open PySem L2
section
variable {α β : Type} {u v : SM} {g h : OM} {f f2 f3 : EM} {fa ga : AM} {fl gl : LM} {t1 t2 : TM} {s : DS} {i j k : Nat} {p q r : PV} {b fr : Bool} {ps qs : List PV} {e : DE} {t t' : DT} {tg : Tg} {it : IM} {G : P2} {B : B2} {U : G1} {O : O1} {sem : SemF} {n : Nat} {x y : Int}
def kSeq (v : SM) (fl : Fl) (s : DS) : Re Fl := match fl with
  | .nx => v s
  | o => .ok o s
theorem seqS_ap : seqS u v s = (u s).bind (kSeq v) := (rfl)
theorem kSeq_nx : kSeq v .nx s = v s := (rfl)
theorem kSeq_rt : kSeq v (.rt p fr) s = .ok (.rt p fr) s := (rfl)
theorem kSeq_bk : kSeq v .bk s = .ok .bk s := (rfl)
theorem kSeq_ct : kSeq v .ct s = .ok .ct s := (rfl)
def kRet (p : PV × Bool) (s : DS) : Re Fl := .ok (.rt p.1 p.2) s
theorem retS_ap : retS g s = (g s).bind kRet := (rfl)
theorem kRet_ap : kRet (p, fr) s = .ok (.rt p fr) s := (rfl)
theorem retN_ap : retN s = .ok (.rt .non false) s := (rfl)
def kNx {α : Type} (_ : α) (s : DS) : Re Fl := .ok .nx s
theorem exprS_ap : exprS f s = (f s).bind kNx := (rfl)
theorem kNx_ap {a : α} : kNx a s = .ok .nx s := (rfl)
def kIf {α : Type} (u v : DS → Re α) (b : Bool) (s : DS) : Re α := if b = true then u s else v s
theorem ifS_ap : ifS t1 u v s = (t1 s).bind (kIf u v) := (rfl)
theorem ifE_ap : ifE t1 f f2 s = (t1 s).bind (kIf f f2) := (rfl)
theorem ifO_ap : ifO t1 g h s = (t1 s).bind (kIf g h) := (rfl)
theorem kIf_t {u v : DS → Re α} : kIf u v true s = u s := (rfl)
theorem kIf_f {u v : DS → Re α} : kIf u v false s = v s := (rfl)
theorem badS_ap : badS s = .bad := (rfl)
theorem nextS_ap : nextS s = .ok .nx s := (rfl)
def kSet (i : Nat) (p : PV × Bool) (s : DS) : Re Fl := .ok .nx ⟨s.e.set i (putSl p), s.t⟩
theorem setS_ap : setS i g s = (g s).bind (kSet i) := (rfl)
theorem kSet_v : kSet i (p, false) ⟨e, t⟩ = .ok .nx ⟨e.set i (.val p), t⟩ := (rfl)
theorem kSet_o : kSet i (p, true) ⟨e, t⟩ = .ok .nx ⟨e.set i (.own p), t⟩ := (rfl)
def kCell (i : Nat) (p : PV × Bool) (s : DS) : Re Fl := if p.2 = true then .ok .nx ⟨s.e.set i (.val (.cell s.t.length)), s.t ++ [p.1]⟩ else .bad
theorem cellS_ap : cellS i g s = (g s).bind (kCell i) := (rfl)
theorem kCell_ap : kCell i (p, true) ⟨e, t⟩ = .ok .nx ⟨e.set i (.val (.cell t.length)), t ++ [p]⟩ := (rfl)
def kPar (is : List Nat) (ps : List (PV × Bool)) (s : DS) : Re Fl := if ps.length = is.length then .ok .nx ⟨putL is ps s.e, s.t⟩ else .bad
theorem parS_ap {is : List Nat} : parS is fl s = (fl s).bind (kPar is) := (rfl)
theorem kPar_2 {a b : PV × Bool} : kPar [i, j] [a, b] ⟨e, t⟩ = .ok .nx ⟨(e.set i (putSl a)).set j (putSl b), t⟩ := (rfl)
theorem kPar_3 {a b c : PV × Bool} : kPar [i, j, k] [a, b, c] ⟨e, t⟩ = .ok .nx ⟨((e.set i (putSl a)).set j (putSl b)).set k (putSl c), t⟩ := (rfl)
theorem kPar_4 {a b c d : PV × Bool} : kPar [i, j, k, n] [a, b, c, d] ⟨e, t⟩ = .ok .nx ⟨(((e.set i (putSl a)).set j (putSl b)).set k (putSl c)).set n (putSl d), t⟩ := (rfl)
theorem putSl_v : putSl (p, false) = .val p := (rfl)
theorem putSl_o : putSl (p, true) = .own p := (rfl)
def kAsg2 (o : Option DE) (t : DT) : Re Fl := match o with
  | some e => .ok .nx ⟨e, t⟩
  | none => .bad
def kAsg (tg : Tg) (p : PV) (s : DS) : Re Fl := kAsg2 (asgT tg p s.e) s.t
theorem asgS_ap : asgS tg f s = (f s).bind (kAsg tg) := (rfl)
theorem kAsg_ap : kAsg tg p ⟨e, t⟩ = kAsg2 (asgT tg p e) t := (rfl)
theorem kAsg2_ap : kAsg2 (some e) t = .ok .nx ⟨e, t⟩ := (rfl)
theorem asgT_nm : asgT (.nm i) p e = some (e.set i (.val p)) := (rfl)
theorem asgT_tp {ts : List Tg} : asgT (.tp ts) (.tup b ps) e = asgTs ts ps e := (rfl)
theorem asgTs_nil : asgTs [] [] e = some e := (rfl)
theorem asgTs_nm {ts : List Tg} : asgTs (.nm i :: ts) (p :: ps) e = asgTs ts ps (e.set i (.val p)) := (rfl)
def kAug2 (i : Nat) (o : Option PV) (s : DS) : Re Fl := match o with
  | some r => .ok .nx ⟨s.e.set i (.val r), s.t⟩
  | none => .bad
def kAug1 (i : Nat) (G : P2) (p q : PV) (s : DS) : Re Fl := kAug2 i (G p q) s
def kAug (i : Nat) (G : P2) (f : EM) (o : Option Sl) (s : DS) : Re Fl := match o with
  | some (.val p) => (f s).bind (kAug1 i G p)
  | _ => .bad
theorem augS_ap : augS i G f s = kAug i G f s.e[i]? s := by
  unfold augS kAug
  cases s.e[i]? with
  | none => rfl
  | some sl => cases sl <;> rfl
theorem kAug_ap : kAug i G f (some (.val p)) s = (f s).bind (kAug1 i G p) := (rfl)
theorem kAug1_ap : kAug1 i G p q s = kAug2 i (G p q) s := (rfl)
theorem kAug2_ap : kAug2 i (some r) ⟨e, t⟩ = .ok .nx ⟨e.set i (.val r), t⟩ := (rfl)
/-! names -/
def kNm (i : Nat) (o : Option Sl) (s : DS) : Re PV := match o with
  | some (.val p) => .ok p s
  | some (.own p) => .ok p ⟨s.e.set i (.val p), s.t⟩
  | _ => .bad
theorem nameE_ap : nameE i s = kNm i s.e[i]? s := (rfl)
theorem kNm_v : kNm i (some (.val p)) s = .ok p s := (rfl)
theorem kNm_o : kNm i (some (.own p)) ⟨e, t⟩ = .ok p ⟨e.set i (.val p), t⟩ := (rfl)
def kNd (o : Option PV) (s : DS) : Re PV := match o with
  | some p => .ok p s
  | none => .bad
def kNc (p : PV) (s : DS) : Re PV := match p with
  | .cell k => kNd s.t[k]? s
  | p => .ok p s
def kNb (o : Option Sl) (s : DS) : Re PV := match o with
  | some (.val p) => kNc p s
  | some (.own p) => .ok p s
  | _ => .bad
theorem nameB_ap : nameB i s = kNb s.e[i]? s := by
  unfold nameB kNb
  cases s.e[i]? with
  | none => rfl
  | some sl =>
    cases sl with
    | no => rfl
    | own p => rfl
    | val p => cases p <;> rfl
theorem kNb_o : kNb (some (.own p)) s = .ok p s := (rfl)
theorem kNb_v : kNb (some (.val p)) s = kNc p s := (rfl)
theorem kNc_cell : kNc (.cell k) ⟨e, t⟩ = kNd t[k]? ⟨e, t⟩ := (rfl)
theorem kNd_ap : kNd (some p) s = .ok p s := (rfl)
theorem kNc_int : kNc (.int x) s = .ok (.int x) s := (rfl)
theorem kNc_bl : kNc (.bl b) s = .ok (.bl b) s := (rfl)
theorem kNc_non : kNc .non s = .ok .non s := (rfl)
theorem kNc_str {z : Str} : kNc (.str z) s = .ok (.str z) s := (rfl)
theorem kNc_tup : kNc (.tup b ps) s = .ok (.tup b ps) s := (rfl)
theorem kNc_lst : kNc (.lst ps) s = .ok (.lst ps) s := (rfl)
theorem kNc_scr : kNc (.scr ps) s = .ok (.scr ps) s := (rfl)
theorem kNc_dK {l : List (Key × PV)} : kNc (.dK l) s = .ok (.dK l) s := (rfl)
theorem kNc_dT {l : List (List Key × PV)} : kNc (.dT l) s = .ok (.dT l) s := (rfl)
theorem kNc_ins {c : Addr} {l : List (Str × PV)} : kNc (.ins c l) s = .ok (.ins c l) s := (rfl)
/-! changes -/
def kMo (i : Nat) (o : Option (PV × PV)) (s : DS) : Re PV := match o with
  | some (p, r) => .ok r ⟨s.e.set i (.own p), s.t⟩
  | none => .bad
def kMd (k : Nat) (o : Option (PV × PV)) (s : DS) : Re PV := match o with
  | some (p, r) => .ok r ⟨s.e, s.t.set k p⟩
  | none => .bad
def kMc (k : Nat) (F : PV → Option (PV × PV)) (o : Option PV) (s : DS) : Re PV := match o with
  | some p => kMd k (F p) s
  | none => .bad
def kMod (i : Nat) (F : PV → Option (PV × PV)) (o : Option Sl) (s : DS) : Re PV := match o with
  | some (.own p) => kMo i (F p) s
  | some (.val (.cell k)) => kMc k F s.t[k]? s
  | _ => .bad
theorem modB_ap {F : PV → Option (PV × PV)} : modB i F s = kMod i F s.e[i]? s := by
  unfold modB kMod
  cases s.e[i]? with
  | none => rfl
  | some sl =>
    cases sl with
    | no => rfl
    | own p => first
      | (simp only [kMo]; done)
      | (simp only [kMo]; cases F p <;> rfl)
    | val p =>
      cases p <;> rfl
theorem kMod_o {F : PV → Option (PV × PV)} : kMod i F (some (.own p)) s = kMo i (F p) s := (rfl)
theorem kMod_c {F : PV → Option (PV × PV)} : kMod i F (some (.val (.cell k))) ⟨e, t⟩ = kMc k F t[k]? ⟨e, t⟩ := (rfl)
theorem kMc_ap {F : PV → Option (PV × PV)} : kMc k F (some p) s = kMd k (F p) s := (rfl)
theorem kMo_ap : kMo i (some (p, r)) ⟨e, t⟩ = .ok r ⟨e.set i (.own p), t⟩ := (rfl)
theorem kMd_ap : kMd k (some (p, r)) ⟨e, t⟩ = .ok r ⟨e, t.set k p⟩ := (rfl)
def kAp2 (i : Nat) (q : PV) (s : DS) : Re PV := modB i (appU q) s
def kAp (i : Nat) (f : EM) (s : DS) (p : PV) (_ : DS) : Re PV := if tyN p = some "list" then (f s).bind (kAp2 i) else .bad
theorem appE_ap : appE i f s = (nameB i s).bind (kAp i f s) := (rfl)
theorem kAp_ap {s2 : DS} : kAp i f s (.lst ps) s2 = (f s).bind (kAp2 i) := by simp [kAp, tyN]
theorem kAp2_ap : kAp2 i q s = kMod i (appU q) s.e[i]? s := modB_ap
theorem appU_ok (hl : ps.length < sizeLine) : appU q (.lst ps) = some (.lst (ps ++ [q]), .non) := by simp [appU, hl]
def kSi3 (i : Nat) (q j : PV) (s : DS) : Re Fl := (modB i (setU j q) s).bind kNx
def kSi2 (i : Nat) (f : EM) (q : PV) (s : DS) (_ : PV) (_ : DS) : Re Fl := (f s).bind (kSi3 i q)
def kSi (i : Nat) (f : EM) (q : PV) (s : DS) : Re Fl := (nameB i s).bind (kSi2 i f q s)
theorem setIxS_ap : setIxS i f f2 s = (f s).bind (kSi i f2) := (rfl)
theorem kSi_ap : kSi i f q s = (nameB i s).bind (kSi2 i f q s) := (rfl)
theorem kSi2_ap {s2 : DS} : kSi2 i f q s p s2 = (f s).bind (kSi3 i q) := (rfl)
theorem kSi3_ap : kSi3 i q p s = (kMod i (setU p q) s.e[i]? s).bind kNx := by unfold kSi3; rw [modB_ap]
theorem setU_lst (h0 : 0 ≤ x) (hx : x.toNat < ps.length) : setU (.int x) q (.lst ps) = some (.lst (ps.set x.toNat q), .non) := by
  show (L2.ixN ps.length x).map _ = _
  rw [ixN_of h0 (by omega)]
  rfl
def kAx4 (i : Nat) (j : PV) (o : Option PV) (s : DS) : Re Fl := match o with
  | some r => kSi3 i r j s
  | none => .bad
def kAx3 (i : Nat) (c : P2) (j old q : PV) (s : DS) : Re Fl := kAx4 i j (c old q) s
def kAx2 (i : Nat) (c : P2) (f : EM) (j : PV) (o : Option PV) (s : DS) : Re Fl := match o with
  | some old => (f s).bind (kAx3 i c j old)
  | none => .bad
def kAx1b (i : Nat) (c : P2) (f : EM) (j : PV) (s : DS) (p : PV) (_ : DS) : Re Fl := kAx2 i c f j (lixG p j) s
def kAx1 (i : Nat) (c : P2) (f : EM) (j : PV) (s : DS) : Re Fl := (nameB i s).bind (kAx1b i c f j s)
def kAx (i : Nat) (c : P2) (g f : EM) (s : DS) (_ : PV) (_ : DS) : Re Fl := (g s).bind (kAx1 i c f)
theorem augIxS_ap {c : P2} : augIxS i c f f2 s = (nameB i s).bind (kAx i c f f2 s) := by
  unfold augIxS kAx
  cases nameB i s with
  | ok p s1 =>
    simp only [bind_ok]
    cases f s with
    | ok j s2 =>
      simp only [bind_ok, kAx1]
      cases nameB i s2 with
      | ok p s3 =>
        simp only [bind_ok, kAx1b, kAx2]
        cases lixG p j with
        | none => rfl
        | some old =>
          simp only
          cases f2 s2 with
          | ok q s4 =>
            simp only [bind_ok, kAx3, kAx4, kSi3]
            cases c old q with
            | none => rfl
            | some r => rfl
          | exc _ _ => rfl
          | bad => rfl
      | exc _ _ => rfl
      | bad => rfl
    | exc _ _ => rfl
    | bad => rfl
  | exc _ _ => rfl
  | bad => rfl
theorem kAx_ap {c : P2} {s2 : DS} : kAx i c f f2 s p s2 = (f s).bind (kAx1 i c f2) := (rfl)
theorem kAx1_ap {c : P2} : kAx1 i c f q s = (nameB i s).bind (kAx1b i c f q s) := (rfl)
theorem kAx1b_ap {c : P2} {s2 : DS} : kAx1b i c f q s p s2 = kAx2 i c f q (lixG p q) s := (rfl)
theorem kAx2_ap {c : P2} : kAx2 i c f q (some p) s = (f s).bind (kAx3 i c q p) := (rfl)
theorem kAx3_ap {c : P2} : kAx3 i c r p q s = kAx4 i r (c p q) s := (rfl)
theorem kAx4_ap : kAx4 i q (some r) s = kSi3 i r q s := (rfl)
theorem lixG_ok (h0 : 0 ≤ x) (hx : x.toNat < ps.length) : lixG (.lst ps) (.int x) = ps[x.toNat]? := atI_of h0 (by omega)
/-! expressions -/
def kSh (p : PV) (s : DS) : Re (PV × Bool) := .ok (p, false) s
theorem sharedE_ap : sharedE f s = (f s).bind kSh := (rfl)
theorem kSh_ap : kSh p s = .ok (p, false) s := (rfl)
def kPl (p : PV × Bool) (s : DS) : Re PV := .ok p.1 s
theorem plainE_ap : plainE g s = (g s).bind kPl := (rfl)
theorem kPl_ap : kPl (p, fr) s = .ok p s := (rfl)
theorem constE_ap : constE p s = .ok p s := (rfl)
theorem nilA_ap : nilA s = .ok [] s := (rfl)
def kCo2 {α : Type} (p : α) (ps : List α) (s : DS) : Re (List α) := .ok (p :: ps) s
def kCo {α : Type} (g : DS → Re (List α)) (p : α) (s : DS) : Re (List α) := (g s).bind (kCo2 p)
theorem consA_ap : consA f fa s = (f s).bind (kCo fa) := (rfl)
theorem kCo_ap {g : DS → Re (List α)} {a : α} : kCo g a s = (g s).bind (kCo2 a) := (rfl)
theorem kCo2_ap {a : α} {as : List α} : kCo2 a as s = .ok (a :: as) s := (rfl)
theorem nilL_ap : nilL s = .ok [] s := (rfl)
theorem consL_ap : consL g fl s = (g s).bind (kCo fl) := (rfl)
def kTu (ps : List PV) (s : DS) : Re PV := if lineOk ps.length then .ok (.tup false ps) s else .bad
def kLs (ps : List PV) (s : DS) : Re (PV × Bool) := if lineOk ps.length then .ok (.lst ps, true) s else .bad
theorem tupE_ap : tupE fa s = (fa s).bind kTu := (rfl)
theorem lstE_ap : lstE fa s = (fa s).bind kLs := (rfl)
theorem lineOk_le (hn : n ≤ 100) : lineOk n = true := by
  unfold lineOk
  have : 100 ≤ sizeLine := by decide
  exact decide_eq_true (by omega)
theorem kTu_ap (hn : ps.length ≤ 100) : kTu ps s = .ok (.tup false ps) s := by unfold kTu; rw [if_pos (lineOk_le hn)]
theorem kLs_ap (hn : ps.length ≤ 100) : kLs ps s = .ok (.lst ps, true) s := by unfold kLs; rw [if_pos (lineOk_le hn)]
def kOp {α : Type} (o : Option α) (s : DS) : Re α := match o with
  | some r => .ok r s
  | none => .bad
theorem kOp_ap {a : α} : kOp (some a) s = .ok a s := (rfl)
theorem kOp_no : kOp (none : Option α) s = .bad := (rfl)
def kBi2 (B : B2) (p q : PV) (s : DS) : Re (PV × Bool) := kOp (B p q) s
def kBi (B : B2) (f : EM) (p : PV) (s : DS) : Re (PV × Bool) := (f s).bind (kBi2 B p)
theorem binO_ap : binO B f f2 s = (f s).bind (kBi B f2) := by
  unfold binO
  congr 1
  funext p s1
  unfold kBi
  congr 1
  funext q s2
  unfold kBi2
  cases B p q <;> rfl
theorem kBi_ap : kBi B f p s = (f s).bind (kBi2 B p) := (rfl)
theorem kBi2_ap : kBi2 B p q s = kOp (B p q) s := (rfl)
def kBe2 (G : P2) (p q : PV) (s : DS) : Re PV := kOp (G p q) s
def kBe (G : P2) (f : EM) (p : PV) (s : DS) : Re PV := (f s).bind (kBe2 G p)
theorem binE_ap : binE G f f2 s = (f s).bind (kBe G f2) := by
  unfold binE plainE binO
  cases f s with
  | ok p s1 =>
    simp only [bind_ok, kBe]
    cases f2 s1 with
    | ok q s2 =>
      simp only [bind_ok, p2, kBe2]
      cases G p q <;> rfl
    | exc _ _ => rfl
    | bad => rfl
  | exc _ _ => rfl
  | bad => rfl
theorem kBe_ap : kBe G f p s = (f s).bind (kBe2 G p) := (rfl)
theorem kBe2_ap : kBe2 G p q s = kOp (G p q) s := (rfl)
def kCh4 (G : P2) (p q : PV) (s : DS) : Re PV := kOp (G p q) s
def kCh3 (G : P2) (f : EM) (q : PV) (o : Option PV) (s : DS) : Re PV := match o with
  | some (.bl true) => (f s).bind (kCh4 G q)
  | some (.bl false) => .ok (.bl false) s
  | _ => .bad
def kCh2 (G G' : P2) (f : EM) (p q : PV) (s : DS) : Re PV := kCh3 G' f q (G p q) s
def kCh (G G' : P2) (f f2 : EM) (p : PV) (s : DS) : Re PV := (f s).bind (kCh2 G G' f2 p)
theorem chainE_ap {G' : P2} : chainE G G' f f2 f3 s = (f s).bind (kCh G G' f2 f3) := by
  unfold chainE
  congr 1
  funext p s1
  unfold kCh
  congr 1
  funext q s2
  unfold kCh2 kCh3
  cases G p q with
  | none => rfl
  | some z =>
    cases z <;> try rfl
    rename_i b
    cases b with
    | false => rfl
    | true =>
      simp only
      congr 1
      funext r s3
      unfold kCh4
      cases G' q r <;> rfl
theorem kCh_ap {G' : P2} : kCh G G' f f2 p s = (f s).bind (kCh2 G G' f2 p) := (rfl)
theorem kCh2_ap {G' : P2} : kCh2 G G' f p q s = kCh3 G' f q (G p q) s := (rfl)
theorem kCh3_t : kCh3 G f q (some (.bl true)) s = (f s).bind (kCh4 G q) := (rfl)
theorem kCh3_f : kCh3 G f q (some (.bl false)) s = .ok (.bl false) s := (rfl)
theorem kCh4_ap : kCh4 G p q s = kOp (G p q) s := (rfl)
theorem testE_ap : testE f s = (f s).bind toB := (rfl)
theorem toB_ap : toB (.bl b) s = .ok b s := (rfl)
def kAnd (f : EM) (p : PV) (s : DS) : Re PV := match p with
  | .bl true => f s
  | .bl false => .ok (.bl false) s
  | _ => .bad
def kOr (f : EM) (p : PV) (s : DS) : Re PV := match p with
  | .bl true => .ok (.bl true) s
  | .bl false => f s
  | _ => .bad
def kNot (p : PV) (s : DS) : Re PV := match p with
  | .bl b => .ok (.bl (!b)) s
  | _ => .bad
theorem andE_ap : andE f f2 s = (f s).bind (kAnd f2) := (rfl)
theorem orE_ap : orE f f2 s = (f s).bind (kOr f2) := (rfl)
theorem notE_ap : notE f s = (f s).bind kNot := (rfl)
theorem kAnd_t : kAnd f (.bl true) s = f s := (rfl)
theorem kAnd_f : kAnd f (.bl false) s = .ok (.bl false) s := (rfl)
theorem kOr_t : kOr f (.bl true) s = .ok (.bl true) s := (rfl)
theorem kOr_f : kOr f (.bl false) s = f s := (rfl)
theorem kNot_ap : kNot (.bl b) s = .ok (.bl (!b)) s := (rfl)
def kAndT (t : TM) (b : Bool) (s : DS) : Re Bool := if b = true then t s else .ok false s
def kOrT (t : TM) (b : Bool) (s : DS) : Re Bool := if b = true then .ok true s else t s
def kNotT (b : Bool) (s : DS) : Re Bool := .ok (!b) s
theorem andT_ap : andT t1 t2 s = (t1 s).bind (kAndT t2) := (rfl)
theorem orT_ap : orT t1 t2 s = (t1 s).bind (kOrT t2) := (rfl)
theorem notT_ap : notT t1 s = (t1 s).bind kNotT := (rfl)
theorem kAndT_t : kAndT t1 true s = t1 s := (rfl)
theorem kAndT_f : kAndT t1 false s = .ok false s := (rfl)
theorem kOrT_t : kOrT t1 true s = .ok true s := (rfl)
theorem kOrT_f : kOrT t1 false s = t1 s := (rfl)
theorem kNotT_ap : kNotT b s = .ok (!b) s := (rfl)
def kNeg (p : PV) (s : DS) : Re PV := match p with
  | .int i => .ok (.int (-i)) s
  | _ => .bad
theorem negE_ap : negE f s = (f s).bind kNeg := (rfl)
theorem kNeg_ap : kNeg (.int x) s = .ok (.int (-x)) s := (rfl)
/-! calls -/
def kFr (r : FR) (s : DS) : Re (PV × Bool) := match r with
  | .ok p fr t' => .ok (p, fr) ⟨s.e, t'⟩
  | .exc x t' => .exc x ⟨s.e, t'⟩
  | .bad => .bad
def kCall (sem : SemF) (ps : List PV) (s : DS) : Re (PV × Bool) := kFr (sem ps s.t) s
theorem callO_ap : callO sem fa s = (fa s).bind (kCall sem) := by
  unfold callO
  cases fa s <;> rfl
theorem kCall_ap : kCall sem ps ⟨e, t⟩ = kFr (sem ps t) ⟨e, t⟩ := (rfl)
theorem kFr_ap : kFr (.ok p fr t') ⟨e, t⟩ = .ok (p, fr) ⟨e, t'⟩ := (rfl)
theorem kFr_exc {z : Exn} : kFr (.exc z t') ⟨e, t⟩ = .exc z ⟨e, t'⟩ := (rfl)
def kUn (O : O1) (p : PV) (s : DS) : Re (PV × Bool) := kOp (O p) s
def kUe (U : G1) (p : PV) (s : DS) : Re PV := kOp (U p) s
theorem un1O_ap : un1O O f s = (f s).bind (kUn O) := by
  unfold un1O
  congr 1
  funext p s1
  unfold kUn
  cases O p <;> rfl
theorem kUn_ap : kUn O p s = kOp (O p) s := (rfl)
theorem un1E_ap : un1E U f s = (f s).bind (kUe U) := by
  unfold un1E plainE un1O
  cases f s with
  | ok p s1 =>
    simp only [bind_ok, g1, kUe]
    cases U p <;> rfl
  | exc _ _ => rfl
  | bad => rfl
theorem kUe_ap : kUe U p s = kOp (U p) s := (rfl)
theorem lenG_lst : lenG (.lst ps) = some (.int ps.length) := (rfl)
theorem lenG_tup : lenG (.tup b ps) = some (.int ps.length) := (rfl)
theorem lenG_scr : lenG (.scr ps) = some (.int ps.length) := (rfl)
theorem tupG_lst : tupG (.lst ps) = some (.tup false ps) := (rfl)
theorem tupG_tup : tupG (.tup b ps) = some (.tup b ps) := (rfl)
theorem listG_lst : listG (.lst ps) = some (.lst ps, true) := (rfl)
theorem listG_tup : listG (.tup b ps) = some (.lst ps, true) := (rfl)
theorem intG_int : intG (.int x) = some (.int x) := (rfl)
theorem intG_bl : intG (.bl b) = some (.int (if b then 1 else 0)) := (rfl)
theorem absG_int : absG (.int x) = some (.int (if x < 0 then -x else x)) := (rfl)
/-! items, slices -/
def kIx3 (q p : PV) (s : DS) : Re PV := kOp (ixG p q) s
def kIx2 (i : Nat) (q : PV) (s : DS) : Re PV := (nameB i s).bind (kIx3 q)
def kIx (i : Nat) (f : EM) (s : DS) (_ : PV) (_ : DS) : Re PV := (f s).bind (kIx2 i)
theorem ixN_ap : ixN i f s = (nameB i s).bind (kIx i f s) := by
  unfold ixN
  congr 1
  funext p s1
  unfold kIx
  congr 1
  funext q s2
  unfold kIx2
  congr 1
  funext r s3
  unfold kIx3
  cases ixG r q <;> rfl
theorem kIx_ap {s2 : DS} : kIx i f s p s2 = (f s).bind (kIx2 i) := (rfl)
theorem kIx2_ap : kIx2 i q s = (nameB i s).bind (kIx3 q) := (rfl)
theorem kIx3_ap : kIx3 q p s = kOp (ixG p q) s := (rfl)
def kIe2 (p q : PV) (s : DS) : Re PV := kOp (ixG p q) s
def kIe (f : EM) (p : PV) (s : DS) : Re PV := (f s).bind (kIe2 p)
theorem ixE_ap : ixE f f2 s = (f s).bind (kIe f2) := by
  unfold ixE
  congr 1
  funext p s1
  unfold kIe
  congr 1
  funext q s2
  unfold kIe2
  cases ixG p q <;> rfl
theorem kIe_ap : kIe f p s = (f s).bind (kIe2 p) := (rfl)
theorem kIe2_ap : kIe2 p q s = kOp (ixG p q) s := (rfl)
theorem ixG_lst (h0 : 0 ≤ x) (hx : x.toNat < ps.length) : ixG (.lst ps) (.int x) = ps[x.toNat]? := atI_of h0 (by omega)
theorem ixG_tup (h0 : 0 ≤ x) (hx : x.toNat < ps.length) : ixG (.tup b ps) (.int x) = ps[x.toNat]? := atI_of h0 (by omega)
theorem ixG_scr (h0 : 0 ≤ x) (hx : x.toNat < ps.length) : ixG (.scr ps) (.int x) = ps[x.toNat]? := atI_of h0 (by omega)
theorem noQ_ap : noQ s = .ok none s := (rfl)
def kSq (p : PV) (s : DS) : Re (Option Int) := match p with
  | .int i => .ok (some i) s
  | _ => .bad
theorem someQ_ap : someQ f s = (f s).bind kSq := (rfl)
theorem kSq_ap : kSq (.int x) s = .ok (some x) s := (rfl)
def kCt3 (p : PV) (lo hi : Option Int) (s : DS) : Re (PV × Bool) := kOp (cutG p lo hi) s
def kCt2 (u : QM) (p : PV) (lo : Option Int) (s : DS) : Re (PV × Bool) := (u s).bind (kCt3 p lo)
def kCt (l u : QM) (p : PV) (s : DS) : Re (PV × Bool) := (l s).bind (kCt2 u p)
theorem cutO_ap {l u : QM} : cutO f l u s = (f s).bind (kCt l u) := by
  unfold cutO
  congr 1
  funext p s1
  unfold kCt
  congr 1
  funext lo s2
  unfold kCt2
  congr 1
  funext hi s3
  unfold kCt3
  cases cutG p lo hi <;> rfl
theorem kCt_ap {l u : QM} : kCt l u p s = (l s).bind (kCt2 u p) := (rfl)
theorem kCt2_ap {u : QM} {lo : Option Int} : kCt2 u p lo s = (u s).bind (kCt3 p lo) := (rfl)
theorem kCt3_ap {lo hi : Option Int} : kCt3 p lo hi s = kOp (cutG p lo hi) s := (rfl)
def kCn4 (lo hi : Option Int) (p : PV) (s : DS) : Re (PV × Bool) := kOp (cutG p lo hi) s
def kCn3 (i : Nat) (lo hi : Option Int) (s : DS) : Re (PV × Bool) := (nameB i s).bind (kCn4 lo hi)
def kCn2 (i : Nat) (u : QM) (lo : Option Int) (s : DS) : Re (PV × Bool) := (u s).bind (kCn3 i lo)
def kCn (i : Nat) (l u : QM) (s : DS) (_ : PV) (_ : DS) : Re (PV × Bool) := (l s).bind (kCn2 i u)
theorem cutN_ap {l u : QM} : cutN i l u s = (nameB i s).bind (kCn i l u s) := by
  unfold cutN
  congr 1
  funext p s1
  unfold kCn
  congr 1
  funext lo s2
  unfold kCn2
  congr 1
  funext hi s3
  unfold kCn3
  congr 1
  funext q s4
  unfold kCn4
  cases cutG q lo hi <;> rfl
theorem kCn_ap {l u : QM} {s2 : DS} : kCn i l u s p s2 = (l s).bind (kCn2 i u) := (rfl)
theorem kCn2_ap {u : QM} {lo : Option Int} : kCn2 i u lo s = (u s).bind (kCn3 i lo) := (rfl)
theorem kCn3_ap {lo hi : Option Int} : kCn3 i lo hi s = (nameB i s).bind (kCn4 lo hi) := (rfl)
theorem kCn4_ap {lo hi : Option Int} : kCn4 lo hi p s = kOp (cutG p lo hi) s := (rfl)
theorem newK_ap : newK s = .ok (.dK [], true) s := (rfl)
theorem newT_ap : newT s = .ok (.dT [], true) s := (rfl)
/-! what is walked -/
theorem seqI_ap : seqI f s = (f s).bind seqP := (rfl)
theorem seqP_lst : seqP (.lst ps) s = .ok ps s := (rfl)
theorem seqP_tup : seqP (.tup b ps) s = .ok ps s := (rfl)
theorem seqP_scr : seqP (.scr ps) s = .ok ps s := (rfl)
def kR1 (p : PV) (s : DS) : Re (List PV) := match p with
  | .int j => if big62 j then .ok (rangeP 0 j.toNat) s else .bad
  | _ => .bad
theorem range1I_ap : range1I f s = (f s).bind kR1 := (rfl)
theorem big62_ok (h0 : -1000000000 ≤ x) (h1 : x ≤ 1000000000) : big62 x = true := decide_eq_true (by omega)
theorem kR1_ap (h0 : -1000000000 ≤ x) (h1 : x ≤ 1000000000) : kR1 (.int x) s = .ok (rangeP 0 x.toNat) s := by
  show (if big62 x then _ else _) = _
  rw [if_pos (big62_ok h0 h1)]
def kR2b (p q : PV) (s : DS) : Re (List PV) := match p, q with
  | .int i, .int j => if big62 i && big62 j then .ok (rangeP i (j - i).toNat) s else .bad
  | _, _ => .bad
def kR2 (f : EM) (p : PV) (s : DS) : Re (List PV) := (f s).bind (kR2b p)
theorem range2I_ap : range2I f f2 s = (f s).bind (kR2 f2) := (rfl)
theorem kR2_ap : kR2 f p s = (f s).bind (kR2b p) := (rfl)
theorem kR2b_ap (h0 : -1000000000 ≤ x) (h1 : x ≤ 1000000000) (g0 : -1000000000 ≤ y) (g1 : y ≤ 1000000000) : kR2b (.int x) (.int y) s = .ok (rangeP x (y - x).toNat) s := by
  show (if big62 x && big62 y then _ else _) = _
  rw [big62_ok h0 h1, big62_ok g0 g1]
  rfl
theorem forS_ap {bd : SM} : forS it tg bd s = (it s).bind (forL tg bd) := (rfl)
def kBody (r : Re Fl) : FR := match r with
  | .ok (.rt p fr) s => .ok p fr s.t
  | .ok .nx s => .ok .non false s.t
  | .ok .bk _ => .bad
  | .ok .ct _ => .bad
  | .exc x s => .exc x s.t
  | .bad => .bad
theorem bodyF_ap : bodyF n u ps t = kBody (u ⟨frameE n ps, t⟩) := (rfl)
theorem kBody_rt : kBody (.ok (.rt p fr) ⟨e, t⟩) = .ok p fr t := (rfl)
theorem kBody_nx : kBody (.ok .nx ⟨e, t⟩) = .ok .non false t := (rfl)
theorem kBody_exc {z : Exn} : kBody (.exc z ⟨e, t⟩) = .exc z t := (rfl)
theorem yesT_ap : yesT s = .ok true s := (rfl)
theorem ix0 {a : α} {l : List α} : (a :: l)[0]? = some a := (rfl)
theorem ix1 {a : α} {l : List α} {n : Nat} : (a :: l)[n + 1]? = l[n]? := (rfl)
theorem allG_ok {bs : List Bool} : allG (.lst (bs.map .bl)) = some (.bl (bs.all id)) := by
  have h : bools (bs.map PV.bl) = some bs := by
    induction bs with
    | nil => rfl
    | cons a l ih => simp [bools, ih]
  simp [allG, h]
theorem anyG_ok {bs : List Bool} : anyG (.lst (bs.map .bl)) = some (.bl (bs.any id)) := by
  have h : bools (bs.map PV.bl) = some bs := by
    induction bs with
    | nil => rfl
    | cons a l ih => simp [bools, ih]
  simp [anyG, h]
theorem intsP_ok {xs : List Int} : intsP (xs.map .int) = some xs := by
  induction xs with
  | nil => rfl
  | cons a l ih => simp [intsP, ih]
theorem sumG_ok {xs : List Int} : sumG (.lst (xs.map .int)) = some (.int xs.sum) := by simp [sumG, intsP_ok]
theorem maxG_ok {xs : List Int} {m : Int} (hm : maxL xs = some m) : maxG (.lst (xs.map .int)) = some (.int m) := by simp [maxG, intsP_ok, hm]
theorem minG_ok {xs : List Int} {m : Int} (hm : minL xs = some m) : minG (.lst (xs.map .int)) = some (.int m) := by simp [minG, intsP_ok, hm]
/-! loops, turn by turn -/
def kFor2 (tg : Tg) (bd : SM) (ps : List PV) (fl : Fl) (s : DS) : Re Fl := match fl with
  | .nx => forL tg bd ps s
  | .ct => forL tg bd ps s
  | .bk => .ok .nx s
  | .rt p fr => .ok (.rt p fr) s
def kFor (tg : Tg) (bd : SM) (ps : List PV) (o : Option DE) (t : DT) : Re Fl := match o with
  | some e => (bd ⟨e, t⟩).bind (kFor2 tg bd ps)
  | none => .bad
theorem forL_nil {bd : SM} : forL tg bd [] s = .ok .nx s := (rfl)
theorem forL_ap {bd : SM} : forL tg bd (p :: ps) ⟨e, t⟩ = kFor tg bd ps (asgT tg p e) t := by
  unfold kFor
  show (match asgT tg p e with
    | none => _
    | some e' => _) = _
  cases asgT tg p e <;> rfl
theorem kFor_ap {bd : SM} : kFor tg bd ps (some e) t = (bd ⟨e, t⟩).bind (kFor2 tg bd ps) := (rfl)
theorem kFor2_nx {bd : SM} : kFor2 tg bd ps .nx s = forL tg bd ps s := (rfl)
theorem kFor2_ct {bd : SM} : kFor2 tg bd ps .ct s = forL tg bd ps s := (rfl)
theorem kFor2_bk {bd : SM} : kFor2 tg bd ps .bk s = .ok .nx s := (rfl)
theorem kFor2_rt {bd : SM} : kFor2 tg bd ps (.rt p fr) s = .ok (.rt p fr) s := (rfl)
theorem lenA_lst : lenA (.lst ps) = some (.int ps.length) := (rfl)
theorem lenA_tup : lenA (.tup b ps) = some (.int ps.length) := (rfl)
theorem lenA_scr : lenA (.scr ps) = some (.int ps.length) := (rfl)
theorem lenA_dK {l : List (Key × PV)} : lenA (.dK l) = some (.int l.length) := (rfl)
theorem lenA_dT {l : List (List Key × PV)} : lenA (.dT l) = some (.int l.length) := (rfl)
theorem maxA_lst {xs : List Int} {m : Int} (hm : maxL xs = some m) : maxA (.lst (xs.map .int)) = some (.int m) := by simp [maxA, maxG, intsP_ok, hm]
theorem minA_lst {xs : List Int} {m : Int} (hm : minL xs = some m) : minA (.lst (xs.map .int)) = some (.int m) := by simp [minA, minG, intsP_ok, hm]
theorem maxA_tup {xs : List Int} {m : Int} (hm : maxL xs = some m) : maxA (.tup b (xs.map .int)) = some (.int m) := by simp [maxA, maxG, maxTG, intsP_ok, hm]
theorem minA_tup {xs : List Int} {m : Int} (hm : minL xs = some m) : minA (.tup b (xs.map .int)) = some (.int m) := by simp [minA, minG, minTG, intsP_ok, hm]
end
end DR
/-! DR: comprehensions of two clauses, reckoned; ranges; rows of ints. -/
namespace DR
open PySem
section
variable {vs vs1 : List Nat} {tg tg1 : Tg} {tt1 : TM} {f : EM} {it it1 : IM}
theorem wipeE_eq_of {e e' : DE} (hsub : ∀ i ∈ vs1, i ∈ vs) (h : wipeE vs1 e = wipeE vs1 e') : wipeE vs e = wipeE vs e' := by
  rw [← wipeE_in e hsub, ← wipeE_in e' hsub, h]
theorem lc2L_pure {e0 : DE} {t0 : DT} (Q : PV → List PV) (g : PV → PV → Option PV) (hsub : ∀ i ∈ vs1, i ∈ vs) : ∀ (ps acc : List PV) (s : DS),
    (∀ p ∈ ps, ∃ e1 s2, asgT tg p e0 = some e1 ∧ it1 ⟨e1, t0⟩ = .ok (Q p) s2 ∧ s2.t = t0 ∧ wipeE vs s2.e = e0 ∧ ∀ q ∈ Q p, ∃ e3 b s4, asgT tg1 q (wipeE vs1 s2.e) = some e3 ∧ tt1 ⟨e3, t0⟩ = .ok b s4 ∧ ((b = true ∧ ∃ y s5, f s4 = .ok y s5 ∧ g p q = some y ∧ wipeE vs1 s5.e = wipeE vs1 s2.e ∧ s5.t = t0) ∨ (b = false ∧ g p q = none ∧ wipeE vs1 s4.e = wipeE vs1 s2.e ∧ s4.t = t0))) →
    wipeE vs s.e = e0 → s.t = t0 → acc.length + (ps.flatMap Q).length ≤ sizeLine →
    ∃ s', lc2L tg yesT it1 tg1 tt1 f vs vs1 ps acc s = .ok (acc ++ ps.flatMap fun p => (Q p).filterMap (g p)) s' ∧ wipeE vs s'.e = e0 ∧ s'.t = t0
  | [], acc, s, h, i, it, hl => ⟨s, by simp [lc2L], i, it⟩
  | p :: ps, acc, s, h, i, it, hl => by
    obtain ⟨e1, s2, h1, h2, h3, h4, h5⟩ := h p List.mem_cons_self
    simp only [List.flatMap_cons, List.length_append] at hl
    obtain ⟨s6, k1, k2, k3⟩ := lcL_pure (vs := vs1) (tg := tg1) (tt := tt1) (f := f) (e0 := wipeE vs1 s2.e) (t0 := t0) (g p) (Q p) acc s2 h5 rfl h3 (by omega)
    have hw : wipeE vs s6.e = e0 := (wipeE_eq_of hsub k2).trans h4
    have hlen : ((Q p).filterMap (g p)).length ≤ (Q p).length := List.length_filterMap_le _ _
    obtain ⟨s7, m1, m2, m3⟩ := lc2L_pure Q g hsub ps (acc ++ (Q p).filterMap (g p)) s6 (fun q hq => h q (List.mem_cons_of_mem _ hq)) hw k3 (by simp only [List.length_append]; omega)
    refine ⟨s7, ?_, m2, m3⟩
    rw [lc2L_cons, i, h1]
    simp only [yesT_ap, bind_ok, if_true, it, h2, k1, m1, List.flatMap_cons, List.append_assoc]
theorem lc2O_pure {s s1 : DS} {ps : List PV} (Q : PV → List PV) (g : PV → PV → Option PV) (hsub : ∀ i ∈ vs1, i ∈ vs) (hit : it s = .ok ps s1)
    (h : ∀ p ∈ ps, ∃ e1 s2, asgT tg p (wipeE vs s1.e) = some e1 ∧ it1 ⟨e1, s1.t⟩ = .ok (Q p) s2 ∧ s2.t = s1.t ∧ wipeE vs s2.e = wipeE vs s1.e ∧ ∀ q ∈ Q p, ∃ e3 b s4, asgT tg1 q (wipeE vs1 s2.e) = some e3 ∧ tt1 ⟨e3, s1.t⟩ = .ok b s4 ∧ ((b = true ∧ ∃ y s5, f s4 = .ok y s5 ∧ g p q = some y ∧ wipeE vs1 s5.e = wipeE vs1 s2.e ∧ s5.t = s1.t) ∨ (b = false ∧ g p q = none ∧ wipeE vs1 s4.e = wipeE vs1 s2.e ∧ s4.t = s1.t)))
    (hl : (ps.flatMap Q).length ≤ sizeLine) : lc2O it tg yesT it1 tg1 tt1 f vs vs1 s = .ok (.lst (ps.flatMap fun p => (Q p).filterMap (g p)), true) ⟨restE vs s1.e s1.e, s1.t⟩ := by
  obtain ⟨s', h1, h2, h3⟩ := lc2L_pure (it1 := it1) (tg := tg) (tg1 := tg1) (tt1 := tt1) (f := f) (e0 := wipeE vs s1.e) (t0 := s1.t) Q g hsub ps [] s1 h rfl rfl (by simpa using hl)
  unfold lc2O
  rw [hit, bind_ok, h1, noX_ok, bind_ok, h3, restE_eq h2]
  simp
end
/-! ### nothing changed at all -/
mutual
theorem asgT_wipe {vs : List Nat} : ∀ (tg : Tg) (p : PV) (e e1 : DE), tgIn tg vs = true → asgT tg p e = some e1 → wipeE vs e1 = wipeE vs e
  | .nm i, p, e, e1, h, z => by
    simp only [asgT, Option.some.injEq] at z
    subst z
    have h : i ∈ vs := of_decide_eq_true h
    refine List.ext_getElem? fun j => ?_
    rw [wipeE_get, wipeE_get]
    by_cases hj : j ∈ vs
    · rw [if_pos hj, if_pos hj]
      by_cases hij : i = j
      · subst hij
        by_cases hl : i < e.length
        · rw [List.getElem?_set_self hl, List.getElem?_eq_getElem hl]
          rfl
        · rw [List.getElem?_eq_none (by rw [List.length_set]; omega), List.getElem?_eq_none (by omega)]
      · rw [List.getElem?_set_ne hij]
    · rw [if_neg hj, if_neg hj, List.getElem?_set_ne (show i ≠ j from fun z => hj (by rw [← z]; exact h))]
  | .tp ts, p, e, e1, h, z => by
    cases p with
    | tup c ps => exact asgTs_wipe ts ps e e1 h (by simpa [asgT] using z)
    | _ => simp [asgT] at z
theorem asgTs_wipe {vs : List Nat} : ∀ (ts : List Tg) (ps : List PV) (e e1 : DE), tgsIn ts vs = true → asgTs ts ps e = some e1 → wipeE vs e1 = wipeE vs e
  | [], ps, e, e1, h, z => by
    cases ps with
    | nil => simp only [asgTs, Option.some.injEq] at z; rw [z]
    | cons a b => simp [asgTs] at z
  | t :: ts, ps, e, e1, h, z => by
    cases ps with
    | nil => simp [asgTs] at z
    | cons a b =>
      simp only [asgTs] at z
      simp only [tgsIn, Bool.and_eq_true] at h
      cases e2 : asgT t a e with
      | none => rw [e2] at z; cases z
      | some e3 =>
        rw [e2] at z
        exact (asgTs_wipe ts b e3 e1 h.2 z).trans (asgT_wipe t a e e3 h.1 e2)
end
section
variable {vs vs1 : List Nat} {tg tg1 : Tg} {tt tt1 : TM} {f : EM} {it it1 : IM} {s s1 : DS} {ps : List PV}
theorem lcO_map0 (g : PV → PV) (hit : it s = .ok ps s1) (h : ∀ p ∈ ps, ∃ e1, asgT tg p (wipeE vs s1.e) = some e1 ∧ f ⟨e1, s1.t⟩ = .ok (g p) ⟨e1, s1.t⟩) (hl : ps.length ≤ sizeLine) (hin : tgIn tg vs = true := by rfl) :
    lcO it tg yesT f vs s = .ok (.lst (ps.map g), true) ⟨restE vs s1.e s1.e, s1.t⟩ :=
  lcO_map g hit (fun p hp => by
    obtain ⟨e1, h1, h2⟩ := h p hp
    exact ⟨e1, _, h1, h2, (asgT_wipe tg p _ _ hin h1).trans (wipeE_in _ fun _ z => z), rfl⟩) hl
theorem lcO_flt0 (c : PV → Bool) (g : PV → PV) (hit : it s = .ok ps s1) (h : ∀ p ∈ ps, ∃ e1, asgT tg p (wipeE vs s1.e) = some e1 ∧ tt ⟨e1, s1.t⟩ = .ok (c p) ⟨e1, s1.t⟩ ∧ (c p = true → f ⟨e1, s1.t⟩ = .ok (g p) ⟨e1, s1.t⟩)) (hl : ps.length ≤ sizeLine) (hin : tgIn tg vs = true := by rfl) :
    lcO it tg tt f vs s = .ok (.lst ((ps.filter c).map g), true) ⟨restE vs s1.e s1.e, s1.t⟩ := by
  rw [lcO_pure (fun p => if c p = true then some (g p) else none) hit (fun p hp => ?_) hl]
  · congr 3
    clear h hl hit
    induction ps with
    | nil => rfl
    | cons p ps ih => by_cases hc : c p = true <;> simp [hc, ih]
  · obtain ⟨e1, h1, h2, h3⟩ := h p hp
    have hw := (asgT_wipe tg p _ _ hin h1).trans (wipeE_in _ fun _ z => z)
    by_cases hc : c p = true
    · exact ⟨e1, true, ⟨e1, s1.t⟩, h1, by rw [h2, hc], .inl ⟨rfl, g p, _, h3 hc, by rw [if_pos hc], hw, rfl⟩⟩
    · exact ⟨e1, false, ⟨e1, s1.t⟩, h1, by rw [h2, Bool.eq_false_iff.mpr hc], .inr ⟨rfl, by rw [if_neg hc], hw, rfl⟩⟩
theorem lc2O_0 (Q : PV → List PV) (c : PV → PV → Bool) (g : PV → PV → PV) (hit : it s = .ok ps s1)
    (h : ∀ p ∈ ps, ∃ e1, asgT tg p (wipeE vs s1.e) = some e1 ∧ it1 ⟨e1, s1.t⟩ = .ok (Q p) ⟨e1, s1.t⟩ ∧ ∀ q ∈ Q p, ∃ e3, asgT tg1 q (wipeE vs1 e1) = some e3 ∧ tt1 ⟨e3, s1.t⟩ = .ok (c p q) ⟨e3, s1.t⟩ ∧ (c p q = true → f ⟨e3, s1.t⟩ = .ok (g p q) ⟨e3, s1.t⟩))
    (hl : (ps.flatMap Q).length ≤ sizeLine) (hin : tgIn tg vs = true := by rfl) (hin1 : tgIn tg1 vs1 = true := by rfl) (hsub : ∀ i ∈ vs1, i ∈ vs := by decide) :
    lc2O it tg yesT it1 tg1 tt1 f vs vs1 s = .ok (.lst (ps.flatMap fun p => ((Q p).filter (c p)).map (g p)), true) ⟨restE vs s1.e s1.e, s1.t⟩ := by
  rw [lc2O_pure Q (fun p q => if c p q = true then some (g p q) else none) hsub hit (fun p hp => ?_) hl]
  · have e : ∀ p, (Q p).filterMap (fun q => if c p q = true then some (g p q) else none) = ((Q p).filter (c p)).map (g p) := fun p => by
      induction Q p with
      | nil => rfl
      | cons q qs ih => by_cases hc : c p q = true <;> simp [hc, ih]
    simp only [e]
  · obtain ⟨e1, h1, h2, h3⟩ := h p hp
    have hw := (asgT_wipe tg p _ _ hin h1).trans (wipeE_in _ fun _ z => z)
    refine ⟨e1, _, h1, h2, rfl, hw, fun q hq => ?_⟩
    obtain ⟨e3, k1, k2, k3⟩ := h3 q hq
    have hw3 := (asgT_wipe tg1 q _ _ hin1 k1).trans (wipeE_in _ fun _ z => z)
    by_cases hc : c p q = true
    · exact ⟨e3, true, ⟨e3, s1.t⟩, k1, by rw [k2, hc], .inl ⟨rfl, g p q, _, k3 hc, by rw [if_pos hc], hw3, rfl⟩⟩
    · exact ⟨e3, false, ⟨e3, s1.t⟩, k1, by rw [k2, Bool.eq_false_iff.mpr hc], .inr ⟨rfl, by rw [if_neg hc], hw3, rfl⟩⟩
end
theorem pow_10_18 : powI (.int 10) (.int 18) = some (.int 1000000000000000000) := by
  rw [pow_ok (by decide) (by decide) (by decide)]
  rfl
theorem rangeP0 (n : Nat) : rangeP 0 n = (List.range n).map fun i : Nat => PV.int (i : Int) := by
  unfold rangeP
  congr 1
  funext i
  rw [Int.zero_add]
theorem mem_rangeP0 {n : Nat} {p : PV} (h : p ∈ rangeP 0 n) : ∃ i : Nat, i < n ∧ p = .int i := by
  rw [rangeP0] at h
  obtain ⟨i, h1, rfl⟩ := List.mem_map.mp h
  exact ⟨i, List.mem_range.mp h1, rfl⟩
theorem rangeP0_get {n i : Nat} {p : PV} (h : (rangeP 0 n)[i]? = some p) : i < n ∧ p = .int (i : Int) := by
  have h1 := (List.getElem?_eq_some_iff.mp h).1
  rw [rangeP_len] at h1
  have h2 := rangeP_get h
  rw [Int.zero_add] at h2
  exact ⟨h1, h2⟩
/-- rows of ints -/
abbrev rowP (r : List Int) : PV := .tup false (r.map .int)
abbrev shP (sh : List (List Int)) : PV := .tup false (sh.map rowP)
def at2 (sh : List (List Int)) (a b : Nat) : Int := (sh.getD a []).getD b 0
theorem ix_sh {c : Bool} {sh : List (List Int)} {a : Nat} (h : a < sh.length) : ixG (.tup c (sh.map rowP)) (.int a) = some (rowP (sh.getD a [])) := by
  show L2.atI _ _ = _
  apply atI_nat
  rw [List.getElem?_map, List.getElem?_eq_getElem h, List.getD_eq_getElem?_getD, List.getElem?_eq_getElem h]
  rfl
theorem ix_row {c : Bool} {r : List Int} {b : Nat} (h : b < r.length) : ixG (.tup c (r.map .int)) (.int b) = some (.int (r.getD b 0)) := by
  show L2.atI _ _ = _
  apply atI_nat
  rw [List.getElem?_map, List.getElem?_eq_getElem h, List.getD_eq_getElem?_getD, List.getElem?_eq_getElem h]
  rfl
theorem ix_lrow {r : List Int} {b : Nat} (h : b < r.length) : ixG (.lst (r.map .int)) (.int b) = some (.int (r.getD b 0)) := by
  show L2.atI _ _ = _
  apply atI_nat
  rw [List.getElem?_map, List.getElem?_eq_getElem h, List.getD_eq_getElem?_getD, List.getElem?_eq_getElem h]
  rfl
theorem ix_shI {c : Bool} {sh : List (List Int)} {i : Int} (h0 : 0 ≤ i) (h : i.toNat < sh.length) : ixG (.tup c (sh.map rowP)) (.int i) = some (rowP (sh.getD i.toNat [])) := by
  have := ix_sh (c := c) h
  rwa [Int.toNat_of_nonneg h0] at this
theorem ix_rowI {c : Bool} {r : List Int} {i : Int} (h0 : 0 ≤ i) (h : i.toNat < r.length) : ixG (.tup c (r.map .int)) (.int i) = some (.int (r.getD i.toNat 0)) := by
  have := ix_row (c := c) h
  rwa [Int.toNat_of_nonneg h0] at this
end DR
/-! DR: data compared; pairs of ints. -/
namespace DR
open PySem
/-- data of at most n deep -/
def dOk (n : Nat) (p : PV) : Prop := ∃ d, toD p = some d ∧ d.canLay0 = true ∧ d.depth ≤ n
def dsOk (n : Nat) (ps : List PV) : Prop := ∃ ds, toDs ps = some ds ∧ PyData.canLayAll0 ds = true ∧ PyData.depthAll ds ≤ n
theorem dOk_int (n : Nat) (i : Int) : dOk n (.int i) := ⟨.int i, rfl, by simp [PyData.canLay0], by simp [PyData.depth]⟩
theorem dOk_bl (n : Nat) (i : Bool) : dOk n (.bl i) := ⟨.bool i, rfl, by simp [PyData.canLay0], by simp [PyData.depth]⟩
theorem dOk_non (n : Nat) : dOk n .non := ⟨.none, rfl, by simp [PyData.canLay0], by simp [PyData.depth]⟩
theorem dsOk_all {n : Nat} : ∀ {ps : List PV}, (∀ p ∈ ps, dOk n p) → dsOk n ps
  | [], _ => ⟨[], rfl, by simp [PyData.canLayAll0], by simp [PyData.depthAll]⟩
  | p :: ps, h => by
    obtain ⟨d, h1, h2, h3⟩ := h p List.mem_cons_self
    obtain ⟨ds, g1, g2, g3⟩ := dsOk_all fun q hq => h q (List.mem_cons_of_mem _ hq)
    exact ⟨d :: ds, by simp [toDs, h1, g1], by simp [PyData.canLayAll0, h2, g2], by simp [PyData.depthAll]; omega⟩
theorem dOk_tup {n : Nat} {c : Bool} {ps : List PV} (h : ∀ p ∈ ps, dOk n p) : dOk (n + 1) (.tup c ps) := by
  obtain ⟨ds, h1, h2, h3⟩ := dsOk_all h
  exact ⟨.tuple ds, by simp [toD, h1], by simp [PyData.canLay0, h2], by simp [PyData.depth]; omega⟩
theorem dOk_lst {n : Nat} {ps : List PV} (h : ∀ p ∈ ps, dOk n p) : dOk (n + 1) (.lst ps) := by
  obtain ⟨ds, h1, h2, h3⟩ := dsOk_all h
  exact ⟨.list ds, by simp [toD, h1], by simp [PyData.canLay0, h2], by simp [PyData.depth]; omega⟩
theorem dOk.ok {n : Nat} {p : PV} (h : dOk n p) (hn : n ≤ 64) : okD p = true := by
  obtain ⟨d, h1, h2, h3⟩ := h
  simp [okD, h1, SeqAt.shaped, h2]
  omega
theorem eqD_self {p : PV} (h : okD p = true) : eqD p p = true := by
  obtain ⟨d, h1, h2⟩ := okD_data h
  unfold eqD
  rw [h1]
  exact PySem.SeqAt.eqv_refl d (SeqAt.canLay_of_shaped h2)
theorem eqG_self {p : PV} (n : Bool) (h : okD p = true) : eqG n p p = some (.bl (!n)) := by
  unfold eqG
  rw [h, eqD_self h]
  cases n <;> rfl
/-- pairs of ints -/
abbrev pairP (x : Int × Int) : PV := .tup false [.int x.1, .int x.2]
theorem dOk_pair {n : Nat} (x : Int × Int) : dOk (n + 1) (pairP x) := dOk_tup fun p hp => by
  simp only [List.mem_cons, List.not_mem_nil, or_false] at hp
  rcases hp with rfl | rfl <;> exact dOk_int _ _
theorem okD_pairs (l : List (Int × Int)) : okD (.lst (l.map pairP)) = true := (dOk_lst (n := 1) fun p hp => by
  obtain ⟨x, _, rfl⟩ := List.mem_map.mp hp
  exact dOk_pair x).ok (by decide)
theorem okD_pair (x : Int × Int) : okD (pairP x) = true := (dOk_pair (n := 0) x).ok (by decide)
theorem eqv_pair (x y : Int × Int) : PyData.eqv (.tuple [.int x.1, .int x.2]) (.tuple [.int y.1, .int y.2]) = decide (x = y) := by
  obtain ⟨a, b⟩ := x
  obtain ⟨c, d⟩ := y
  simp only [PyData.eqv, PyData.eqvAll, Prod.mk.injEq]
  by_cases h : a = c <;> by_cases g : b = d <;> simp [h, g]
theorem eqG_pair (n : Bool) (x y : Int × Int) : eqG n (pairP x) (pairP y) = some (.bl (n != decide (x = y))) := by
  have e : eqD (pairP x) (pairP y) = decide (x = y) := eqv_pair x y
  unfold eqG
  rw [okD_pair, okD_pair, e]
  rfl
theorem toDs_pairs : ∀ l : List (Int × Int), toDs (l.map pairP) = some (l.map fun x => PyData.tuple [.int x.1, .int x.2])
  | [] => rfl
  | x :: l => by simp [toDs, toD, toDs_pairs l]
theorem any_pair (x : Int × Int) (l : List (Int × Int)) : ((l.map fun x => PyData.tuple [.int x.1, .int x.2]).any fun z => PyData.eqv z (.tuple [.int x.1, .int x.2])) = decide (x ∈ l) := by
  induction l with
  | nil => simp
  | cons y l ih =>
    simp only [List.map_cons, List.any_cons, ih, eqv_pair, List.mem_cons]
    by_cases h : y = x
    · simp [h]
    · simp [h, Ne.symm h]
theorem memD_pairs (x : Int × Int) (l : List (Int × Int)) : memD (pairP x) (l.map pairP) = some (decide (x ∈ l)) := by
  have h1 := okD_pairs l
  have h2 := okD_pair x
  have h3 : okD (.tup false (l.map pairP)) = true := (dOk_tup (n := 1) fun p hp => by
    obtain ⟨x, _, rfl⟩ := List.mem_map.mp hp
    exact dOk_pair x).ok (by decide)
  simp only [okD, toD, toDs_pairs, Option.map_some] at h1 h2 h3
  unfold memD
  rw [toDs_pairs]
  have e : toD (pairP x) = some (.tuple [.int x.1, .int x.2]) := rfl
  rw [e]
  simp only
  rw [h1, h3, show SeqAt.shaped (.tuple [.int x.1, .int x.2]) = true from h2, any_pair]
  rfl
theorem inG_pairs (n : Bool) (x : Int × Int) (l : List (Int × Int)) : inG n (pairP x) (.lst (l.map pairP)) = some (.bl (n != decide (x ∈ l))) := by
  show (memD (pairP x) (l.map pairP)).map _ = _
  rw [memD_pairs]
  rfl
/-- largest, least -/
theorem maxL_some {xs : List Int} (h : xs ≠ []) : ∃ m, maxL xs = some m ∧ m ∈ xs ∧ ∀ y ∈ xs, y ≤ m := by
  cases xs with
  | nil => exact absurd rfl h
  | cons a l => exact ⟨_, rfl, maxL_spec rfl⟩
theorem minL_some {xs : List Int} (h : xs ≠ []) : ∃ m, minL xs = some m ∧ m ∈ xs ∧ ∀ y ∈ xs, m ≤ y := by
  cases xs with
  | nil => exact absurd rfl h
  | cons a l => exact ⟨_, rfl, minL_spec rfl⟩
theorem ix_last {c : Bool} {ps : List PV} (h : 0 < ps.length) : ixG (.tup c ps) (.int (-1)) = ps[ps.length - 1]? := by
  show L2.atI _ _ = _
  unfold L2.atI L2.ixN
  have h1 : ¬ (0 : Int) ≤ -1 := by omega
  have h2 : -(ps.length : Int) ≤ -1 := by omega
  simp only [h1, if_false, h2, if_true]
  have h3 : (-1 + (ps.length : Int)).toNat = ps.length - 1 := by omega
  rw [h3]
  rfl
theorem ix_lastL {ps : List PV} (h : 0 < ps.length) : ixG (.lst ps) (.int (-1)) = ps[ps.length - 1]? := ix_last (c := true) h
/-- the places of a board, row by row -/
def grid (h w : Nat) (P : Nat → Nat → Bool) : List (Int × Int) := (List.range h).flatMap fun a => ((List.range w).filter fun b => P a b).map fun b : Nat => ((a : Int), (b : Int))
def toI : PV → Int
  | .int i => i
  | _ => 0
theorem grid_eq (h w : Nat) (P : Nat → Nat → Bool) : ((rangeP 0 h).flatMap fun p => ((rangeP 0 w).filter fun q => P (toI p).toNat (toI q).toNat).map fun q => PV.tup false [p, q]) = (grid h w P).map pairP := by
  unfold grid
  rw [rangeP0, rangeP0, List.flatMap_map, List.map_flatMap]
  congr 1
  funext a
  rw [List.map_map, List.filter_map, List.map_map]
  simp only [toI, Int.toNat_natCast, Function.comp_def]
theorem mem_grid {h w : Nat} {P : Nat → Nat → Bool} {x : Int × Int} : x ∈ grid h w P ↔ ∃ a b : Nat, a < h ∧ b < w ∧ P a b = true ∧ x = ((a : Int), (b : Int)) := by
  unfold grid
  simp only [List.mem_flatMap, List.mem_range, List.mem_map, List.mem_filter]
  constructor
  · rintro ⟨a, ha, b, ⟨hb, hp⟩, rfl⟩
    exact ⟨a, b, ha, hb, hp, rfl⟩
  · rintro ⟨a, b, ha, hb, hp, rfl⟩
    exact ⟨a, ha, b, ⟨hb, hp⟩, rfl⟩
theorem grid_filter (h w : Nat) (P Q : Nat → Nat → Bool) : (grid h w P).filter (fun x => Q x.1.toNat x.2.toNat) = grid h w fun a b => P a b && Q a b := by
  unfold grid
  rw [List.filter_flatMap]
  congr 1
  funext a
  rw [List.filter_map, List.filter_filter]
  simp only [Function.comp_def, Int.toNat_natCast]
  congr 1
  congr 1
  funext b
  exact Bool.and_comm _ _
theorem grid_len (h w : Nat) (P : Nat → Nat → Bool) : (grid h w P).length ≤ h * w := by
  unfold grid
  rw [List.length_flatMap]
  have : ∀ n : Nat, ((List.range n).map fun a => (((List.range w).filter fun b => P a b).map fun b : Nat => ((a : Int), (b : Int))).length).sum ≤ n * w := fun n => by
    induction n with
    | zero => simp
    | succ n ih =>
      rw [List.range_succ, List.map_append, List.sum_append, Nat.succ_mul]
      have := List.length_filter_le (fun b => P n b) (List.range w)
      simp only [List.map_cons, List.map_nil, List.sum_cons, List.sum_nil, List.length_map, Nat.add_zero] at *
      rw [List.length_range] at this
      omega
  exact this h
theorem addI_ap (i j : Int) : addI (.int i) (.int j) = some (.int (i + j)) := (rfl)
end DR
/-! DR: a slot that is let go behind a statement. -/
namespace DR
open PySem PySem.Spec PyProof.Rows L2
def demSl (s : Sl) : Sl := match s with
  | .own p => .val p
  | s => s
def kDem (i : Nat) (fl : Fl) (s : DS) : Re Fl := match fl with
  | .nx => .ok .nx ⟨s.e.set i (demSl (s.e.getD i .no)), s.t⟩
  | o => .ok o s
def thenD (u : SM) (i : Nat) : SM := fun s => (u s).bind (kDem i)
theorem set_self {e : DE} {i : Nat} (h : ∀ p, e[i]? ≠ some (.own p)) : e.set i (demSl (e.getD i .no)) = e := by
  by_cases hi : i < e.length
  · rw [List.getD_eq_getElem?_getD, List.getElem?_eq_getElem hi]
    have k : demSl e[i] = e[i] := by
      cases g : e[i] with
      | own p => exact absurd (by rw [List.getElem?_eq_getElem hi, g]) (h p)
      | no => rfl
      | val p => rfl
    show e.set i (demSl e[i]) = e
    rw [k, List.set_getElem_self]
  · rw [List.set_eq_of_length_le (by omega)]
theorem ps_dem {X : Cx} {Z : WX} {st : Stmt} {f : SM} (i : Nat) (h : PSX X Z st f) : PSX X Z st (thenD f i) := by
  refine ⟨PS_imp h.ps fun D σ H ⟨W, s, R, g⟩ => ⟨W, s, R, ?_⟩⟩
  unfold thenD at g
  cases hr : f s with
  | bad => rw [hr] at g; exact g
  | exc x s1 => rw [hr] at g; exact g
  | ok fl s1 =>
    rw [hr] at g
    cases fl with
    | rt p fr => exact g
    | bk => exact g
    | ct => exact g
    | nx =>
      intro σ' W' H' st' R'
      have g : ∀ σ' W' H', Step W H W' H' → RSt X.K W' H' ⟨s1.e.set i (demSl (s1.e.getD i .no)), s1.t⟩ σ' → D.nx σ' H' := g
      by_cases ho : ∃ p, s1.e[i]? = some (.own p)
      · obtain ⟨p, ho⟩ := ho
        obtain ⟨v, W1, _, st1, R1, _⟩ := R'.demote ho
        refine g σ' W1 H' (st'.trans st1) ?_
        have e : demSl (s1.e.getD i .no) = .val p := by
          rw [List.getD_eq_getElem?_getD, ho]; rfl
        rw [e]
        exact R1
      · refine g σ' W' H' st' ?_
        rw [set_self fun p hp => ho ⟨p, hp⟩]
        exact R'
theorem thenD_ap {u : SM} {i : Nat} {s : DS} : thenD u i s = (u s).bind (kDem i) := (rfl)
theorem kDem_nx {i : Nat} {e : DE} {t : DT} : kDem i .nx ⟨e, t⟩ = .ok .nx ⟨e.set i (demSl (e.getD i .no)), t⟩ := (rfl)
theorem demSl_o {p : PV} : demSl (.own p) = .val p := (rfl)
theorem demSl_v {p : PV} : demSl (.val p) = .val p := (rfl)
theorem demSl_n : demSl .no = .no := (rfl)
end DR
set_option maxHeartbeats 4000000
/-! DR: further methods and built-in functions: extend, pop, sorted, repr. -/
namespace DR
open PySem PySem.Spec PyProof.Rows L2
section
variable {X : Cx} {Z : WX} {x : Str} {pos p1 : Pos} {e : Expr} {g : EM}
/-- x.extend(list) -/
def extU (q : PV) : PV → Option (PV × PV) := fun p => match p, q with
  | .lst ps, .lst qs => if lineOk (ps.length + qs.length) then some (.lst (ps ++ qs), .non) else none
  | _, _ => none
def extE (i : Nat) (g : EM) : EM := fun s => (nameB i s).bind fun p _ => if (tyN p = some "list") then (g s).bind fun q s2 => modB i (extU q) s2 else .bad
theorem px_ext (i : Nat) {apos cpos : Pos} (hN : X.N[i]? = some x := by rfl) (hb : PX X Z e g) (hv : Vis X.env.scope x := by first | exact Or.inl rfl | exact Or.inr (Or.inl rfl) | exact Or.inr (Or.inr rfl))
    (hd : (x == ("__debug__" : Str)) = false := by decide) (hcd : (x == ("__classdict__" : Str)) = false := by decide)
    (hbase : attributeBase (.Name x p1) "extend" X.env (eval (.Name x p1) X.env) = eval (.Name x p1) X.env := by rfl)
    (hfew : ((backTo cpos (starEach [e] X.env)).all (fun x => !x.1) && (backToKw cpos (keywordEach [] X.env)).all (fun x => x.1.isSome)
      && decide ([e].length + ([] : List Keyword).length + (if ([] : List Keyword).isEmpty then 0 else 1) < 30)) = true := by rfl)
    (hline : (apos.endLine == cpos.line) = true := by rfl) (hs : starEach [e] X.env = (false, eval e X.env) :: starEach [] X.env := by rfl) :
    PX X Z (.Call (.Attribute (.Name x p1) "extend" apos) [e] [] cpos) (extE i g) := by
  refine ⟨PE_imp (L2.pe_bm PySem.F.plainAttrs_list PySem.F.slot_list_extend PySem.F.type_list_extend mt_extend (pe_var hN hv hd hcd) (L2.pa_cons hb.pe L2.pa_nil hs) hbase hfew hline hs rfl) fun σ H Q ⟨W, s, R, h⟩ => ?_⟩
  unfold extE at h
  cases e0 : nameB i s with
  | bad => rw [e0] at h; exact h.elim
  | exc x s1 => exact (nameB_no e0).elim
  | ok p0 s0 =>
    rw [e0] at h
    simp only [Re.bind] at h
    obtain ⟨rfl, v, h1, hb0⟩ := nameB_bv R e0
    by_cases ht : tyN p0 = some "list"
    · rw [if_pos ht] at h
      obtain ⟨ps0, rfl⟩ : ∃ ps, p0 = .lst ps := by
        cases p0 <;> simp [tyN] at ht
        exact ⟨_, rfl⟩
      obtain ⟨a0, vs0, rfl, g1, g2⟩ := bv_lst hb0
      refine ⟨_, h1, .inl ⟨rfl, vs0, SqL.of g1⟩, W, s0, R, Post.bind h fun q s2 y W2 H2 _ st2 R2 ry k => ?_⟩
      cases em : modB i (extU q) s2 with
      | bad => rw [em] at k; exact k.elim
      | exc x s1 => exact (modB_no em).elim
      | ok r s3 =>
        rw [em] at k
        obtain ⟨p, p', a, u1, u2, u3, u4, u5⟩ := modB_ok R2 em
        rw [h1] at u2
        cases u2
        cases p with
        | lst ps =>
          cases q with
          | lst qs =>
            obtain ⟨vs, c1, c2⟩ := con_lst u4
            obtain ⟨b, ws, rfl, b1, b2, b3⟩ := rv_lst_inv ry
            simp only [extU] at u1
            split at u1
            · rename_i hz
              cases u1
              obtain ⟨st3, R3⟩ := u5 (.lst (vs ++ ws)) ⟨_, upd_same, rvs_upd u3 (c2.app b3)⟩
              exact ⟨a0, b, vs, ws, rfl, rfl, c1, b2, by rw [c2.len, b3.len]; exact of_decide_eq_true hz, k _ W2 _ st3 R3 rE_non⟩
            · cases u1
          | _ => simp [extU] at u1
        | _ => simp [extU] at u1
    · rw [if_neg ht] at h
      exact h.elim
/-- x.pop() -/
def popU : PV → Option (PV × PV) := fun p => match p with
  | .lst ps => (ps[ps.length - 1]?).map fun q => (.lst ps.dropLast, q)
  | _ => none
def popE (i : Nat) : EM := fun s => (nameB i s).bind fun p _ => if (tyN p = some "list") then modB i popU s else .bad
theorem Reps.dropLast {K : PySem.W.Frag} {cs : List Addr} {H : Hp} {ps : List PV} {vs : List V} (r : Reps K cs H ps vs) : Reps K cs H ps.dropLast vs.dropLast := by
  rw [List.dropLast_eq_take, List.dropLast_eq_take, r.len]
  exact r.take _
theorem px_pop (i : Nat) {apos cpos : Pos} (hN : X.N[i]? = some x := by rfl) (hv : Vis X.env.scope x := by first | exact Or.inl rfl | exact Or.inr (Or.inl rfl) | exact Or.inr (Or.inr rfl))
    (hd : (x == ("__debug__" : Str)) = false := by decide) (hcd : (x == ("__classdict__" : Str)) = false := by decide)
    (hbase : attributeBase (.Name x p1) "pop" X.env (eval (.Name x p1) X.env) = eval (.Name x p1) X.env := by rfl)
    (hline : (apos.endLine == cpos.line) = true := by rfl) : PX X Z (.Call (.Attribute (.Name x p1) "pop" apos) [] [] cpos) (popE i) := by
  refine ⟨PE_imp (L2.pe_bm0 PySem.F.plainAttrs_list PySem.F.slot_list_pop PySem.F.type_list_pop mt_pop (pe_var hN hv hd hcd) hbase hline) fun σ H Q ⟨W, s, R, h⟩ => ?_⟩
  unfold popE at h
  cases e0 : nameB i s with
  | bad => rw [e0] at h; exact h.elim
  | exc x s1 => exact (nameB_no e0).elim
  | ok p0 s0 =>
    rw [e0] at h
    simp only [Re.bind] at h
    obtain ⟨rfl, v, h1, hb0⟩ := nameB_bv R e0
    by_cases ht : tyN p0 = some "list"
    · rw [if_pos ht] at h
      obtain ⟨ps0, rfl⟩ : ∃ ps, p0 = .lst ps := by
        cases p0 <;> simp [tyN] at ht
        exact ⟨_, rfl⟩
      obtain ⟨a0, vs0, rfl, g1, g2⟩ := bv_lst hb0
      refine ⟨_, h1, .inl ⟨rfl, vs0, SqL.of g1⟩, ?_⟩
      cases em : modB i popU s0 with
      | bad => rw [em] at h; exact h.elim
      | exc x s1 => exact (modB_no em).elim
      | ok r s3 =>
        rw [em] at h
        obtain ⟨p, p', a, u1, u2, u3, u4, u5⟩ := modB_ok R em
        rw [h1] at u2
        cases u2
        cases p with
        | lst ps =>
          obtain ⟨vs, c1, c2⟩ := con_lst u4
          obtain ⟨q, q1, q2⟩ := Option.map_eq_some_iff.mp u1
          cases q2
          obtain ⟨w, w1, w2⟩ := c2.get q1
          obtain ⟨st3, R3⟩ := u5 (.lst vs.dropLast) ⟨_, upd_same, rvs_upd u3 c2.dropLast⟩
          exact ⟨a0, vs, w, rfl, rfl, c1, by rw [c2.len]; exact w1, h _ W _ st3 R3 (rv_upd u3 w2)⟩
        | _ => simp [popU] at u1
    · rw [if_neg ht] at h
      exact h.elim
/-! ### repr -/
theorem call_repr_bn : CallR X (.builtin "repr") (fun xs H Q => (∃ b, xs = [.bl b] ∧ Q (.str (if b = true then "True" else "False")) H) ∨ (xs = [.non] ∧ Q (.str "None") H)) := by
  intro pins s σ H xs us Q I r h
  rcases h with ⟨b, rfl, q⟩ | ⟨rfl, q⟩
  · obtain ⟨u, rfl, hu⟩ := vals1 r
    cases hu
    refine PySem.P.repr_of_bool ⟨.str _, H, I.tok _, ⟨_, rfl⟩, ?_⟩
    cases b <;> exact q
  · obtain ⟨u, rfl, hu⟩ := vals1 r
    cases hu
    exact PySem.P.repr_of_none ⟨.str _, H, I.tok _, ⟨_, rfl⟩, q⟩
def reprG : G1 := fun p => match p with
  | .bl b => some (.str (if b = true then "True" else "False"))
  | .non => some (.str "None")
  | _ => none
theorem u_repr : Un1 X (.builtin "repr") (g1 reprG) := Un1.plain call_repr_bn fun W H p x res Q rx e k => by
  cases p with
  | bl b =>
    cases bv_bl rx
    cases e
    exact .inl ⟨b, rfl, k _ rv_str⟩
  | non =>
    rcases rx with rx | ⟨a, _, c⟩
    · unfold RV Rep at rx
      cases rx
      cases e
      exact .inr ⟨rfl, k _ rv_str⟩
    · exact c.elim
  | _ => simp [reprG] at e
/-! ### sorted -/
/-- sorted(xs): what reads as alike data -/
def rSortedD (K : PySem.W.Frag) : List V → Hp → VK → Prop := fun vs H Q => ∃ (a : Addr) (bs : List (V × PyData)), vs = [V.ref a] ∧ SqL K H a (bs.map (·.1)) ∧ (∀ b ∈ bs, Dp K H b.1 b.2) ∧ PySem.W.AllAlike (bs.map (·.2)) ∧ PySem.W.Sortable (bs.map (·.2)) ∧ (∀ b ∈ bs, b.2.depth ≤ 62) ∧
  ∀ (p : Addr), H p = none → Q (.ref p) (upd H p (.lst ((bs.mergeSort (PySem.W.dataLe false fun b => b.2)).map (·.1))))
theorem each_vals {vs : List V} {us : List Value} {β : Type} {bs : List β} {val : β → V} (r : Vals (bs.map val) us) : PySem.W.EachIs (fun u b => RelV (val b) u) us bs := by
  induction bs generalizing us with
  | nil =>
    cases r
    exact .nil
  | cons b bs ih =>
    cases r with
    | cons h1 h2 => exact .cons h1 (ih h2)
theorem vals_each {us : List Value} {β : Type} {bs : List β} {val : β → V} (r : PySem.W.EachIs (fun u b => RelV (val b) u) us bs) : Vals (bs.map val) us := by
  induction r with
  | nil => exact .nil
  | cons h1 h2 ih => exact .cons h1 ih
theorem each_and {α β : Type} {R S : α → β → Prop} : ∀ {us : List α} {bs : List β}, PySem.W.EachIs R us bs → (∀ u b, b ∈ bs → R u b → S u b) → PySem.W.EachIs S us bs
  | _, _, .nil, _ => .nil
  | _, _, .cons h t, k => .cons (k _ _ List.mem_cons_self h) (each_and t fun u b hb => k u b (List.mem_cons_of_mem _ hb))
theorem cr_sortedD (hu : X.A.units + 65 < cLine) : CallR X (.builtin "sorted") (rSortedD X.K) := by
  intro pins s σ H vs us Q I r h
  obtain ⟨a, bs, rfl, hs, hd, hal, hk, hdep, q⟩ := h
  obtain ⟨its, rv, hl, hz⟩ := I.list hs
  rw [Vals.ref1 r]
  have hz' : bs.length ≤ sizeLine := by rw [List.length_map] at hz; exact hz
  refine PySem.W.sorted_data (R := fun u b => RelV b.1 u) (enc := fun b => b.2) hl.isList (each_vals (vs := []) rv) (each_and (each_vals (vs := []) rv) fun u b hb hr => Dp.reads I b.2 b.1 u (hd b hb) hr) hal hk hz' (fun b hb => ?_) fun out ho he => ?_
  · have := hdep b hb
    omega
  · obtain ⟨ep, he'⟩ := PyProof.Rows.sortedAll_at s.heap its out.toArray
    have hlen : ((bs.mergeSort (PySem.W.dataLe false fun b => b.2)).map (·.1)).length ≤ sizeLine := by
      rw [List.length_map, List.length_mergeSort]
      exact hz'
    exact ⟨.ref _, upd H (s.heap.objs.size + 1) (.lst ((bs.mergeSort (PySem.W.dataLe false fun b => b.2)).map (·.1))), I.laid (t' := s.toks) (fun _ _ => PyProof.Rows.sortedAll_old) (Nat.le_succ _) ⟨hlen, out, ep, vals_each he, he'⟩, rfl, q _ (I.hok.fresh (Nat.le_succ _))⟩
def datP (p : PV) : PyData := (toD p).getD .none
def leP (p q : PV) : Bool := PySem.W.dataLe false (fun p => datP p) p q
def tupD (d : PyData) : Bool := match d with
  | .tuple (_ :: _) => true
  | _ => false
def othD (d : PyData) : Bool := match d with
  | .none => false
  | .tuple _ => false
  | _ => true
def okSort (ps : List PV) : Bool := ps.all (fun p => (toD p).isSome && decide ((datP p).depth ≤ 62)) && ps.all (fun p => ps.all fun q => PySem.W.alike (datP p) (datP q)) && (ps.all (fun p => tupD (datP p)) || ps.all (fun p => othD (datP p)))
def sortG : O1 := fun p => match p with
  | .lst ps => if okSort ps then some (.lst (ps.mergeSort leP), true) else none
  | _ => none
theorem reps_zip {K : PySem.W.Frag} {cs : List Addr} {H : Hp} : ∀ {ps : List PV} {vs : List V}, Reps K cs H ps vs → ∃ bs : List (V × PV), bs.map (·.1) = vs ∧ bs.map (·.2) = ps ∧ ∀ b ∈ bs, Rep K cs H b.2 b.1
  | [], vs, r => by
    unfold Reps at r
    subst r
    exact ⟨[], rfl, rfl, fun b hb => nomatch hb⟩
  | p :: ps, vs, r => by
    unfold Reps at r
    obtain ⟨v, vs', rfl, h1, h2⟩ := r
    obtain ⟨bs, e1, e2, h⟩ := reps_zip h2
    exact ⟨(v, p) :: bs, by simp [e1], by simp [e2], fun b hb => by
      rcases List.mem_cons.mp hb with rfl | hb
      · exact h1
      · exact h b hb⟩
theorem zip_reps {K : PySem.W.Frag} {cs : List Addr} {H : Hp} : ∀ {bs : List (V × PV)}, (∀ b ∈ bs, Rep K cs H b.2 b.1) → Reps K cs H (bs.map (·.2)) (bs.map (·.1))
  | [], _ => reps_nil
  | b :: bs, h => reps_cons (h b List.mem_cons_self) (zip_reps fun b hb => h b (List.mem_cons_of_mem _ hb))
theorem u_sorted (hu : X.A.units + 65 < cLine) : Un1 X (.builtin "sorted") sortG := fun Z => by
  refine ⟨_, cr_sortedD hu, fun W H s σ p x res Q R rx e po => ?_⟩
  cases p with
  | lst ps =>
    simp only [sortG] at e
    split at e
    · rename_i hok
      cases e
      obtain ⟨a, vs, rfl, h1, h2⟩ := bv_lst rx
      obtain ⟨zs, e1, e2, h3⟩ := reps_zip h2
      subst e1
      subst e2
      unfold okSort at hok
      rw [Bool.and_eq_true, Bool.and_eq_true, Bool.or_eq_true] at hok
      obtain ⟨⟨k1, k2⟩, k3⟩ := hok
      have hD : ∀ z ∈ zs, toD z.2 = some (datP z.2) ∧ (datP z.2).depth ≤ 62 := fun z hz => by
        have := List.all_eq_true.mp k1 z.2 (List.mem_map.mpr ⟨z, hz, rfl⟩)
        rw [Bool.and_eq_true, decide_eq_true_eq] at this
        obtain ⟨d, hd⟩ := Option.isSome_iff_exists.mp this.1
        exact ⟨by unfold datP; rw [hd]; rfl, this.2⟩
      have sub : Same (W.m H) H := msk_sub _ _
      refine ⟨a, zs.map fun z => (z.1, datP z.2), rfl, ?_, ?_, ?_, ?_, ?_, fun l hl => ?_⟩
      · rw [List.map_map]
        exact SqL.of h1
      · intro b hb
        obtain ⟨z, hz, rfl⟩ := List.mem_map.mp hb
        exact rep_dp sub z.2 z.1 _ (h3 z hz) (hD z hz).1
      · intro d hd d' hd'
        rw [List.map_map] at hd hd'
        obtain ⟨z, hz, rfl⟩ := List.mem_map.mp hd
        obtain ⟨z', hz', rfl⟩ := List.mem_map.mp hd'
        exact List.all_eq_true.mp (List.all_eq_true.mp k2 z.2 (List.mem_map.mpr ⟨z, hz, rfl⟩)) z'.2 (List.mem_map.mpr ⟨z', hz', rfl⟩)
      · rw [List.map_map]
        rcases k3 with k3 | k3
        · refine .inl fun d hd => ?_
          obtain ⟨z, hz, rfl⟩ := List.mem_map.mp hd
          have := List.all_eq_true.mp k3 z.2 (List.mem_map.mpr ⟨z, hz, rfl⟩)
          show ∃ x r, datP z.2 = _
          cases hd2 : datP z.2 with
          | tuple ds =>
            cases ds with
            | nil => rw [hd2] at this; cases this
            | cons y r => exact ⟨y, r, rfl⟩
          | _ => rw [hd2] at this; cases this
        · refine .inr fun d hd => ?_
          obtain ⟨z, hz, rfl⟩ := List.mem_map.mp hd
          have := List.all_eq_true.mp k3 z.2 (List.mem_map.mpr ⟨z, hz, rfl⟩)
          show datP z.2 ≠ _ ∧ ∀ xs, datP z.2 ≠ _
          refine ⟨fun h => ?_, fun xs h => ?_⟩ <;> (rw [h] at this; cases this)
      · intro b hb
        obtain ⟨z, hz, rfl⟩ := List.mem_map.mp hb
        exact (hD z hz).2
      · have m1 : (zs.map fun z => (z.1, datP z.2)).mergeSort (PySem.W.dataLe false fun b => b.2) = (zs.mergeSort fun z z' => leP z.2 z'.2).map fun z => (z.1, datP z.2) := (List.map_mergeSort (f := fun z : V × PV => (z.1, datP z.2)) (r := fun z z' => leP z.2 z'.2) (s := PySem.W.dataLe false fun b : V × PyData => b.2) fun a _ b _ => rfl).symm
        have m2 : (zs.map (·.2)).mergeSort leP = (zs.mergeSort fun z z' => leP z.2 z'.2).map (·.2) := (List.map_mergeSort (f := fun z : V × PV => z.2) (r := fun z z' => leP z.2 z'.2) (s := leP) fun a _ b _ => rfl).symm
        rw [m2] at po
        rw [m1, List.map_map]
        refine Post.newO R hl po ⟨_, upd_same, (Step.allocO hl (R.nP hl)).rvs (zip_reps fun b hb => h3 b ?_)⟩
        exact (List.mergeSort_perm _ _).mem_iff.mp hb
    · cases e
  | _ => simp [sortG] at e
end
end DR
set_option maxHeartbeats 4000000
/-! DR: enumerate over a tuple. -/
namespace DR
open PySem PySem.Spec PyProof.Rows L2
section
theorem newB1 {v : Value} {o : Obj} {HP : Heap → Prop} (B : Begins v o HP) :
    Meets (Builtin.«enumerate.__new__» ⟨[.type "enumerate", v], []⟩) (fun _ R s => HP s.heap ∧ R (.ok (.ret (.ref (s.heap.push o).objs.size)))
      { s with heap := (s.heap.push o).push { cls := .type "enumerate", data := .fields #[.none, .bool false, .ref s.heap.objs.size, rawInt 0, .none, .none] } }) :=
  .of_wp fun prog w A R s h => by
    obtain ⟨hp, g, d, tk, os⟩ := s
    obtain ⟨h1, h⟩ := h
    have sub := sub_enumerate
    have go : ∀ {A' : Around} {E : Value → Shared → Prop} {Q : Value → Shared → Prop}, Q (.ref hp.objs.size) ⟨hp.push o, g, d, tk, os⟩ → wpAny (model prog w) A' (pyIter v) Q E ⟨hp, g, d, tk, os⟩ := fun q => B.iter prog w _ _ ⟨hp, g, d, tk, os⟩ _ h1 q
    wp_walk using go
    refine wpAny_stack_any fun st => wpAny_pure ?_
    split
    · rename_i c _ _ _ _ _
      cases (c == Value.type "enumerate") <;> (wp_walk using go; exact ⟨_, rfl, h⟩)
    · wp_walk using go; exact ⟨_, rfl, h⟩
variable {prog : Program} {w : World} {A : Around} {E : Value → Shared → Prop} {s : Shared}
theorem call_enumB {v : Value} {o : Obj} {HP : Heap → Prop} {Q : Value → Shared → Prop} (B : Begins v o HP) (h1 : HP s.heap)
    (h : ∀ h', IsEnum h' (s.heap.objs.size + 1) s.heap.objs.size 0 .none → h'.get? s.heap.objs.size = some o → h'.objs.size = s.heap.objs.size + 2 → (∀ b u, s.heap.get? b = some u → h'.get? b = some u) → Q (.ref (s.heap.objs.size + 1)) { s with heap := h' }) :
    wpAny (model prog w) A (call (.type "enumerate") [v]) Q E s := by
  refine callType_new F.called_enumerate (by decide) (F.typeCall_enumerate_1 _) (F.newCall_enumerate_1 _) (fun obj => F.args_object_init_2 obj _) F.entry_enumerate_new (newB1 B) ⟨h1, ?_⟩
  have z : (s.heap.push o).objs.size = s.heap.objs.size + 1 := Heap.size_push ..
  rw [z]
  have e : IsEnum ((s.heap.push o).push { cls := .type "enumerate", data := .fields #[.none, .bool false, .ref s.heap.objs.size, rawInt 0, .none, .none] }) (s.heap.objs.size + 1) s.heap.objs.size 0 .none := by
    have k := Heap.get?_push_size (s.heap.push o) (o := { cls := .type "enumerate", data := .fields #[.none, .bool false, .ref s.heap.objs.size, rawInt 0, .none, .none] }) rfl
    rw [z] at k; exact k
  exact ⟨⟨_, e, rfl⟩, h _ e (Heap.get?_push_of_some _ (Heap.get?_push_size _ B.free)) (by rw [Heap.size_push, z]) fun b u x => Heap.get?_push_of_some _ (Heap.get?_push_of_some _ x)⟩
end
/-- the tuple at a as it stands, the items in new pairs -/
def IteT (K : PySem.W.Frag) (a : Addr) : It :=
  ⟨fun i H => ∃ (xs : List V) (x : V), SqT K H a xs ∧ xs[i]? = some x, fun i H v H' => ∃ T x, v = .ref T ∧ H T = none ∧ H' = upd H T (.tup [.int (i : Nat), x]) ∧ ∀ xs, SqT K H a xs → xs[i]? = some x,
    fun i H => ∃ xs : List V, SqT K H a xs ∧ xs.length = i⟩
theorem turn_enumT {P : Program} {w : World} {K : PySem.W.Frag} {elts : List Expr} {kk : Nat} {tpos : Pos} (a e it : Addr) :
    Turn P w K (.Tuple elts kk tpos) (IteT K a) [e, it] e (fun i h => (∃ old, IsEnum h e it ((i : Nat) : Int) old) ∧ h.IsTupleIter it a i ∧ e ≠ it ∧ a ≠ it ∧ a ≠ e) where
  mem := by simp
  obj := fun i h st b hb => by
    obtain ⟨⟨old, he⟩, ⟨o, ho, hc, hd⟩, _⟩ := st
    rcases (show b = e ∨ b = it by simpa using hb) with z | z <;> rw [z]
    · exact ⟨_, he, fun v q => nomatch q⟩
    · exact ⟨o, ho, fun v q => by rw [hd] at q; cases q⟩
  keep := fun i h h' ⟨⟨old, he⟩, hi, hne⟩ k => ⟨⟨old, k e (by simp) _ he⟩, hi.at fun o q => k it (by simp) o q, hne⟩
  item := by
    intro X hP hw hK hc i pins s σ H E I hf ⟨⟨old, he⟩, hit, hne, hai, hae⟩ ⟨xs, x, hq, hx⟩
    subst hP hw hK
    obtain ⟨its, rv, p, hz⟩ := I.tuple hq
    obtain ⟨u, hu, ru⟩ := rv.get hx
    have hel : e < s.heap.objs.size := Heap.lt_size he
    have hil : it < s.heap.objs.size := by obtain ⟨_, q, _⟩ := hit; exact Heap.lt_size q
    have hlt : i < its.toArray.size := by
      rw [List.size_toArray]
      exact (List.getElem?_eq_some_iff.mp hu).1
    refine wpAny_pyNext_enum_itemD (Draws.tuple (A := X.A.in1) (by exact I.ok.hd hc) it a hai its.toArray) he ⟨hit, p⟩ hlt hne (by simp [hne, Ne.symm hae]) fun y h' tk hy ho hst hT hsz hk => ?_
    obtain rfl : y = u := by
      have hy : its[i]? = some y := by simpa using hy
      rw [hu] at hy
      exact (Option.some.inj hy).symm
    refine ⟨_, rfl, wpAny_letOwnedTupleGo_enum (s := { s with heap := h', toks := tk + 1 }) ho fun h'' he' sb => ?_⟩
    have hT2 : h''.get? s.heap.objs.size = some { cls := .type "tuple", data := .seq #[.int i tk, y] } := (sb.2 _ (Nat.ne_of_gt hel)).trans hT
    have new : ObjOk X.prog X.w (upd H s.heap.objs.size (.tup [.int (i : Nat), x])) h'' s.heap.objs.size (.tup [.int (i : Nat), x]) := ⟨by show 2 ≤ sizeLine; decide, [.int i tk, y], .cons ⟨_, rfl⟩ (.cons ru .nil), ⟨_, hT2, rfl, _, rfl⟩⟩
    have I1 : Inv X pins σ (upd H s.heap.objs.size (.tup [.int (i : Nat), x])) { s with heap := h'', toks := tk + 1 } :=
      I.turnedNew (ch := [e, it]) (fun b ob hb q => (sb.2 b (fun z => hb (by simp [z]))).trans (hk b ob (fun z => hb (by simp [z])) (fun z => hb (by simp [z])) q)) hf (Nat.le_refl _) new
    refine ⟨.ref s.heap.objs.size, _, I1, rfl, ⟨_, x, rfl, I.hok.fresh (Nat.le_refl _), rfl, fun ys hy => by rw [I.tuple_inj hy hq]; exact hx⟩, ⟨⟨y, ?_⟩, hst.1.at fun o q => (sb.2 it (Ne.symm hne)).trans q, hne, hai, hae⟩, fun b hb => ?_⟩
    · rw [show ((i + 1 : Nat) : Int) = (i : Int) + 1 by omega]; exact he'
    · have hb' : b < s.heap.objs.size := by
        rcases (show b = e ∨ b = it by simpa using hb) with z | z <;> rw [z]
        · exact hel
        · exact hil
      rw [upd_ne (Nat.ne_of_lt hb')]
      exact (hf b hb).1
  done := by
    intro X hP hw hK hc i pins s σ H E I hf ⟨⟨old, he⟩, hit, hne, hai, hae⟩ ⟨xs, hq, hx⟩
    subst hP hw hK
    obtain ⟨its, rv, p, hz⟩ := I.tuple hq
    obtain ⟨f0, f1, f2, f3, f4, f5⟩ := hf it (by simp)
    have hn : its.toArray.size = i := by rw [List.size_toArray, ← rv.length, hx]
    refine wpAny_pyNext_enum_endD (Draws.tuple (A := X.A.in1) (by exact I.ok.hd hc) it a hai its.toArray) he (by rw [hn]; exact ⟨hit, p⟩) fun h' eb => ⟨rfl, ?_⟩
    exact I.turned (t' := s.toks) (fun b o hb q => eb b o hb q) f0 f1 f3 f4 f5
  self := fun A i s Q E st h => let ⟨⟨_, he⟩, _⟩ := st; wpAny_pyIter_enum he h
def iEnumT (K : PySem.W.Frag) (ta : TA) : TI := fun σ H R => ta σ H fun vs H1 => ∃ a xs, vs = [.ref a] ∧ SqT K H1 a xs ∧ R (IteT K a) H1
theorem pi_enumT {X : Cx} {e : Expr} {ta : TA} {p pos tpos : Pos} {elts : List Expr} {kk : Nat} (hg : Gl X "enumerate") (hm : X.mg "enumerate" = none) (ha : PA X [e] ta) (hs : starEach [e] X.env = [(false, eval e X.env)] := by rfl) :
    PI X (.Tuple elts kk tpos) (.Call (.Name "enumerate" p) [e] [] pos) (iEnumT X.K ta) := by
  refine ⟨fun pins s σ H R I h => Call_ (ld_blt I hg hm boot_enumerate (PyProof.Rows.callWith_type1 (thn (ha.run pos pins s σ H _ I h) fun us s1 ⟨vs, H1, I1, r1, q1⟩ => ?_) hs rfl))⟩
  obtain ⟨a, xs, rfl, hq, q⟩ := q1
  obtain ⟨its, rv, p', hz⟩ := I1.tuple hq
  rw [Vals.ref1 r1]
  refine call_enumB (begins_tuple a its.toArray) p' fun h' he ho hsz hk => wpAny_pyIter_enum he ?_
  have I2 : Inv X pins σ H1 { s1 with heap := h' } := I1.kept (t' := s1.toks) hk
  have hal : a < s1.heap.objs.size := by obtain ⟨o, ho, _⟩ := p'; exact Heap.lt_size ho
  refine ⟨s1.heap.objs.size + 1, [s1.heap.objs.size + 1, s1.heap.objs.size], _, _, H1, rfl, I2, turn_enumT a (s1.heap.objs.size + 1) s1.heap.objs.size, ⟨⟨.none, he⟩, ⟨_, ho, rfl, rfl⟩, Nat.succ_ne_self _, Nat.ne_of_lt hal, Nat.ne_of_lt (Nat.lt_succ_of_lt hal)⟩, fun b hb => ?_, q⟩
  have hle : s1.heap.objs.size ≤ b := by
    rcases (show b = s1.heap.objs.size + 1 ∨ b = s1.heap.objs.size by simpa using hb) with z | z <;> rw [z]
    · exact Nat.le_add_right _ _
    · exact Nat.le_refl _
  exact I1.fpOk hle (I1.hok.fresh hle)
section
variable {K : PySem.W.Frag} {W : Wd} {H : Hp} {a : Addr} {vs : List V} {ps : List PV}
theorem goes_enumT (h : SqT K (W.m H) a vs) (r : RVs K W H ps vs) : Goes K (IteT K a) (enumP 0 ps) W H := by
  have at_ : ∀ {W1 H1}, Vw W H W1 H1 → SqT K H1 a vs := fun st => sqT_mono (msk_sub _ _) (sqT_mono st.same h)
  refine ⟨fun W1 H1 i st hi => ?_, fun W1 H1 st => ⟨vs, at_ st, by rw [enumP_len, r.len]⟩, fun W1 H1 i x H2 p s σ st hp R y => ?_⟩
  · have hi' : i < vs.length := by rw [enumP_len] at hi; rw [r.len]; exact hi
    exact ⟨vs, vs[i], at_ st, List.getElem?_eq_getElem hi'⟩
  · obtain ⟨T, z, e1, e2, e3, e4⟩ := y
    obtain ⟨q, h1, h2⟩ := enumP_get hp
    subst h2
    exact yldPair R e2 e3 e1 (by rw [Nat.zero_add]; exact rv_int) (atRep st r h1 (e4 _ (at_ st)))
end
/-- enumerate over a list or a tuple -/
def enumAI (f : EM) : IM := fun s => (f s).bind fun p s1 => match p with
  | .lst ps => .ok (enumP 0 ps) s1
  | .tup _ ps => .ok (enumP 0 ps) s1
  | _ => .bad
section
variable {X : Cx} {Z : WX} {e : Expr} {f : EM} {p pos : Pos}
theorem i_enumA {elts : List Expr} {kk : Nat} {tpos : Pos} (hg : Gl X "enumerate") (hm : X.mg "enumerate" = none) (h : PX X Z e f) (hs : starEach [e] X.env = [(false, eval e X.env)] := by rfl) : PIX X Z (.Tuple elts kk tpos) (.Call (.Name "enumerate" p) [e] [] pos) (enumAI f) := by
  have run := PI_or (L2.pi_enum (tpos := tpos) (elts := elts) (kk := kk) (p := p) (pos := pos) hg hm (pa_consX h pa_nilX hs).pa hs) (pi_enumT (tpos := tpos) (elts := elts) (kk := kk) (p := p) (pos := pos) hg hm (pa_consX h pa_nilX hs).pa hs)
  refine ⟨PI_imp run fun σ H Q ⟨W, s, R, h⟩ => ?_⟩
  unfold enumAI at h
  cases e1 : f s with
  | bad => rw [e1] at h; exact h.elim
  | exc x s1 =>
    rw [e1] at h
    exact .inl ⟨W, s, R, by unfold consA nilA; rw [e1]; exact h⟩
  | ok p s1 =>
    rw [e1] at h
    simp only [Re.bind] at h
    cases p with
    | lst ps =>
      refine .inl ⟨W, s, R, ?_⟩
      unfold consA nilA
      rw [e1]
      intro vs W1 H1 st R1 rv
      have rv : Reps X.K W1.S (W1.m H1) [.lst ps] vs := rv
      unfold Reps at rv
      obtain ⟨v, r, rfl, h1, rv⟩ := rv
      unfold Reps at rv
      subst rv
      obtain ⟨a, vs, rfl, g1, g2, g3⟩ := rv_lst_inv h1
      exact ⟨a, vs, rfl, SqL.of g2, h _ W1 H1 st R1 (goes_enum g1 g2 g3)⟩
    | tup c ps =>
      refine .inr ⟨W, s, R, ?_⟩
      unfold consA nilA
      rw [e1]
      intro vs W1 H1 st R1 rv
      have rv : Reps X.K W1.S (W1.m H1) [.tup c ps] vs := rv
      unfold Reps at rv
      obtain ⟨v, r, rfl, h1, rv⟩ := rv
      unfold Reps at rv
      subst rv
      obtain ⟨a, vs, rfl, g2, g3⟩ := rep_tup h1
      exact ⟨a, vs, rfl, sqT_mono (msk_sub _ _) g2, h _ W1 H1 st R1 (goes_enumT g2 g3)⟩
    | _ => exact h.elim
end
end DR
set_option maxHeartbeats 4000000
/-! DR: dict comprehensions, keys ints, texts, or tuples of them: the rule. -/
namespace DR
open PySem PySem.Spec PyProof.Rows L2
theorem dict_put {X : Cx} {pins : List (Addr × Obj)} {σ : L2.St} {H H' : Hp} {s : Shared} {E : Value → Shared → Prop} {D : Addr} {y v : V} {u r : Value} {Q : Unit → Shared → Prop} (hu : X.A.units + 1 < cLine) (I : Inv X pins σ H s) (g : DPut H D y v H') (ry : RelV y u) (rv : RelV v r)
    (h : ∀ s', Inv X pins σ H' s' → Q () s') : wpAny (model X.prog X.w) X.A (dictSet D u r) Q E s := by
  rcases g with ⟨kvs, k, e, ey, l, eH⟩ | ⟨kvs, k, b, e, ey, eb, l, eH⟩ <;> subst ey eH
  · exact L2.d_dictSet I e l ry rv h
  · cases (show u = Value.ref b from ry)
    obtain ⟨z, hd, xs, rel, dd⟩ := dt_of I.hok e
    have grown := length_putK kvs k v
    refine wpAny_dictSet_heap (hsz := by rw [← Paired.length rel]; exact z) (by show X.A.units < cLine; omega) (key_of I.hok eb) dd fun h' dd' hs => h _ ?_
    obtain ⟨q, es, ep, hq, h2, h3, h4, _, h5⟩ := dd'
    refine d_write I (by rw [e]; exact True.intro) hs ⟨q, hq⟩ ⟨by omega, hd, _, (rel.put k eb rv).keeps fun c ys ec => ?_, q, es, ep, hq, h2, h3, h4, h5⟩
    rw [upd_ne (ne_of ec e (fun z => nomatch z))]; exact ec
/-- {k: v for tg in it if ..}: D the new dict, at first nw -/
def tDX (nw : HO) (wi : TI) (g : TG) (tt : TT) (tk tv : TE) (vs : List Nat) : TE := fun σ H Q => wi σ H fun J H1 => ∀ D, H1 D = none → ∃ W : Nat → Nat → Hp → Prop, (∃ m, W 0 m (upd H1 D nw)) ∧ ∀ i m H, W i m H →
  (J.stop i H ∧ Q (.ref D) H) ∨ (J.go i H ∧ ∃ Nx : Hp → Prop, (∀ H', Nx H' → ∃ m', m' < m ∧ W (i + 1) m' H') ∧ ∀ x H', J.yld i H x H' → g x (wipe σ vs) H' fun σ2 H2 => wipe σ2 vs = wipe σ vs ∧ tt σ2 H2 fun b H3 =>
    if b = true then tk σ2 H3 fun y H4 => tv σ2 H4 fun z H5 => ∃ H6, DPut H5 D y z H6 ∧ Nx H6 else Nx H3)
section
variable {X : Cx}
theorem dcX {pins : List (Addr × Obj)} {s : Shared} {σ : L2.St} {H : Hp} {Q : VK} {nw : HO} (hnw : nw = .dK [] ∨ nw = .dT []) {kx vx tg iter : Expr} {ifs : List Expr} {scope : Scope} {own : List (Str × Nat)} {pos pos' : Pos} {wi : TI} {g : TG} {tt : TT} {tk tv : TE} {use : Option (Value → Sem Unit)} {Qf : Value → Shared → Prop}
    (hu : X.A.units + 1 < cLine) (hc : X.calm = true) (hN : X.N.Nodup) (I : Inv X pins σ H s) (hi : PI X tg iter wi) (ok : BlkOk X.N X.env.scope scope own) (hg : Blk X scope fun Y => PG Y tg g) (ht : Blk X scope fun Y => PTs Y ifs tt) (hk : Blk X scope fun Y => PE Y kx tk) (hv : Blk X scope fun Y => PE Y vx tv)
    (hs : ∀ x, foldedSetIterable iter X.env x = pure x) (h : tDX nw wi g tt tk tv (own.map (·.2)) σ H Q)
    (fin : ∀ D C s' m H', Inv X pins σ H' s' → Q (.ref D) H' → s'.heap.Ns C m → FpOk X pins H' C → compPost (model X.prog X.w) X.A X.xe use Qf (.ref D) C (.ok .next) s') :
    wpAny (model X.prog X.w) X.A (comprehension (.DictComp kx vx [⟨tg, iter, ifs, 0⟩] scope pos) scope X.env pos' newDict false (eval iter X.env) use) Qf X.xe s := by
  have free : ∀ y ∈ scope.names, y.2 = .free → ∃ c, X.env.cells.lookup y.1 = some c := fun y hy e => (ok.free y hy e).elim (fun k => I.ok.has _ (.inl k)) fun k => I.ok.has _ (.inr k)
  refine wpAny_comprehension_free (use := use) rfl hs (closure_ok free) ok.kind (fun y hy e => by rw [ok.uniq y hy, e]) (thn (hi.run pins s σ H _ I h) fun xv s1 hx => thn hx fun itv s2 ⟨it, fp, tn, J, H2, e, I2, T, st2, f2, q⟩ => ?_)
  subst e
  refine wpAny_newObj_type (newEnv_comp ?_)
  generalize hD : s2.heap.objs.size = D
  have Dn : H2 D = none := I2.hok.fresh (Nat.le_of_eq hD)
  obtain ⟨W, ⟨m0, w0⟩, turn⟩ := q D Dn
  generalize es3 : ({ s2 with heap := s2.heap.push { cls := .type "dict", data := .dict #[] } } : Shared) = s3
  have I3 : Inv X pins σ (upd H2 D nw) s3 := by
    rw [← es3]
    refine I2.laid (t' := s2.toks) (fun b o e => Heap.get?_push_of_some _ e) (Nat.le_of_eq hD) ?_
    rw [← hD]
    rcases hnw with z | z <;> rw [z]
    · exact dk_empty s2.heap I2.big
    · exact dt_empty s2.heap I2.big
  have h3 : s3.heap = s2.heap.push { cls := .type "dict", data := .dict #[] } := by rw [← es3]
  have lo : ∀ b ∈ fp, b < s2.heap.objs.size := fun b hb => let ⟨o, e, _⟩ := T.obj _ _ st2 b hb; Heap.lt_size e
  have f3 : ∀ b ∈ fp, FpOk X pins (upd H2 D nw) b ∧ b < s3.heap.objs.size := fun b hb => by
    have hlt := lo b hb
    refine ⟨⟨?_, (f2 b hb).2⟩, by rw [h3, Heap.size_push]; exact Nat.lt_succ_of_lt hlt⟩
    rw [upd_ne (by rw [← hD]; exact Nat.ne_of_lt hlt)]; exact (f2 b hb).1
  have st3 : tn 0 s3.heap := T.keep _ _ _ st2 fun b _ o e => by rw [h3]; exact Heap.get?_push_of_some _ e
  have I4 := block_start I3 ok hN f3
  have pg := hg s3 (upd H2 D nw) s3.heap.objs.size (cellsFrom (s3.heap.objs.size + 1) scope.names (cloFrom X.env.cells scope.names [])) fp
  have pt := ht s3 (upd H2 D nw) s3.heap.objs.size (cellsFrom (s3.heap.objs.size + 1) scope.names (cloFrom X.env.cells scope.names [])) fp
  have pk := hk s3 (upd H2 D nw) s3.heap.objs.size (cellsFrom (s3.heap.objs.size + 1) scope.names (cloFrom X.env.cells scope.names [])) fp
  have pv := hv s3 (upd H2 D nw) s3.heap.objs.size (cellsFrom (s3.heap.objs.size + 1) scope.names (cloFrom X.env.cells scope.names [])) fp
  show codeAny _ _ (.compStart (.DictComp kx vx [⟨tg, iter, ifs, 0⟩] scope pos) 0 (.ref it) (.ref D) (compEnvC scope (cellsFrom (s3.heap.objs.size + 1) scope.names (cloFrom X.env.cells scope.names [])) s3.heap.objs.size X.env)) (compPost (model X.prog X.w) X.A X.xe use Qf (.ref D) s3.heap.objs.size) { s3 with heap := pushCells (s3.heap.push { cls := .type "dict", data := .dict #[] }) scope.names }
  have nfp : ∀ b ∈ fp, (upd H2 D nw) b = none := fun b hb => (f3 b hb).1.1
  generalize ece : compEnvC scope (cellsFrom (s3.heap.objs.size + 1) scope.names (cloFrom X.env.cells scope.names [])) s3.heap.objs.size X.env = ce at I4 pg pt pk pv ⊢
  have cL : ce.locals = s3.heap.objs.size := by subst ece; rfl
  generalize upd H2 D nw = H3 at I3 I4 pg pt pk pv w0 nfp f3
  generalize es4 : ({ s3 with heap := pushCells (s3.heap.push { cls := .type "dict", data := .dict #[] }) scope.names } : Shared) = s4 at I4 ⊢
  have st4 : tn 0 s4.heap := T.keep _ _ _ st3 fun b _ o e => by rw [← es4]; exact pushCells_keeps _ _ _ _ (Heap.get?_push_of_some _ e)
  have hu' : (X.blk s3 H3 scope ce fp).A.units + 1 < cLine := hu
  have still : ∀ {σ' : L2.St} {H' : Hp} {s' : Shared}, Inv (X.blk s3 H3 scope ce fp) [] σ' H' s' → (∀ b ∈ fp, H' b = none) → ∀ b ∈ fp, FpOk (X.blk s3 H3 scope ce fp) [] H' b := fun {σ' H' s'} I' hn b hb =>
    ⟨hn b hb, (I'.ok.exf b hb).1, I'.ok.exfs b hb, .inl hb, fun x c e => (I'.ok.exf b hb).2 x c e, fun p hp => absurd (show p ∈ ([] : List (Addr × Obj)) ++ [] from hp) (by simp)⟩
  refine codeAny_compStart_dict ?lp (T.self X.A 0 _ _ _ st4 ?lp)
  refine compLoop_anyD (fun n s' => ∃ i H', Inv (X.blk s3 H3 scope ce fp) [] (wipe σ (own.map (·.2))) H' s' ∧ tn i s'.heap ∧ (∀ b ∈ fp, H' b = none) ∧ W i n H') ?_ m0 ⟨0, H3, I4, st4, nfp, w0⟩
  rintro n s5 ⟨i, H5, I5, st5, n5, w5⟩
  rcases turn i n H5 w5 with ⟨stop, qq⟩ | ⟨go, Nx, hNx, step⟩
  · refine thnF (T.done (X.blk s3 H3 scope ce fp) rfl rfl rfl hc i [] s5 _ H5 (fun _ _ => False) I5 (still I5 n5) st5 stop) fun r s6 ⟨hr, I6⟩ => ?_
    subst hr
    have I7 : Inv X pins σ H5 s6 := I3.call' (ch := fp) I6.os I6.base I6.hok I6.bare fun b hb => ⟨(f3 b hb).1.2.2.2.1, (f3 b hb).1.2.1, (f3 b hb).1.2.2.2.2.1, (f3 b hb).1.2.2.2.2.2⟩
    have nC : H5 s3.heap.objs.size = none := cL ▸ (show H5 ce.locals = none from I6.free)
    obtain ⟨m, hn, _⟩ := I6.loc
    have hn : s6.heap.Ns ce.locals m := hn
    exact fin D s3.heap.objs.size s6 m H5 I7 qq (cL ▸ hn) (I3.fpOk (Nat.le_refl _) nC)
  · refine thnF (T.item (X.blk s3 H3 scope ce fp) rfl rfl rfl hc i [] s5 _ H5 (fun _ _ => False) I5 (still I5 n5) st5 go) fun r s6 ⟨u, hr, h6⟩ => ?_
    subst hr
    refine thnF h6 fun _ s7 ⟨x, H7, I7, r7, y7, st7, n7⟩ => ?_
    have I7' := I7.pinned (still I7 n7) (T.obj _ _ st7)
    refine thnF (pg.run _ s7 _ H7 x u _ I7' r7 (step x H7 y7)) fun _ s8 ⟨σ8, H8, I8, hw8, q8⟩ => ?_
    refine thnF (pt.run _ s8 σ8 H8 _ I8 q8) fun b s9 ⟨H9, I9, q9⟩ => ?_
    have close : ∀ {s' : Shared} {H' : Hp}, Inv (X.blk s3 H3 scope ce fp) ([] ++ pinsAt fp s7.heap) σ8 H' s' → Nx H' → ∃ m, m < n ∧ ∃ i H', Inv (X.blk s3 H3 scope ce fp) [] (wipe σ (own.map (·.2))) H' s' ∧ tn i s'.heap ∧ (∀ b ∈ fp, H' b = none) ∧ W i m H' := fun {s' H'} I' nx => by
      obtain ⟨m', hm, w'⟩ := hNx H' nx
      have pin : ∀ b ∈ fp, ∀ o, s7.heap.get? b = some o → s'.heap.get? b = some o ∧ H' b = none := fun b hb o e =>
        let z := I'.pin (b, o) (List.mem_append_right _ (List.mem_append_right _ (mem_pinsAt hb e))); ⟨z.1, z.2.1⟩
      have hl : (wipe σ (own.map (·.2))).length = σ8.length := by rw [← hw8, wipe_length]
      refine ⟨m', hm, i + 1, H', (I'.unpinned (pins := [])).weak hl (fun j v e => (wipe_some (by rw [← hw8] at e; exact e)).1), T.keep _ _ _ st7 fun b hb o e => (pin b hb o e).1, fun b hb => ?_, w'⟩
      obtain ⟨o, e, _⟩ := T.obj _ _ st7 b hb
      exact (pin b hb o e).2
    cases b with
    | false =>
      simp only [Bool.false_eq_true, if_false] at q9 ⊢
      exact close I9 q9
    | true =>
      simp only [if_true] at q9 ⊢
      refine thnF (pk.run _ s9 σ8 H9 _ I9 q9) fun z s10 ⟨yk, H10, I10, r10, q10⟩ => ?_
      refine thnF (pv.run _ s10 σ8 H10 _ I10 q10) fun z2 s11 ⟨yv, H11, I11, r11, H12, put, nx⟩ => ?_
      exact dict_put (X := X.blk s3 H3 scope ce fp) hu' I11 put r10 r11 fun s12 I12 => close I12 nx
theorem pe_dX {nw : HO} (hnw : nw = .dK [] ∨ nw = .dT []) {kx vx tg iter : Expr} {ifs : List Expr} {scope : Scope} {own : List (Str × Nat)} {pos : Pos} {wi : TI} {g : TG} {tt : TT} {tk tv : TE} (hu : X.A.units + 1 < cLine) (hc : X.calm = true) (hN : X.N.Nodup) (hi : PI X tg iter wi) (ok : BlkOk X.N X.env.scope scope own)
    (hg : Blk X scope fun Y => PG Y tg g) (ht : Blk X scope fun Y => PTs Y ifs tt) (hk : Blk X scope fun Y => PE Y kx tk) (hv : Blk X scope fun Y => PE Y vx tv) (hs : ∀ x, foldedSetIterable iter X.env x = pure x := by intro _; rfl) : PE X (.DictComp kx vx [⟨tg, iter, ifs, 0⟩] scope pos) (tDX nw wi g tt tk tv (own.map (·.2))) := by
  refine ⟨fun pins s σ H Q I h => ?_⟩
  rw [arm_eval_DictComp]
  refine dcX hnw hu hc hN I hi ok hg ht hk hv hs h fun D C s' m H' I' q hn ⟨f0, f1, f2, f3, f4, f5⟩ => ⟨m, hn, fun h'' sb => ?_⟩
  exact ⟨.ref D, H', I'.turned (t' := s'.toks) (fun b o hb e => (sb.2 b hb).trans e) f0 f1 f3 f4 f5, rfl, q⟩
/-- y = {..} -/
theorem ps_setDX {nw : HO} (hnw : nw = .dK [] ∨ nw = .dT []) {i : Nat} {y : Str} {py : Pos} {kx vx tg iter : Expr} {ifs : List Expr} {scope : Scope} {own : List (Str × Nat)} {pos spos : Pos} {wi : TI} {g : TG} {tt : TT} {tk tv : TE} (hu : X.A.units + 1 < cLine) (hc : X.calm = true) (hN : X.N.Nodup) (hy : X.N[i]? = some y) (hyl : X.env.scope.names.lookup y = some .local)
    (hsw : swapsWith (.DictComp kx vx [⟨tg, iter, ifs, 0⟩] scope pos) (some (.Name y py)) spos.line X.env = pure true) (hi : PI X tg iter wi) (ok : BlkOk X.N X.env.scope scope own) (hg : Blk X scope fun Y => PG Y tg g) (ht : Blk X scope fun Y => PTs Y ifs tt) (hk : Blk X scope fun Y => PE Y kx tk) (hv : Blk X scope fun Y => PE Y vx tv)
    (hs : ∀ x, foldedSetIterable iter X.env x = pure x := by intro _; rfl) : PS X (.Assign [.Name y py] (.DictComp kx vx [⟨tg, iter, ifs, 0⟩] scope pos) spos) (tAsg (tDX nw wi g tt tk tv (own.map (·.2))) (gName i)) := by
  refine ⟨fun pins s σ H D I h => ?_⟩
  rw [exec_Assign_Name_used _ _ _ _ hsw]
  refine wpAny_bind (wpAny_standAt (wpAny_bind ?_))
  show wpAny _ X.A (do let _ ← comprehension (.DictComp kx vx [⟨tg, iter, ifs, 0⟩] scope pos) scope X.env (firstIterPos [⟨tg, iter, ifs, 0⟩] pos) newDict false (eval iter X.env) (some (assign (.Name y py) X.env))) _ _ s
  have h : tDX nw wi g tt tk tv (own.map (·.2)) σ H (fun x H1 => gName i x σ H1 D.nx) := h
  refine wpAny_bind (thn (dcX (Qf := fun _ s' => SP X pins D .next s') hnw hu hc hN I hi ok hg ht hk hv hs h fun L C s' m H' I' q hn ⟨f0, f1, f2, f3, f4, f5⟩ => ?_) fun _ s' hq => wpAny_pure (wpAny_pure hq))
  show wpAny _ _ (assign (.Name y py) X.env (.ref L)) _ _ _
  refine wpAny_assign_Name (store_ok2 (v := V.ref L) I' hN hy (.inl hyl) rfl (fun s2 I2 ⟨a, sb, ha⟩ => ?_) (.inr hyl))
  have away : C ≠ a := ha.elim (fun z => z ▸ f1) fun z e => f4 y a z e.symm
  exact ⟨m, hn.sameBut sb away, fun h3 sb3 => ⟨_, H', I2.turned (t' := s2.toks) (fun b o hb e => (sb3.2 b hb).trans e) f0 f1 f3 f4 f5, q⟩⟩
end
end DR
set_option maxHeartbeats 4000000
/-! DR: dict comprehensions. -/
namespace DR
open PySem PySem.Spec PyProof.Rows L2
def dcL (t : Tg) (tt : TM) (fk fv : EM) (vs : List Nat) : List PV → PV → DS → Re PV
  | [], d, s => .ok d s
  | p :: ps, d, s => match asgT t p (wipeE vs s.e) with
    | none => .bad
    | some e' => (tt ⟨e', s.t⟩).bind fun b s1 => if b = true then (fk s1).bind fun k s2 => (fv s2).bind fun v s3 => match setU k v d with
        | some r => dcL t tt fk fv vs ps r.1 s3
        | none => .bad
      else dcL t tt fk fv vs ps d s1
def dcO (d0 : PV) (it : IM) (t : Tg) (tt : TM) (fk fv : EM) (vs : List Nat) : OM := fun s => (it s).bind fun ps s1 => (noX (dcL t tt fk fv vs ps d0 s1)).bind fun d s2 => .ok (d, true) ⟨restE vs s1.e s2.e, s2.t⟩
section
variable {X : Cx} {Z : WX} {it : IM} {t : Tg} {tt : TM} {vs : List Nat} {fk fv : EM}
theorem dcL_cons (p : PV) (ps : List PV) (d : PV) (s : DS) : dcL t tt fk fv vs (p :: ps) d s = match asgT t p (wipeE vs s.e) with
    | none => .bad
    | some e' => (tt ⟨e', s.t⟩).bind fun b s1 => if b = true then (fk s1).bind fun k s2 => (fv s2).bind fun v s3 => match setU k v d with
        | some r => dcL t tt fk fv vs ps r.1 s3
        | none => .bad
      else dcL t tt fk fv vs ps d s1 := rfl
def isDict (d : PV) : Prop := (∃ l, d = .dK l) ∨ ∃ l, d = .dT l
theorem setU_put {K : PySem.W.Frag} {W : Wd} {H : Hp} {d j q : PV} {r : PV × PV} {jv y : V} {D : Addr} (hd : isDict d) (hL : D ∈ W.L) (c : Con K W H d D) (e : setU j q d = some r) (rj : RV K W H j jv) (rq : RV K W H q y) :
    isDict r.1 ∧ ∃ o, DPut H D jv y (upd H D o) ∧ Con K W (upd H D o) r.1 D := by
  rcases hd with ⟨l, rfl⟩ | ⟨l, rfl⟩
  · have e : (if l.length < sizeLine then (keyP j).map fun k => (PV.dK (putP l k q), PV.non) else none) = some r := by cases j <;> exact e
    split at e
    · rename_i hl
      obtain ⟨kk, hk, e⟩ := Option.map_eq_some_iff.mp e
      cases e
      obtain ⟨ws, c1, c2⟩ := con_dK c
      exact ⟨.inl ⟨_, rfl⟩, .dK (putK ws kk y), .inl ⟨ws, kk, c1, keyP_v hk rj, by rw [repK_len c2]; exact hl, rfl⟩, _, upd_same, by rw [Wd.m_upd hL]; exact repK_put kk rq c2⟩
    · cases e
  · cases j with
    | tup c js =>
      cases c with
      | true => cases e
      | false =>
        have e : (if l.length < sizeLine then (keysP js).map fun k => (PV.dT (putP l k q), PV.non) else none) = some r := e
        split at e
        · rename_i hl
          obtain ⟨kk, hk, e⟩ := Option.map_eq_some_iff.mp e
          cases e
          obtain ⟨ws, c1, c2⟩ := con_dT c
          unfold RV Rep at rj
          obtain ⟨b, vs, eb, k1, k2⟩ := rj
          rw [if_neg (by decide)] at k1
          have hv := keysP_v hk k2
          subst hv
          exact ⟨.inr ⟨_, rfl⟩, .dT (putK ws kk y), .inr ⟨ws, kk, b, c1, eb, (msk_some.mp k1).2, by rw [repT_len c2]; exact hl, rfl⟩, _, upd_same, by rw [Wd.m_upd hL]; exact repT_put kk rq c2⟩
        · cases e
    | _ => cases e
theorem con_there {K : PySem.W.Frag} {W W' : Wd} {H H' : Hp} {d : PV} {D : Addr} (c : Con K W H d D) (st : Step W H W' H') (hD : D ∈ W.P) : Con K W' H' d D := c.step st (st.pk D hD)
theorem tDX_of {Q : VK} {σ : L2.St} {H : Hp} {K : PySem.W.Frag} {nw : HO} {d0 : PV} (hd0 : isDict d0) (hnw : ∀ W H D, Con K W (upd H D nw) d0 D) (ht : tgIn t vs = true) (h : tO K Z (dcO d0 it t tt fk fv vs) σ H Q) : tDX nw (tI K Z it) (gX K t) (tT K Z0 tt) (tE K Z0 fk) (tE K Z0 fv) vs σ H Q := by
  obtain ⟨W, s, R, h⟩ := h
  refine ⟨W, s, R, Post.bind h fun ps s1 J W1 H1 _ st0 R1 G q D hD => ?_⟩
  have G : Goes K J ps W1 H1 := G
  obtain ⟨W1', stN, R1', hL⟩ := R1.newL hD
  obtain ⟨nO, nS, nP⟩ := Wd.notL.mp hL
  have q := Post.step q stN
  obtain ⟨Rk, vk⟩ := R1'.keep (o := nw) hD nO (hnw W1' H1 D).nt
  have inL : ∀ {W' : Wd}, W'.P = D :: W1'.P → D ∈ W'.L := fun z => Classical.byContradiction fun y => (Wd.notL.mp y).2.2 (by rw [z]; exact List.mem_cons_self)
  have inP : ∀ {W' : Wd}, W'.P = D :: W1'.P → D ∈ W'.P := fun z => by rw [z]; exact List.mem_cons_self
  refine ⟨fun i m H2 => m = ps.length - i ∧ i ≤ ps.length ∧ ∃ W2 s2 d, LSt W1' H1 D W2 H2 ∧ RSt K W2 H2 ⟨wipeE vs s2.e, s2.t⟩ (L2.wipe σ vs) ∧ Con K W2 H2 d D ∧ isDict d ∧ dcL t tt fk fv vs ps d0 s1 = dcL t tt fk fv vs (ps.drop i) d s2,
    ⟨ps.length, by simp, Nat.zero_le _, W1'.keep D, s1, d0, LSt.start hD nP, Rk.wipe vs, hnw _ _ _, hd0, rfl⟩, ?_⟩
  rintro i m H2 ⟨rfl, hi, W2, s2, d, l, R2, hA, hd, eq⟩
  have vw : Vw W1 H1 W2 H2 := stN.vw.trans l.vw
  have good : ∀ {P : Prop}, (dcL t tt fk fv vs ps d0 s1 = .bad ∨ ∃ x s', dcL t tt fk fv vs ps d0 s1 = .exc x s') → P := fun {P} z => by
    rcases z with z | ⟨x, s', z⟩ <;> (rw [z] at q; exact q.elim)
  by_cases hlt : i < ps.length
  · refine .inr ⟨G.go W2 H2 i vw hlt, fun H2 => i + 1 ≤ ps.length ∧ ∃ W2 s2 d, LSt W1' H1 D W2 H2 ∧ RSt K W2 H2 ⟨wipeE vs s2.e, s2.t⟩ (L2.wipe σ vs) ∧ Con K W2 H2 d D ∧ isDict d ∧ dcL t tt fk fv vs ps d0 s1 = dcL t tt fk fv vs (ps.drop (i + 1)) d s2,
      fun H' ⟨z, k⟩ => ⟨ps.length - (i + 1), by omega, rfl, z, k⟩, fun x H3 y => ?_⟩
    obtain ⟨W3, st3, R3, rv⟩ := G.yld W2 H2 i x H3 ps[i] ⟨wipeE vs s2.e, s2.t⟩ (L2.wipe σ vs) vw (List.getElem?_eq_getElem hlt) R2 y
    have l3 := l.step st3
    have eq2 := eq
    rw [List.drop_eq_getElem_cons hlt, dcL_cons] at eq2
    cases e1 : asgT t ps[i] (wipeE vs s2.e) with
    | none => simp only [e1] at eq2; exact good (.inl eq2)
    | some e2 =>
      simp only [e1] at eq2
      refine ⟨W3, ⟨wipeE vs s2.e, s2.t⟩, ps[i], R3, rv, e2, e1, fun σ4 hw R4 => ⟨(hw vs ht).trans (wipe_wipe σ), W3, ⟨e2, s2.t⟩, R4, ?_⟩⟩
      have hw4 : L2.wipe σ4 vs = L2.wipe σ vs := (hw vs ht).trans (wipe_wipe σ)
      have hA3 := con_there hA st3 (inP l.P)
      cases e3 : tt ⟨e2, s2.t⟩ with
      | bad => rw [e3] at eq2; exact good (.inl eq2)
      | exc x s3 => rw [e3] at eq2; exact good (.inr ⟨x, s3, eq2⟩)
      | ok b s3 =>
        rw [e3] at eq2
        simp only [Re.bind] at eq2
        intro c W4 H4 st4 R5 rc
        obtain rfl : c = b := rc
        have l4 := l3.step st4
        have hA4 := con_there hA3 st4 (inP l3.P)
        cases c with
        | false =>
          rw [if_neg (by decide)] at eq2 ⊢
          exact ⟨hlt, W4, s3, d, l4, by rw [← hw4]; exact R5.wipe vs, hA4, hd, eq2⟩
        | true =>
          rw [if_pos rfl] at eq2 ⊢
          refine ⟨W4, s3, R5, ?_⟩
          cases e4 : fk s3 with
          | bad => rw [e4] at eq2; exact good (.inl eq2)
          | exc x s4 => rw [e4] at eq2; exact good (.inr ⟨x, s4, eq2⟩)
          | ok k s4 =>
            rw [e4] at eq2
            simp only at eq2
            intro kv W5 H5 st5 R6 rk
            have l5 := l4.step st5
            have hA5 := con_there hA4 st5 (inP l4.P)
            refine ⟨W5, s4, R6, ?_⟩
            cases e5 : fv s4 with
            | bad => rw [e5] at eq2; exact good (.inl eq2)
            | exc x s5 => rw [e5] at eq2; exact good (.inr ⟨x, s5, eq2⟩)
            | ok u s5 =>
              rw [e5] at eq2
              simp only at eq2
              intro uv W6 H6 st6 R7 ru
              have l6 := l5.step st6
              have hA6 := con_there hA5 st6 (inP l5.P)
              cases e6 : setU k u d with
              | none => simp only [e6] at eq2; exact good (.inl eq2)
              | some r =>
                simp only [e6] at eq2
                obtain ⟨hd', o, put, hA7⟩ := setU_put hd (inL l6.P) hA6 e6 (st6.rv rk) ru
                exact ⟨_, put, hlt, W6, s5, r.1, l6.poke, by rw [← hw4]; exact (R7.wipe vs).poke (inP l6.P) hA7.nt, hA7, hd', eq2⟩
  · have e : i = ps.length := by omega
    subst e
    rw [List.drop_length] at eq
    refine .inl ⟨G.stop W2 H2 vw, ?_⟩
    rw [eq] at q
    have hA' : Th H2 D := hA.th
    refine q (.ref D) ⟨D :: W2.O, W2.S, W1'.P⟩ H2 l.fin (l.fin_R hA' R1'.e R2) ⟨D, rfl, List.mem_cons_self, ?_, fun j p hj z => ?_⟩
    · have hm := l.fin_m
      rcases hd with ⟨kl, rfl⟩ | ⟨kl, rfl⟩
      · obtain ⟨ws, c1, c2⟩ := con_dK hA
        exact ⟨ws, c1, by rw [hm]; exact c2⟩
      · obtain ⟨ws, c1, c2⟩ := con_dT hA
        exact ⟨ws, c1, by rw [hm]; exact c2⟩
    · obtain ⟨hj, hj2⟩ := restE_own hj
      obtain ⟨a, g1, g2, _⟩ := R2.e.ow j p (by rw [wipeE_get, if_neg hj]; exact hj2)
      rw [wipe_get, if_neg hj] at g1
      rw [g1] at z
      have za : a = D := by injection z with z; injection z with z; injection z
      exact R2.t.pa a g2 (by rw [l.P, za]; exact List.mem_cons_self)
theorem dK_new {K : PySem.W.Frag} (W : Wd) (H : Hp) (D : Addr) : Con K W (upd H D (.dK [])) (.dK []) D := ⟨[], upd_same, by unfold RepK; rfl⟩
theorem dT_new {K : PySem.W.Frag} (W : Wd) (H : Hp) (D : Addr) : Con K W (upd H D (.dT [])) (.dT []) D := ⟨[], upd_same, by unfold RepT; rfl⟩
theorem po_dcK {kx vx tgt iter : Expr} {ifs : List Expr} {scope : Scope} {own : List (Str × Nat)} {pos : Pos} (hu : X.A.units + 1 < cLine) (hc : X.calm = true) (hN : X.N.Nodup) (hi : PIX X Z tgt iter it) (ok : BlkOk X.N X.env.scope scope own) (hg : Blk X scope fun Y => PGX Y tgt t) (ht : Blk X scope fun Y => PTsX Y ifs tt)
    (hk : Blk X scope fun Y => PX Y Z0 kx fk) (he : Blk X scope fun Y => PX Y Z0 vx fv) (hv : own.map (·.2) = vs := by rfl) (hin : tgIn t vs = true := by rfl) (hs : ∀ x, foldedSetIterable iter X.env x = pure x := by intro _; rfl) : PO X Z (.DictComp kx vx [⟨tgt, iter, ifs, 0⟩] scope pos) (dcO (.dK []) it t tt fk fv vs) := by
  subst hv
  exact ⟨PE_imp (pe_dX (.inl rfl) (wi := tI X.K Z it) (g := gX X.K t) (tt := tT X.K Z0 tt) (tk := tE X.K Z0 fk) (tv := tE X.K Z0 fv) hu hc hN hi.pi ok (fun s H L cl fp => (hg s H L cl fp).pg) (fun s H L cl fp => (ht s H L cl fp).pts) (fun s H L cl fp => (hk s H L cl fp).pe) (fun s H L cl fp => (he s H L cl fp).pe) hs) fun σ H Q h => tDX_of (.inl ⟨_, rfl⟩) dK_new hin h⟩
theorem po_dcT {kx vx tgt iter : Expr} {ifs : List Expr} {scope : Scope} {own : List (Str × Nat)} {pos : Pos} (hu : X.A.units + 1 < cLine) (hc : X.calm = true) (hN : X.N.Nodup) (hi : PIX X Z tgt iter it) (ok : BlkOk X.N X.env.scope scope own) (hg : Blk X scope fun Y => PGX Y tgt t) (ht : Blk X scope fun Y => PTsX Y ifs tt)
    (hk : Blk X scope fun Y => PX Y Z0 kx fk) (he : Blk X scope fun Y => PX Y Z0 vx fv) (hv : own.map (·.2) = vs := by rfl) (hin : tgIn t vs = true := by rfl) (hs : ∀ x, foldedSetIterable iter X.env x = pure x := by intro _; rfl) : PO X Z (.DictComp kx vx [⟨tgt, iter, ifs, 0⟩] scope pos) (dcO (.dT []) it t tt fk fv vs) := by
  subst hv
  exact ⟨PE_imp (pe_dX (.inr rfl) (wi := tI X.K Z it) (g := gX X.K t) (tt := tT X.K Z0 tt) (tk := tE X.K Z0 fk) (tv := tE X.K Z0 fv) hu hc hN hi.pi ok (fun s H L cl fp => (hg s H L cl fp).pg) (fun s H L cl fp => (ht s H L cl fp).pts) (fun s H L cl fp => (hk s H L cl fp).pe) (fun s H L cl fp => (he s H L cl fp).pe) hs) fun σ H Q h => tDX_of (.inr ⟨_, rfl⟩) dT_new hin h⟩
theorem ps_setDc {nw : HO} (hnw : nw = .dK [] ∨ nw = .dT []) {d0 : PV} (hd0 : isDict d0) (hn : ∀ (K : PySem.W.Frag) W H D, Con K W (upd H D nw) d0 D) {i : Nat} {y : Str} {py spos : Pos} {kx vx tgt iter : Expr} {ifs : List Expr} {scope : Scope} {own : List (Str × Nat)} {pos : Pos} (hu : X.A.units + 1 < cLine) (hc : X.calm = true) (hN : X.N.Nodup) (hy : X.N[i]? = some y) (hyl : X.env.scope.names.lookup y = some .local)
    (hsw : swapsWith (.DictComp kx vx [⟨tgt, iter, ifs, 0⟩] scope pos) (some (.Name y py)) spos.line X.env = pure true) (hi : PIX X Z tgt iter it) (ok : BlkOk X.N X.env.scope scope own) (hg : Blk X scope fun Y => PGX Y tgt t) (ht : Blk X scope fun Y => PTsX Y ifs tt)
    (hk : Blk X scope fun Y => PX Y Z0 kx fk) (he : Blk X scope fun Y => PX Y Z0 vx fv) (hv : own.map (·.2) = vs := by rfl) (hin : tgIn t vs = true := by rfl) (hs : ∀ x, foldedSetIterable iter X.env x = pure x := by intro _; rfl) : PSX X Z (.Assign [.Name y py] (.DictComp kx vx [⟨tgt, iter, ifs, 0⟩] scope pos) spos) (setS i (dcO d0 it t tt fk fv vs)) := by
  subst hv
  refine ⟨PS_imp (ps_setDX hnw (wi := tI X.K Z it) (g := gX X.K t) (tt := tT X.K Z0 tt) (tk := tE X.K Z0 fk) (tv := tE X.K Z0 fv) hu hc hN hy hyl hsw hi.pi ok (fun s H L cl fp => (hg s H L cl fp).pg) (fun s H L cl fp => (ht s H L cl fp).pts) (fun s H L cl fp => (hk s H L cl fp).pe) (fun s H L cl fp => (he s H L cl fp).pe) hs) fun D σ H ⟨W, s, R, h⟩ => ?_⟩
  exact tDX_of hd0 (hn X.K) hin ⟨W, s, R, PostS.bindE h fun p s1 y W1 H1 _ st R1 ry q => q _ W1 H1 (Step.refl _ _) (R1.put ry)⟩
theorem ps_setDcK {i : Nat} {y : Str} {py spos : Pos} {kx vx tgt iter : Expr} {ifs : List Expr} {scope : Scope} {own : List (Str × Nat)} {pos : Pos} (hu : X.A.units + 1 < cLine) (hc : X.calm = true) (hN : X.N.Nodup) (hy : X.N[i]? = some y) (hyl : X.env.scope.names.lookup y = some .local)
    (hsw : swapsWith (.DictComp kx vx [⟨tgt, iter, ifs, 0⟩] scope pos) (some (.Name y py)) spos.line X.env = pure true) (hi : PIX X Z tgt iter it) (ok : BlkOk X.N X.env.scope scope own) (hg : Blk X scope fun Y => PGX Y tgt t) (ht : Blk X scope fun Y => PTsX Y ifs tt)
    (hk : Blk X scope fun Y => PX Y Z0 kx fk) (he : Blk X scope fun Y => PX Y Z0 vx fv) (hv : own.map (·.2) = vs := by rfl) (hin : tgIn t vs = true := by rfl) (hs : ∀ x, foldedSetIterable iter X.env x = pure x := by intro _; rfl) : PSX X Z (.Assign [.Name y py] (.DictComp kx vx [⟨tgt, iter, ifs, 0⟩] scope pos) spos) (setS i (dcO (.dK []) it t tt fk fv vs)) :=
  ps_setDc (.inl rfl) (.inl ⟨_, rfl⟩) (fun _ => dK_new) hu hc hN hy hyl hsw hi ok hg ht hk he hv hin hs
theorem ps_setDcT {i : Nat} {y : Str} {py spos : Pos} {kx vx tgt iter : Expr} {ifs : List Expr} {scope : Scope} {own : List (Str × Nat)} {pos : Pos} (hu : X.A.units + 1 < cLine) (hc : X.calm = true) (hN : X.N.Nodup) (hy : X.N[i]? = some y) (hyl : X.env.scope.names.lookup y = some .local)
    (hsw : swapsWith (.DictComp kx vx [⟨tgt, iter, ifs, 0⟩] scope pos) (some (.Name y py)) spos.line X.env = pure true) (hi : PIX X Z tgt iter it) (ok : BlkOk X.N X.env.scope scope own) (hg : Blk X scope fun Y => PGX Y tgt t) (ht : Blk X scope fun Y => PTsX Y ifs tt)
    (hk : Blk X scope fun Y => PX Y Z0 kx fk) (he : Blk X scope fun Y => PX Y Z0 vx fv) (hv : own.map (·.2) = vs := by rfl) (hin : tgIn t vs = true := by rfl) (hs : ∀ x, foldedSetIterable iter X.env x = pure x := by intro _; rfl) : PSX X Z (.Assign [.Name y py] (.DictComp kx vx [⟨tgt, iter, ifs, 0⟩] scope pos) spos) (setS i (dcO (.dT []) it t tt fk fv vs)) :=
  ps_setDc (.inr rfl) (.inr ⟨_, rfl⟩) (fun _ => dT_new) hu hc hN hy hyl hsw hi ok hg ht hk he hv hin hs
end
end DR
set_option maxHeartbeats 4000000
/-! DR: x[::-1] of a tuple. -/
namespace DR
open PySem PySem.Spec PyProof.Rows L2 HT
section
variable {prog : Program} {w : World} {A : Around} {E : Value → Shared → Prop} {s : Shared}
theorem applied_rev {sl : Addr} {vl vu vs : Value} {n : Nat} {Q : Int × Int × Nat → Shared → Prop} (hs : s.heap.IsSliceOf sl vl vu vs) (pl : IsPart vl none) (pu : IsPart vu none) (ps : IsPart vs (some (-1))) (h : Q ((n : Int) - 1, -1, n) s) :
    wpAny (model prog w) A (Builtin.Slice.sliceApplied (.ref sl) (pure (n : Int))) Q E s := by
  obtain ⟨os, hos, hcs, hds⟩ := id hs
  unfold Builtin.Slice.sliceApplied Builtin.Slice.sliceFields
  refine wpAny_bind (wpAny_bind (wpAny_field hos hds (x := vl) rfl (wpAny_bind (wpAny_field hos hds (x := vu) rfl (wpAny_bind (wpAny_field hos hds (x := vs) rfl (wpAny_pure ?_)))))))
  refine wpAny_bind (slicePart_ ps ?_)
  show wpAny _ _ (if ((-1 : Int) == 0) = true then _ else _) _ _ s
  rw [if_neg (by decide)]
  refine wpAny_bind (slicePart_ pl (wpAny_bind (slicePart_ pu (wpAny_bind (wpAny_pure ?_)))))
  show wpAny _ _ (match Builtin.Slice.sliceAdjust none none (-1) (n : Int) with | (lo, hi) => pure (lo, (-1 : Int), Builtin.Slice.slicePlaces lo hi (-1))) _ _ s
  have e : Builtin.Slice.sliceAdjust none none (-1) (n : Int) = ((n : Int) - 1, -1) := by
    unfold Builtin.Slice.sliceAdjust
    first | rfl | simp
  rw [e]
  have p : Builtin.Slice.slicePlaces ((n : Int) - 1) (-1) (-1) = n := by
    unfold Builtin.Slice.slicePlaces
    by_cases hn : n = 0
    · subst hn; simp
    · have h1 : (-1 : Int) < (n : Int) - 1 := by omega
      simp [h1] <;> omega
  show wpAny _ _ (pure ((n : Int) - 1, (-1 : Int), Builtin.Slice.slicePlaces ((n : Int) - 1) (-1) (-1))) _ _ s
  rw [p]
  exact wpAny_pure h
theorem filterMap_at {α β : Type} {f : α → Option β} {g : α → β} : ∀ l : List α, (∀ m ∈ l, f m = some (g m)) → l.filterMap f = l.map g
  | [], _ => rfl
  | a :: l, h => by
    rw [List.filterMap_cons_some (h a (List.mem_cons_self ..)), List.map_cons, filterMap_at l fun m hm => h m (List.mem_cons_of_mem _ hm)]
theorem pick_rev (xs : Array Value) : ((List.range xs.size).filterMap fun (m : Nat) => xs[((xs.size : Int) - 1 + (m : Int) * (-1)).toNat]?).toArray = xs.toList.reverse.toArray := by
  have e : ∀ m ∈ List.range xs.size, xs[((xs.size : Int) - 1 + (m : Int) * (-1)).toNat]? = some (xs.toList.reverse.getD m .none) := fun m hm => by
    have hm := List.mem_range.mp hm
    have e1 : ((xs.size : Int) - 1 + (m : Int) * (-1)).toNat = xs.size - 1 - m := by omega
    rw [e1, List.getD_eq_getElem?_getD, List.getElem?_reverse (by simpa using hm)]
    simp
    rw [Array.getElem?_eq_getElem (by omega)]
    simp
  congr 1
  have f : (List.range xs.size).filterMap (fun (m : Nat) => xs[((xs.size : Int) - 1 + (m : Int) * (-1)).toNat]?) = (List.range xs.size).map fun m => xs.toList.reverse.getD m .none := by
    exact filterMap_at _ e
  rw [f]
  refine List.ext_getElem (by simp) fun i h1 h2 => ?_
  simp only [List.getElem_map, List.getElem_range]
  rw [List.getD_eq_getElem?_getD, List.getElem?_eq_getElem h2]
  rfl
theorem getItem_tuple_rev {t sl : Addr} {items : Array Value} {vl vu vs : Value} {Q : Value → Shared → Prop} (ht : IsTup s.heap t items) (hs : s.heap.IsSliceOf sl vl vu vs) (pl : IsPart vl none) (pu : IsPart vu none) (ps : IsPart vs (some (-1)))
    (h : Q (.ref s.heap.objs.size) { s with heap := s.heap.push { cls := .type "tuple", data := .seq items.toList.reverse.toArray } }) (hsz : items.size ≤ sizeLine) : wpAny (model prog w) A (getItem (.ref t) (.ref sl)) Q E s := by
  have ok : sizeOk (.seq items.toList.reverse.toArray) := by
    show items.toList.reverse.toArray.size ≤ sizeLine
    rw [List.size_toArray, List.length_reverse, Array.length_toList]
    exact hsz
  obtain ⟨os, hos, hcs, hds⟩ := id hs
  have hT : s.TypeIs (.ref sl) "slice" := ⟨os, hos, hcs⟩
  unfold getItem
  try with_reducible refine wpAny_holding ?_
  first | refine wpAny_bind (wpAny_pure ?_) | skip
  refine wpAny_bind (wpAny_sequenceKey ht.typeIs (by decide) (wpAny_bind (wpAny_callSpecial?_slot (name := Str.ofString "__getitem__") ht.typeIs PyProof.Rows.slot_tuple_getitem (wpAny_call_entry PyProof.Rows.slot_tuple_getitem ht.typeIs entry_tuple_getitem ?_ (args_tuple_getitem _ _)))))
  show wpAny _ _ (Builtin.Tuple.tupleItemsOf (.ref t) >>= _) _ _ s
  refine wpAny_bind (tupleItemsOf_ ht (wpAny_bind (wpAny_typeOf hT ?_)))
  rw [if_pos (by decide)]
  refine wpAny_bind (applied_rev hs pl pu ps ?_)
  show wpAny _ _ (if (((items.size : Int) - 1) == 0 && (-1 : Int) == 1 && items.size == items.size) = true then _ else _) _ _ s
  rw [if_neg (by simp), pick_rev]
  first
    | exact wpAny_bind (m := Builtin.Tuple.tupleExact _) (wpAny_newObj_type (wpAny_pure ⟨_, rfl, wpAny_pure h⟩) ok)
    | exact wpAny_bind (wpAny_bind (m := Builtin.Tuple.tupleExact _) (wpAny_newObj_type (wpAny_pure ⟨_, rfl, wpAny_pure h⟩) ok))
    | exact wpAny_bind (wpAny_bind (m := Builtin.Tuple.tupleExact _) (wpAny_newObj_type (wpAny_pure (wpAny_pure ⟨_, rfl, wpAny_pure h⟩)) ok))
    | exact wpAny_bind (m := Builtin.Tuple.tupleExact _) (wpAny_newObj_type (wpAny_bind (wpAny_pure (wpAny_pure ⟨_, rfl, wpAny_pure h⟩))) ok)
end
section
variable {X : Cx} {Z : WX} {a : Expr} {f : EM} {pos : Pos}
def tRevT (K : PySem.W.Frag) (te : TE) : TE := fun σ H Q => te σ H fun x H1 => ∃ a xs, x = .ref a ∧ SqT K H1 a xs ∧ ∀ p, H1 p = none → Q (.ref p) (upd H1 p (.tup xs.reverse))
theorem pe_revT {e : Expr} {te : TE} {k : Nat} {p1 p2 p3 pos : Pos} (he : PE X e te) : PE X (.Subscript e (.Slice none none (some (.UnaryOp .USub (.Constant (.int 1) k p1) p2)) p3) pos) (tRevT X.K te) := by
  refine ⟨fun pins s σ H Q I h => Subscript_ (thn (he.run pins s σ H _ I h) fun v s1 ⟨x, H1, I1, r1, a, xs, ex, hx, q⟩ => ?_)⟩
  subst ex
  cases r1
  have st : L2.PO X (some (.UnaryOp .USub (.Constant (.int 1) k p1) p2)) (tPart (tUn (rU fun i => .int (-i)) (tC (.int 1)))) := po_some (pe_un un_neg pe_int)
  refine wpAny_Slice (thn (po_none.run pins s1 σ H1 (fun o H2 => o = none ∧ H2 = H1) I1 ⟨rfl, rfl⟩) fun vl s2 ⟨l, H2, I2, pl, el, e2⟩ => ?_)
  subst el e2
  refine thn (po_none.run pins s2 σ H2 (fun o H3 => o = none ∧ H3 = H2) I2 ⟨rfl, rfl⟩) fun vu s3 ⟨u, H3, I3, pu, eu, e3⟩ => ?_
  subst eu e3
  refine thn (st.run pins s3 σ H3 (fun o H4 => o = some (-1) ∧ H4 = H3) I3 ⟨1, rfl, -1, rfl, rfl, rfl⟩) fun vs s4 ⟨o, H4, I4, ps, eo, e4⟩ => ?_
  subst eo e4
  have I5 : Inv X pins σ H4 { s4 with heap := s4.heap.push { cls := .type "slice", data := .fields #[vl, vu, vs] } } := I4.kept (t' := s4.toks) fun b ob q => Heap.get?_push_of_some _ q
  obtain ⟨its, r, ht, hz⟩ := I5.tuple hx
  have hl := r.length
  show wpAny (model X.prog X.w) X.A (subscriptTail e (.Slice none none (some (.UnaryOp .USub (.Constant (.int 1) k p1) p2)) p3) (.ref a) (.ref s4.heap.objs.size)) (EP X pins σ Q) X.xe { s4 with heap := s4.heap.push { cls := .type "slice", data := .fields #[vl, vu, vs] } }
  refine tail_any (ops := [.ref a, .ref s4.heap.objs.size]) ht.typeIs (PyProof.Rows.slot_tuple_getitem.lookup) ?_ (by with_unfolding_all rfl)
  refine getItem_tuple_rev ht (Heap.IsSliceOf.new _ vl vu vs) pl pu ps ?_ (by rw [List.size_toArray]; omega)
  refine ⟨.ref _, _, I5.laid (t' := s4.toks) (o := .tup xs.reverse) (fun b ob q => Heap.get?_push_of_some _ q) (Nat.le_refl _) ?_, rfl, q _ (I5.hok.fresh (Nat.le_refl _))⟩
  exact ⟨by rw [List.length_reverse]; exact hz, _, r.reverse, IsTup.new _ _⟩
/-- x[::-1] of a list or a tuple -/
def revA : O1 := fun p => match p with
  | .lst ps => some (.lst ps.reverse, true)
  | .tup _ ps => some (.tup false ps.reverse, false)
  | _ => none
theorem po_revA {k : Nat} {q1 q2 q3 : Pos} (ha : PB X Z a f) : PO X Z (.Subscript a (.Slice none none (some (.UnaryOp .USub (.Constant (.int 1) k q1) q2)) q3) pos) (un1O revA f) := by
  refine ⟨PE_imp (PE_or (L2.pe_revL ha.pe) (pe_revT ha.pe)) fun σ H Q ⟨W, s, R, h⟩ => ?_⟩
  have h : Post rO X.K Z σ W H ((f s).bind fun p s1 => match revA p with
    | some r => .ok r s1
    | none => .bad) Q := h
  cases e : f s with
  | bad => rw [e] at h; exact h.elim
  | exc x s1 => rw [e] at h; exact .inl ⟨W, s, R, by rw [e]; exact h⟩
  | ok p s1 =>
    rw [e] at h
    cases p with
    | lst ps =>
      refine .inl ⟨W, s, R, ?_⟩
      rw [e]
      intro x W1 H1 st R1 rx
      obtain ⟨b, vs, rfl, h1, h2⟩ := bv_lst rx
      exact ⟨b, vs, rfl, SqL.of h1, fun l hl => Post.newO (q := .lst ps.reverse) R1 hl (Post.step (r := Re.ok (PV.lst ps.reverse, true) s1) h st) ⟨_, upd_same, (Step.allocO hl (R1.nP hl)).rvs h2.rev⟩⟩
    | tup c ps =>
      refine .inr ⟨W, s, R, ?_⟩
      rw [e]
      intro x W1 H1 st R1 rx
      obtain ⟨b, vs, rfl, h1, h2⟩ := bv_tup rx
      refine ⟨b, vs, rfl, h1, fun l hl => ?_⟩
      have h' : Post rO X.K Z σ W1 H1 (Re.ok (PV.tup false ps.reverse, false) s1 : Re (PV × Bool)) Q := Post.step (r := Re.ok (PV.tup false ps.reverse, false) s1) h st
      exact Post.newP (Z := Z) (q := .tup false ps.reverse) R1 hl (Q := Q) (fun b W' H' st' R' r => h' b W' H' st' R' r) fun W2 st2 hL => new_tup hl hL (st2.rvs h2.rev)
    | _ => exact h.elim
end
end DR
/-! typed mirrors: encoders, loops, comprehensions, and that the forms do what the mirrors tell. -/
namespace TM
open PySem DR
section
variable {α β γ δ σ : Type}
/-! ### encoders -/
def eI (i : Int) : PV := .int i
def eB (b : Bool) : PV := .bl b
def eN (_ : Unit) : PV := .non
def eS (x : Str) : PV := .str x
def eL (E : α → PV) (xs : List α) : PV := .lst (xs.map E)
def eU (E : α → PV) (xs : List α) : PV := .tup false (xs.map E)
def eP2 (E : α → PV) (F : β → PV) (p : α × β) : PV := .tup false [E p.1, F p.2]
def eP3 (E : α → PV) (F : β → PV) (G : γ → PV) (p : α × β × γ) : PV := .tup false [E p.1, F p.2.1, G p.2.2]
def eP4 (E : α → PV) (F : β → PV) (G : γ → PV) (D : δ → PV) (p : α × β × γ × δ) : PV := .tup false [E p.1, F p.2.1, G p.2.2.1, D p.2.2.2]
def eO (E : α → PV) (o : Option α) : PV := match o with
  | none => .non
  | some x => E x
theorem eI_ap (i : Int) : eI i = .int i := (rfl)
theorem eB_ap (i : Bool) : eB i = .bl i := (rfl)
theorem eN_ap (i : Unit) : eN i = .non := (rfl)
theorem eS_ap (i : Str) : eS i = .str i := (rfl)
theorem eL_ap (E : α → PV) (xs : List α) : eL E xs = .lst (xs.map E) := (rfl)
theorem eU_ap (E : α → PV) (xs : List α) : eU E xs = .tup false (xs.map E) := (rfl)
theorem eP2_ap (E : α → PV) (F : β → PV) (p : α × β) : eP2 E F p = .tup false [E p.1, F p.2] := (rfl)
theorem eP3_ap (E : α → PV) (F : β → PV) (G : γ → PV) (p : α × β × γ) : eP3 E F G p = .tup false [E p.1, F p.2.1, G p.2.2] := (rfl)
theorem eP4_ap (E : α → PV) (F : β → PV) (G : γ → PV) (D : δ → PV) (p : α × β × γ × δ) : eP4 E F G D p = .tup false [E p.1, F p.2.1, G p.2.2.1, D p.2.2.2] := (rfl)
theorem eO_none (E : α → PV) : eO E none = .non := (rfl)
theorem eO_some (E : α → PV) (x : α) : eO E (some x) = E x := (rfl)
/-! ### loops -/
inductive Fw (σ β : Type) where
  | nx (s : σ) | bk (s : σ) | rt (b : β)
def foldO (f : σ → α → Option σ) : List α → σ → Option σ
  | [], s => some s
  | x :: xs, s => (f s x).bind fun s1 => foldO f xs s1
def forO (f : σ → α → Option (Fw σ β)) : List α → σ → Option (σ ⊕ β)
  | [], s => some (.inl s)
  | x :: xs, s => (f s x).bind fun o => match o with
    | .nx s1 => forO f xs s1
    | .bk s1 => some (.inl s1)
    | .rt b => some (.inr b)
def whileO (c : σ → Option Bool) (f : σ → Option (Fw σ β)) : Nat → σ → Option (σ ⊕ β)
  | 0, _ => none
  | n + 1, s => (c s).bind fun b => if b = true then (f s).bind fun o => match o with
      | .nx s1 => whileO c f n s1
      | .bk s1 => some (.inl s1)
      | .rt b => some (.inr b)
    else some (.inl s)
def BodyOk (b : SM) (d : DS) (I : σ → DS → Prop) (R : β → PV × Bool) (J : β → DS → Prop) (o : Fw σ β) : Prop := match o with
  | .nx s => ∃ d', (b d = .ok .nx d' ∨ b d = .ok .ct d') ∧ I s d'
  | .bk s => ∃ d', b d = .ok .bk d' ∧ I s d'
  | .rt v => ∃ d', b d = .ok (.rt (R v).1 (R v).2) d' ∧ J v d'
def LoopOk (r : Re Fl) (I : σ → DS → Prop) (R : β → PV × Bool) (J : β → DS → Prop) (o : σ ⊕ β) : Prop := match o with
  | .inl s => ∃ d', r = .ok .nx d' ∧ I s d'
  | .inr v => ∃ d', r = .ok (.rt (R v).1 (R v).2) d' ∧ J v d'
theorem for_fold {tg : Tg} {b : SM} {E : α → PV} {I : σ → DS → Prop} {f : σ → α → Option σ} (hb : ∀ s d x s', I s d → f s x = some s' → ∃ e1, asgT tg (E x) d.e = some e1 ∧ ∃ d', (b ⟨e1, d.t⟩ = .ok .nx d' ∨ b ⟨e1, d.t⟩ = .ok .ct d') ∧ I s' d') :
    ∀ (xs : List α) (s : σ) (d : DS) (s' : σ), I s d → foldO f xs s = some s' → ∃ d', forL tg b (xs.map E) d = .ok .nx d' ∧ I s' d'
  | [], s, d, s', i, h => by
    cases h
    exact ⟨d, rfl, i⟩
  | x :: xs, s, d, s', i, h => by
    unfold foldO at h
    obtain ⟨s1, h1, h2⟩ := Option.bind_eq_some_iff.mp h
    obtain ⟨e1, g1, d1, g2, g3⟩ := hb s d x s1 i h1
    obtain ⟨d2, k1, k2⟩ := for_fold hb xs s1 d1 s' g3 h2
    refine ⟨d2, ?_, k2⟩
    rw [List.map_cons]
    unfold forL
    rw [g1]
    rcases g2 with g2 | g2 <;> (simp only [g2, bind_ok]; exact k1)
theorem for_for {tg : Tg} {b : SM} {E : α → PV} {I : σ → DS → Prop} {R : β → PV × Bool} {J : β → DS → Prop} {f : σ → α → Option (Fw σ β)} (hb : ∀ s d x o, I s d → f s x = some o → ∃ e1, asgT tg (E x) d.e = some e1 ∧ BodyOk b ⟨e1, d.t⟩ I R J o) :
    ∀ (xs : List α) (s : σ) (d : DS) (o : σ ⊕ β), I s d → forO f xs s = some o → LoopOk (forL tg b (xs.map E) d) I R J o
  | [], s, d, o, i, h => by
    cases h
    exact ⟨d, rfl, i⟩
  | x :: xs, s, d, o, i, h => by
    unfold forO at h
    obtain ⟨o1, h1, h2⟩ := Option.bind_eq_some_iff.mp h
    obtain ⟨e1, g1, g2⟩ := hb s d x o1 i h1
    rw [List.map_cons]
    unfold forL
    rw [g1]
    cases o1 with
    | nx s1 =>
      obtain ⟨d1, g2, g3⟩ := g2
      have k := for_for hb xs s1 d1 o g3 h2
      rcases g2 with g2 | g2 <;> (simp only [g2, bind_ok]; exact k)
    | bk s1 =>
      obtain ⟨d1, g2, g3⟩ := g2
      simp only [g2, bind_ok]
      cases h2
      exact ⟨d1, rfl, g3⟩
    | rt v =>
      obtain ⟨d1, g2, g3⟩ := g2
      simp only [g2, bind_ok]
      cases h2
      exact ⟨d1, rfl, g3⟩
theorem while_sim {tt : TM} {b : SM} {I : σ → DS → Prop} {R : β → PV × Bool} {J : β → DS → Prop} {c : σ → Option Bool} {f : σ → Option (Fw σ β)} (hc : ∀ s d v, I s d → c s = some v → tt d = .ok v d) (hb : ∀ s d o, I s d → c s = some true → f s = some o → BodyOk b d I R J o) :
    ∀ (n : Nat) (s : σ) (d : DS) (o : σ ⊕ β), I s d → whileO c f n s = some o → LoopOk (whileN tt b n d) I R J o
  | 0, s, d, o, i, h => by cases h
  | n + 1, s, d, o, i, h => by
    unfold whileO at h
    obtain ⟨v, h1, h2⟩ := Option.bind_eq_some_iff.mp h
    unfold whileN
    rw [hc s d v i h1]
    simp only [bind_ok]
    cases v with
    | false =>
      rw [if_neg (by decide)] at h2 ⊢
      cases h2
      exact ⟨d, rfl, i⟩
    | true =>
      rw [if_pos rfl] at h2 ⊢
      obtain ⟨o1, h3, h4⟩ := Option.bind_eq_some_iff.mp h2
      have g := hb s d o1 i h1 h3
      cases o1 with
      | nx s1 =>
        obtain ⟨d1, g2, g3⟩ := g
        have k := while_sim hc hb n s1 d1 o g3 h4
        rcases g2 with g2 | g2 <;> (simp only [g2, bind_ok]; exact k)
      | bk s1 =>
        obtain ⟨d1, g2, g3⟩ := g
        simp only [g2, bind_ok]
        cases h4
        exact ⟨d1, rfl, g3⟩
      | rt v =>
        obtain ⟨d1, g2, g3⟩ := g
        simp only [g2, bind_ok]
        cases h4
        exact ⟨d1, rfl, g3⟩
/-! ### comprehensions -/
def lenO (l : List α) : Option (List α) := if l.length ≤ sizeLine then some l else none
def mapO (f : α → Option β) : List α → Option (List β)
  | [] => some []
  | x :: xs => (f x).bind fun y => (mapO f xs).bind fun ys => some (y :: ys)
def compO (f : α → Option (Option β)) (xs : List α) : Option (List β) := (mapO f xs).bind fun os => lenO (os.filterMap id)
def compM (f : α → Option β) (xs : List α) : Option (List β) := (mapO f xs).bind fun os => lenO os
/-- with a state -/
def mapS (f : σ → α → Option (β × σ)) : List α → σ → Option (List β × σ)
  | [], s => some ([], s)
  | x :: xs, s => (f s x).bind fun r => (mapS f xs r.2).bind fun q => some (r.1 :: q.1, q.2)
def compS (f : σ → α → Option (Option β × σ)) (xs : List α) (s : σ) : Option (List β × σ) := (mapS f xs s).bind fun r => (lenO (r.1.filterMap id)).bind fun l => some (l, r.2)
def compN (f : σ → α → Option (β × σ)) (xs : List α) (s : σ) : Option (List β × σ) := (mapS f xs s).bind fun r => (lenO r.1).bind fun l => some (l, r.2)
/-- one item of a comprehension -/
def ItemOk (tt : DR.TM) (fe : EM) (vs : List Nat) (e0 : DE) (F : β → PV) (d : DS) (t' : DT) (o : Option β) : Prop := match o with
  | none => ∃ d2, tt d = .ok false d2 ∧ wipeE vs d2.e = e0 ∧ d2.t = t'
  | some y => ∃ d1 d2, tt d = .ok true d1 ∧ fe d1 = .ok (F y) d2 ∧ wipeE vs d2.e = e0 ∧ d2.t = t'
theorem lcL_sim {tg : Tg} {tt : DR.TM} {fe : EM} {vs : List Nat} {e0 : DE} {T : σ → DT} {E : α → PV} {F : β → PV} {f : σ → α → Option (Option β × σ)} (hf : ∀ s x o s', f s x = some (o, s') → ∃ e1, asgT tg (E x) e0 = some e1 ∧ ItemOk tt fe vs e0 F ⟨e1, T s⟩ (T s') o) :
    ∀ (xs : List α) (acc : List PV) (d : DS) (s s' : σ) (os : List (Option β)), mapS f xs s = some (os, s') → wipeE vs d.e = e0 → d.t = T s → acc.length + (os.filterMap id).length ≤ sizeLine → ∃ d', lcL tg tt fe vs (xs.map E) acc d = .ok (acc ++ (os.filterMap id).map F) d' ∧ wipeE vs d'.e = e0 ∧ d'.t = T s'
  | [], acc, d, s, s', os, h, h1, h2, hl => by
    cases h
    exact ⟨d, by simp [lcL], h1, h2⟩
  | x :: xs, acc, d, s, s', os, h, h1, h2, hl => by
    unfold mapS at h
    obtain ⟨⟨o, s1⟩, h3, h4⟩ := Option.bind_eq_some_iff.mp h
    obtain ⟨⟨os1, s2⟩, h5, h6⟩ := Option.bind_eq_some_iff.mp h4
    cases h6
    obtain ⟨e1, g1, g2⟩ := hf s x o s1 h3
    rw [List.map_cons, lcL_cons, h1, g1]
    simp only [h2]
    cases o with
    | none =>
      obtain ⟨d2, k1, k2, k3⟩ := g2
      obtain ⟨d3, m1, m2, m3⟩ := lcL_sim hf xs acc d2 s1 _ os1 h5 k2 k3 (by simpa using hl)
      refine ⟨d3, ?_, m2, m3⟩
      simp only [k1, bind_ok]
      rw [if_neg (by decide), m1]
      simp
    | some y =>
      obtain ⟨d1, d2, k0, k1, k2, k3⟩ := g2
      simp only [List.filterMap_cons, id, List.length_cons] at hl
      obtain ⟨d3, m1, m2, m3⟩ := lcL_sim hf xs (acc ++ [F y]) d2 s1 _ os1 h5 k2 k3 (by simp; omega)
      refine ⟨d3, ?_, m2, m3⟩
      simp only [k0, bind_ok, if_true, k1]
      rw [if_pos (by omega), m1]
      simp
theorem lcO_S {it : IM} {tg : Tg} {tt : DR.TM} {fe : EM} {vs : List Nat} {T : σ → DT} {E : α → PV} {F : β → PV} {f : σ → α → Option (Option β × σ)} {xs : List α} {d0 : DS} {e1 : DE} {s s' : σ} {ys : List β} (hit : it d0 = .ok (xs.map E) ⟨e1, T s⟩) (h : compS f xs s = some (ys, s'))
    (hf : ∀ s x o s', f s x = some (o, s') → ∃ e2, asgT tg (E x) (wipeE vs e1) = some e2 ∧ ItemOk tt fe vs (wipeE vs e1) F ⟨e2, T s⟩ (T s') o) : lcO it tg tt fe vs d0 = .ok (.lst (ys.map F), true) ⟨restE vs e1 e1, T s'⟩ := by
  obtain ⟨⟨os, s1⟩, h1, h2⟩ := Option.bind_eq_some_iff.mp h
  obtain ⟨l, h3, h4⟩ := Option.bind_eq_some_iff.mp h2
  cases h4
  unfold lenO at h3
  split at h3
  · rename_i hl
    cases h3
    obtain ⟨d', m1, m2, m3⟩ := lcL_sim (e0 := wipeE vs e1) hf xs [] ⟨e1, T s⟩ s _ os h1 rfl rfl (by simpa using hl)
    unfold lcO
    rw [hit, bind_ok, m1, noX_ok, bind_ok, m3, restE_eq m2]
    simp
  · cases h3
theorem mapS_unit {f : α → Option β} : ∀ (xs : List α) {ys : List β}, mapO f xs = some ys → mapS (fun (s : Unit) x => (f x).map fun y => (y, s)) xs () = some (ys, ())
  | [], ys, h => by cases h; rfl
  | x :: xs, ys, h => by
    unfold mapO at h
    obtain ⟨y, h1, h2⟩ := Option.bind_eq_some_iff.mp h
    obtain ⟨ys1, h3, h4⟩ := Option.bind_eq_some_iff.mp h2
    cases h4
    unfold mapS
    rw [h1]
    simp only [Option.map_some, Option.bind_some, mapS_unit xs h3]
theorem lcO_O {it : IM} {tg : Tg} {tt : DR.TM} {fe : EM} {vs : List Nat} {E : α → PV} {F : β → PV} {f : α → Option (Option β)} {xs : List α} {d0 : DS} {e1 : DE} {t : DT} {ys : List β} (hit : it d0 = .ok (xs.map E) ⟨e1, t⟩) (h : compO f xs = some ys)
    (hf : ∀ x o, f x = some o → ∃ e2, asgT tg (E x) (wipeE vs e1) = some e2 ∧ ItemOk tt fe vs (wipeE vs e1) F ⟨e2, t⟩ t o) : lcO it tg tt fe vs d0 = .ok (.lst (ys.map F), true) ⟨restE vs e1 e1, t⟩ := by
  obtain ⟨os, h1, h2⟩ := Option.bind_eq_some_iff.mp h
  refine lcO_S (T := fun _ : Unit => t) (f := fun s x => (f x).map fun y => (y, s)) (s := ()) (s' := ()) hit ?_ fun s x o s' g => ?_
  · unfold compS
    rw [mapS_unit xs h1]
    simp only [Option.bind_some, h2]
  · obtain ⟨y, g1, g2⟩ := Option.map_eq_some_iff.mp g
    cases g2
    exact hf x _ g1
theorem mapO_some (f : α → Option β) : ∀ {xs : List α} {ys : List β}, mapO f xs = some ys → mapO (fun x => (f x).map some) xs = some (ys.map some)
  | [], ys, h => by cases h; rfl
  | x :: xs, ys, h => by
    unfold mapO at h
    obtain ⟨y, h1, h2⟩ := Option.bind_eq_some_iff.mp h
    obtain ⟨ys1, h3, h4⟩ := Option.bind_eq_some_iff.mp h2
    cases h4
    unfold mapO
    rw [h1]
    simp only [Option.map_some, Option.bind_some, mapO_some f h3, List.map_cons]
theorem filterMap_some (ys : List β) : (ys.map some).filterMap id = ys := by
  induction ys with
  | nil => rfl
  | cons y ys ih => simp [ih]
/-- no guard -/
theorem lcO_M {it : IM} {tg : Tg} {fe : EM} {vs : List Nat} {E : α → PV} {F : β → PV} {f : α → Option β} {xs : List α} {d0 : DS} {e1 : DE} {t : DT} {ys : List β} (hit : it d0 = .ok (xs.map E) ⟨e1, t⟩) (h : compM f xs = some ys)
    (hf : ∀ x y, f x = some y → ∃ e2, asgT tg (E x) (wipeE vs e1) = some e2 ∧ ∃ d2, fe ⟨e2, t⟩ = .ok (F y) d2 ∧ wipeE vs d2.e = wipeE vs e1 ∧ d2.t = t) : lcO it tg yesT fe vs d0 = .ok (.lst (ys.map F), true) ⟨restE vs e1 e1, t⟩ := by
  obtain ⟨os, h1, h2⟩ := Option.bind_eq_some_iff.mp h
  refine lcO_O (f := fun x => (f x).map some) hit ?_ fun x o g => ?_
  · unfold compO
    rw [mapO_some f h1]
    simp only [Option.bind_some, filterMap_some, h2]
  · obtain ⟨y, g1, g2⟩ := Option.map_eq_some_iff.mp g
    cases g2
    obtain ⟨e2, k1, d2, k2, k3, k4⟩ := hf x y g1
    exact ⟨e2, k1, _, d2, rfl, k2, k3, k4⟩
theorem mapS_some (f : σ → α → Option (β × σ)) : ∀ {xs : List α} {ys : List β} {s s' : σ}, mapS f xs s = some (ys, s') → mapS (fun s x => (f s x).map fun r => (some r.1, r.2)) xs s = some (ys.map some, s')
  | [], ys, s, s', h => by cases h; rfl
  | x :: xs, ys, s, s', h => by
    unfold mapS at h
    obtain ⟨y, h1, h2⟩ := Option.bind_eq_some_iff.mp h
    obtain ⟨⟨ys1, s1⟩, h3, h4⟩ := Option.bind_eq_some_iff.mp h2
    cases h4
    unfold mapS
    rw [h1]
    simp only [Option.map_some, Option.bind_some, mapS_some f h3, List.map_cons]
theorem lcO_N {it : IM} {tg : Tg} {fe : EM} {vs : List Nat} {T : σ → DT} {E : α → PV} {F : β → PV} {f : σ → α → Option (β × σ)} {xs : List α} {d0 : DS} {e1 : DE} {s s' : σ} {ys : List β} (hit : it d0 = .ok (xs.map E) ⟨e1, T s⟩) (h : compN f xs s = some (ys, s'))
    (hf : ∀ s x y s', f s x = some (y, s') → ∃ e2, asgT tg (E x) (wipeE vs e1) = some e2 ∧ ∃ d2, fe ⟨e2, T s⟩ = .ok (F y) d2 ∧ wipeE vs d2.e = wipeE vs e1 ∧ d2.t = T s') : lcO it tg yesT fe vs d0 = .ok (.lst (ys.map F), true) ⟨restE vs e1 e1, T s'⟩ := by
  obtain ⟨⟨os, s1⟩, h1, h2⟩ := Option.bind_eq_some_iff.mp h
  obtain ⟨l, h3, h4⟩ := Option.bind_eq_some_iff.mp h2
  cases h4
  refine lcO_S (f := fun s x => (f s x).map fun r => (some r.1, r.2)) hit ?_ fun s x o s' g => ?_
  · unfold compS
    rw [mapS_some f h1]
    simp only [Option.bind_some, filterMap_some, h3]
  · obtain ⟨⟨y, s2⟩, g1, g2⟩ := Option.map_eq_some_iff.mp g
    cases g2
    obtain ⟨e2, k1, d2, k2, k3, k4⟩ := hf s x y _ g1
    exact ⟨e2, k1, _, d2, rfl, k2, k3, k4⟩
/-- plain ones -/
theorem mapO_pure (g : α → β) : ∀ xs : List α, mapO (fun x => some (g x)) xs = some (xs.map g)
  | [] => rfl
  | x :: xs => by unfold mapO; rw [mapO_pure g xs]; rfl
theorem filter_map_eq (p : α → Bool) (g : α → β) (xs : List α) : (xs.map fun x => if p x = true then some (g x) else none).filterMap id = (xs.filter p).map g := by
  induction xs with
  | nil => rfl
  | cons x xs ih => cases h : p x <;> simp [h, ih]
theorem lcO_P {it : IM} {tg : Tg} {tt : DR.TM} {fe : EM} {vs : List Nat} {E : α → PV} {F : β → PV} {p : α → Bool} {g : α → β} {xs : List α} {d0 : DS} {e1 : DE} {t : DT} {ys : List β} (hit : it d0 = .ok (xs.map E) ⟨e1, t⟩) (h : lenO ((xs.filter p).map g) = some ys)
    (hf : ∀ x, ∃ e2, asgT tg (E x) (wipeE vs e1) = some e2 ∧ ∃ d1, tt ⟨e2, t⟩ = .ok (p x) d1 ∧ (p x = false → wipeE vs d1.e = wipeE vs e1 ∧ d1.t = t) ∧ (p x = true → ∃ d2, fe d1 = .ok (F (g x)) d2 ∧ wipeE vs d2.e = wipeE vs e1 ∧ d2.t = t)) : lcO it tg tt fe vs d0 = .ok (.lst (ys.map F), true) ⟨restE vs e1 e1, t⟩ := by
  refine lcO_O (f := fun x => some (if p x = true then some (g x) else none)) hit ?_ fun x o k => ?_
  · unfold compO
    rw [mapO_pure]
    simp only [Option.bind_some]
    rw [filter_map_eq, h]
  · cases k
    obtain ⟨e2, k1, d1, k2, k3, k4⟩ := hf x
    refine ⟨e2, k1, ?_⟩
    cases hp : p x with
    | false =>
      rw [if_neg (by decide)]
      rw [hp] at k2
      exact ⟨d1, k2, k3 hp⟩
    | true =>
      rw [if_pos rfl]
      rw [hp] at k2
      obtain ⟨d2, k5, k6⟩ := k4 hp
      exact ⟨d1, d2, k2, k5, k6⟩
theorem lcO_Q {it : IM} {tg : Tg} {fe : EM} {vs : List Nat} {E : α → PV} {F : β → PV} {g : α → β} {xs : List α} {d0 : DS} {e1 : DE} {t : DT} {ys : List β} (hit : it d0 = .ok (xs.map E) ⟨e1, t⟩) (h : lenO (xs.map g) = some ys)
    (hf : ∀ x, ∃ e2, asgT tg (E x) (wipeE vs e1) = some e2 ∧ ∃ d2, fe ⟨e2, t⟩ = .ok (F (g x)) d2 ∧ wipeE vs d2.e = wipeE vs e1 ∧ d2.t = t) : lcO it tg yesT fe vs d0 = .ok (.lst (ys.map F), true) ⟨restE vs e1 e1, t⟩ := by
  refine lcO_M (f := fun x => some (g x)) hit ?_ fun x y k => ?_
  · unfold compM
    rw [mapO_pure]
    exact h
  · cases k
    exact hf x
/-- two clauses -/
def comp2 (c : α → Option (Option (List β))) (f : α → β → Option (Option γ)) : List α → Option (List γ)
  | [] => some []
  | x :: xs => (c x).bind fun o => match o with
    | none => comp2 c f xs
    | some ys => (mapO (f x) ys).bind fun os => (comp2 c f xs).bind fun zs => some (os.filterMap id ++ zs)
def comp2O (c : α → Option (Option (List β))) (f : α → β → Option (Option γ)) (xs : List α) : Option (List γ) := (comp2 c f xs).bind fun l => lenO l
theorem comp2_sim {tg tg1 : Tg} {tt tt1 : DR.TM} {it1 : IM} {fe : EM} {vs vs1 : List Nat} {e0 : DE} {t : DT} {E : α → PV} {E1 : β → PV} {F : γ → PV} {c : α → Option (Option (List β))} {f : α → β → Option (Option γ)} (hsub : ∀ i ∈ vs1, i ∈ vs)
    (hf : ∀ x o, c x = some o → ∃ e1, asgT tg (E x) e0 = some e1 ∧ match o with
      | none => ∃ d2, tt ⟨e1, t⟩ = .ok false d2 ∧ wipeE vs d2.e = e0 ∧ d2.t = t
      | some ys => ∃ d1 e2, tt ⟨e1, t⟩ = .ok true d1 ∧ it1 d1 = .ok (ys.map E1) ⟨e2, t⟩ ∧ wipeE vs e2 = e0 ∧ ∀ y o', f x y = some o' → ∃ e3, asgT tg1 (E1 y) (wipeE vs1 e2) = some e3 ∧ ItemOk tt1 fe vs1 (wipeE vs1 e2) F ⟨e3, t⟩ t o') :
    ∀ (xs : List α) (acc : List PV) (d : DS) (zs : List γ), comp2 c f xs = some zs → wipeE vs d.e = e0 → d.t = t → acc.length + zs.length ≤ sizeLine → ∃ d', lc2L tg tt it1 tg1 tt1 fe vs vs1 (xs.map E) acc d = .ok (acc ++ zs.map F) d' ∧ wipeE vs d'.e = e0 ∧ d'.t = t
  | [], acc, d, zs, h, h1, h2, hl => by
    cases h
    exact ⟨d, by simp [lc2L], h1, h2⟩
  | x :: xs, acc, d, zs, h, h1, h2, hl => by
    unfold comp2 at h
    obtain ⟨o, h3, h4⟩ := Option.bind_eq_some_iff.mp h
    obtain ⟨e1, g1, g2⟩ := hf x o h3
    rw [List.map_cons, lc2L_cons, h1, g1]
    simp only [h2]
    cases o with
    | none =>
      obtain ⟨d2, k1, k2, k3⟩ := g2
      obtain ⟨d3, m1, m2, m3⟩ := comp2_sim hsub hf xs acc d2 zs h4 k2 k3 hl
      refine ⟨d3, ?_, m2, m3⟩
      simp only [k1, bind_ok]
      rw [if_neg (by decide), m1]
    | some ys =>
      obtain ⟨d1, e2, k0, k1, k2, k3⟩ := g2
      obtain ⟨os, h5, h6⟩ := Option.bind_eq_some_iff.mp h4
      obtain ⟨zs1, h7, h8⟩ := Option.bind_eq_some_iff.mp h6
      cases h8
      simp only [List.length_append] at hl
      obtain ⟨d2, n1, n2, n3⟩ := lcL_sim (T := fun _ : Unit => t) (tg := tg1) (tt := tt1) (fe := fe) (vs := vs1) (e0 := wipeE vs1 e2) (E := E1) (F := F) (f := fun s y => (f x y).map fun r => (r, s)) (fun s y o' s' hh => by
        obtain ⟨r, r1, r2⟩ := Option.map_eq_some_iff.mp hh
        cases r2
        exact k3 y _ r1) ys acc ⟨e2, t⟩ () () os (mapS_unit ys h5) rfl rfl (by omega)
      obtain ⟨d3, m1, m2, m3⟩ := comp2_sim hsub hf xs (acc ++ (os.filterMap id).map F) d2 zs1 h7 ((wipeE_eq_of hsub n2).trans k2) n3 (by simp; omega)
      refine ⟨d3, ?_, m2, m3⟩
      simp only [k0, bind_ok, if_true, k1, n1, m1]
      simp
theorem lc2O_O {it it1 : IM} {tg tg1 : Tg} {tt tt1 : DR.TM} {fe : EM} {vs vs1 : List Nat} {E : α → PV} {E1 : β → PV} {F : γ → PV} {c : α → Option (Option (List β))} {f : α → β → Option (Option γ)} {xs : List α} {d0 : DS} {e1 : DE} {t : DT} {ys : List γ} (hit : it d0 = .ok (xs.map E) ⟨e1, t⟩) (h : comp2O c f xs = some ys) (hsub : ∀ i ∈ vs1, i ∈ vs)
    (hf : ∀ x o, c x = some o → ∃ e2, asgT tg (E x) (wipeE vs e1) = some e2 ∧ match o with
      | none => ∃ d2, tt ⟨e2, t⟩ = .ok false d2 ∧ wipeE vs d2.e = wipeE vs e1 ∧ d2.t = t
      | some ys => ∃ d1 e3, tt ⟨e2, t⟩ = .ok true d1 ∧ it1 d1 = .ok (ys.map E1) ⟨e3, t⟩ ∧ wipeE vs e3 = wipeE vs e1 ∧ ∀ y o', f x y = some o' → ∃ e4, asgT tg1 (E1 y) (wipeE vs1 e3) = some e4 ∧ ItemOk tt1 fe vs1 (wipeE vs1 e3) F ⟨e4, t⟩ t o') :
    lc2O it tg tt it1 tg1 tt1 fe vs vs1 d0 = .ok (.lst (ys.map F), true) ⟨restE vs e1 e1, t⟩ := by
  obtain ⟨l, h1, h2⟩ := Option.bind_eq_some_iff.mp h
  unfold lenO at h2
  split at h2
  · rename_i hl
    cases h2
    obtain ⟨d', m1, m2, m3⟩ := comp2_sim (e0 := wipeE vs e1) hsub hf xs [] ⟨e1, t⟩ _ h1 rfl rfl (by simpa using hl)
    unfold lc2O
    rw [hit, bind_ok, m1, noX_ok, bind_ok, m3, restE_eq m2]
    simp
  · cases h2
end
end TM
/-! typed mirrors: the operators on typed values. -/
namespace TM
open PySem DR
section
variable {α β γ δ σ : Type}
/-! rows of the core's, for the rewriter -/
theorem s_set0 (a b : α) (l : List α) : (a :: l).set 0 b = b :: l := (rfl)
theorem s_setS (a b : α) (l : List α) (n : Nat) : (a :: l).set (n + 1) b = a :: l.set n b := (rfl)
theorem s_lc (a : α) (l : List α) : (a :: l).length = l.length + 1 := (rfl)
theorem s_ln : ([] : List α).length = 0 := (rfl)
theorem s_na (l : List α) : [] ++ l = l := (rfl)
theorem s_ca (a : α) (l m : List α) : (a :: l) ++ m = a :: (l ++ m) := (rfl)
theorem s_an (l : List α) : l ++ [] = l := List.append_nil l
theorem s_mc (f : α → β) (a : α) (l : List α) : (a :: l).map f = f a :: l.map f := (rfl)
theorem s_mn (f : α → β) : ([] : List α).map f = [] := (rfl)
theorem s_ma (f : α → β) (l m : List α) : (l ++ m).map f = l.map f ++ m.map f := List.map_append
theorem s_lm (f : α → β) (l : List α) : (l.map f).length = l.length := List.length_map f
theorem s_r0 (a : α) : List.replicate 0 a = [] := (rfl)
theorem s_rS (a : α) (n : Nat) : List.replicate (n + 1) a = a :: List.replicate n a := (rfl)
theorem s_dt : decide True = true := by simp
theorem s_df : decide False = false := by simp
theorem s_nt : (!true) = false := (rfl)
theorem s_nf : (!false) = true := (rfl)
theorem s_ta (b : Bool) : (true && b) = b := (rfl)
theorem s_fa (b : Bool) : (false && b) = false := (rfl)
theorem s_at (b : Bool) : (b && true) = b := by simp
theorem s_af (b : Bool) : (b && false) = false := by simp
theorem s_to (b : Bool) : (true || b) = true := (rfl)
theorem s_fo (b : Bool) : (false || b) = b := (rfl)
theorem s_ot (b : Bool) : (b || true) = true := by simp
theorem s_of (b : Bool) : (b || false) = b := by simp
theorem s_fx (b : Bool) : (false != b) = b := by cases b <;> rfl
theorem s_tx (b : Bool) : (true != b) = !b := by cases b <;> rfl
theorem s_it (a b : α) : (if True then a else b) = a := if_true a b
theorem s_if (a b : α) : (if False then a else b) = b := if_false a b
theorem s_tt : (true = true) = True := by simp
theorem s_ft : (false = true) = False := by simp
theorem s_tf : (true = false) = False := by simp
theorem s_ff : (false = false) = True := by simp
theorem s_nT : (¬ True) = False := by simp
theorem s_nF : (¬ False) = True := by simp
theorem s_om (f : α → β) (a : α) : (some a).map f = some (f a) := (rfl)
theorem s_omn (f : α → β) : (none : Option α).map f = none := (rfl)
theorem s_ob (f : α → Option β) (a : α) : (some a).bind f = f a := (rfl)
theorem s_eta (p : α × β) : (p.1, p.2) = p := (rfl)
theorem s_p1 (a : α) (b : β) : (a, b).1 = a := (rfl)
theorem s_p2 (a : α) (b : β) : (a, b).2 = b := (rfl)
theorem s_frameE (n : Nat) (ps : List PV) : frameE n ps = ps.map Sl.val ++ List.replicate (n - ps.length) .no := (rfl)
theorem s_wipe0 (e : DE) : wipeE [] e = e := (rfl)
theorem s_wipeS (v : Nat) (vs : List Nat) (e : DE) : wipeE (v :: vs) e = (wipeE vs e).set v .no := (rfl)
theorem s_rest0 (e e' : DE) : restE [] e e' = e' := (rfl)
theorem s_restS (v : Nat) (vs : List Nat) (e e' : DE) : restE (v :: vs) e e' = (restE vs e e').set v (rest1 (e.getD v .no)) := (rfl)
theorem s_rest1n : rest1 .no = .no := (rfl)
theorem s_rest1v (p : PV) : rest1 (.val p) = .val p := (rfl)
theorem s_rest1o (p : PV) : rest1 (.own p) = .no := (rfl)
theorem s_gd0 (a d : α) (l : List α) : (a :: l).getD 0 d = a := (rfl)
theorem s_gdS (a d : α) (l : List α) (n : Nat) : (a :: l).getD (n + 1) d = l.getD n d := (rfl)
theorem s_c0 : ((0 : Nat) : Int) = 0 := (rfl)
theorem s_c1 : ((1 : Nat) : Int) = 1 := (rfl)
theorem s_c2 : ((2 : Nat) : Int) = 2 := (rfl)
theorem s_c3 : ((3 : Nat) : Int) = 3 := (rfl)
theorem s_c4 : ((4 : Nat) : Int) = 4 := (rfl)
theorem s_c5 : ((5 : Nat) : Int) = 5 := (rfl)
theorem s_c6 : ((6 : Nat) : Int) = 6 := (rfl)
theorem s_c7 : ((7 : Nat) : Int) = 7 := (rfl)
theorem s_c8 : ((8 : Nat) : Int) = 8 := (rfl)
theorem s_c9 : ((9 : Nat) : Int) = 9 := (rfl)
theorem s_c10 : ((10 : Nat) : Int) = 10 := (rfl)
theorem s_c11 : ((11 : Nat) : Int) = 11 := (rfl)
theorem s_c12 : ((12 : Nat) : Int) = 12 := (rfl)
/-! tests that stay open -/
theorem t_and (t1 : DR.TM) (b : Bool) (s : DS) : kAndT t1 b s = if b = true then t1 s else .ok false s := (rfl)
theorem t_or (t1 : DR.TM) (b : Bool) (s : DS) : kOrT t1 b s = if b = true then .ok true s else t1 s := (rfl)
theorem e_and (f : EM) (b : Bool) (s : DS) : kAnd f (.bl b) s = if b = true then f s else .ok (.bl false) s := by cases b <;> rfl
theorem e_or (f : EM) (b : Bool) (s : DS) : kOr f (.bl b) s = if b = true then .ok (.bl true) s else f s := by cases b <;> rfl
theorem i_andT (b c : Bool) (s : DS) : (if b = true then Re.ok c s else .ok false s) = .ok (b && c) s := by cases b <;> rfl
theorem i_orT (b c : Bool) (s : DS) : (if b = true then Re.ok true s else .ok c s) = .ok (b || c) s := by cases b <;> rfl
theorem i_andE (b c : Bool) (s : DS) : (if b = true then Re.ok (PV.bl c) s else .ok (.bl false) s) = .ok (.bl (b && c)) s := by cases b <;> rfl
theorem i_orE (b c : Bool) (s : DS) : (if b = true then Re.ok (PV.bl true) s else .ok (.bl c) s) = .ok (.bl (b || c)) s := by cases b <;> rfl
theorem k_if {α : Type} (u v : DS → Re α) (b : Bool) (s : DS) : kIf u v b s = if b = true then u s else v s := (rfl)
theorem k_ch3 (G : P2) (f : EM) (q : PV) (b : Bool) (s : DS) : kCh3 G f q (some (.bl b)) s = if b = true then (f s).bind (kCh4 G q) else .ok (.bl false) s := by cases b <;> rfl
theorem i_ite (b : Bool) (E : α → PV) (x y : α) (s : DS) : (if b = true then Re.ok (E x) s else .ok (E y) s) = .ok (E (if b = true then x else y)) s := by cases b <;> rfl
theorem i_int (b : Bool) (x y : Int) (s : DS) : (if b = true then Re.ok (PV.int x) s else .ok (PV.int y) s) = .ok (PV.int (if b = true then x else y)) s := by cases b <;> rfl
/-! ### ints -/
def iabs (i : Int) : Int := if i < 0 then -i else i
theorem absG_t (i : Int) : absG (.int i) = some (.int (iabs i)) := (rfl)
def modO (i j : Int) : Option Int := if 0 < j then some (i % j) else none
theorem modO_pos {i j : Int} (h : 0 < j) : modO i j = some (i % j) := if_pos h
theorem modI_t (i j : Int) : modI (.int i) (.int j) = (modO i j).map .int := by
  unfold modI ii modO
  by_cases h : 0 < j <;> simp [h]
def divO (i j : Int) : Option Int := if 0 < j ∧ j < 1073741824 then some (i / j) else none
theorem divO_pos {i j : Int} (h : 0 < j) (g : j < 1073741824) : divO i j = some (i / j) := if_pos ⟨h, g⟩
theorem fdivI_t (i j : Int) : fdivI (.int i) (.int j) = (divO i j).map .int := by
  unfold fdivI ii divO
  by_cases h : 0 < j <;> by_cases g : j < 1073741824 <;> simp [h, g]
def mulB (i : Int) : Prop := -18446744073709551616 < i ∧ i < 18446744073709551616
instance (i : Int) : Decidable (mulB i) := inferInstanceAs (Decidable (_ ∧ _))
def mulT (i j : Int) : Option Int := if mulB i ∨ mulB j then some (i * j) else none
theorem mulT_l {i j : Int} (h : -18446744073709551616 < i) (g : i < 18446744073709551616) : mulT i j = some (i * j) := if_pos (.inl ⟨h, g⟩)
theorem mulT_r {i j : Int} (h : -18446744073709551616 < j) (g : j < 18446744073709551616) : mulT i j = some (i * j) := if_pos (.inr ⟨h, g⟩)
theorem mulT_mod {x y k : Int} (h : 0 < k) (g : k < 18446744073709551616) : mulT (x % k) y = some (x % k * y) := if_pos (.inl ⟨by have := Int.emod_nonneg x (show k ≠ 0 by omega); omega, by have := Int.emod_lt_of_pos x h; omega⟩)
theorem mulO_t (i j : Int) : mulO (.int i) (.int j) = (mulT i j).map fun r => (.int r, false) := by
  unfold mulO p2 mulI ii mulT mulB
  by_cases h : (-18446744073709551616 < i ∧ i < 18446744073709551616) ∨ (-18446744073709551616 < j ∧ j < 18446744073709551616)
  · rw [if_pos h]; simp [h]
  · rw [if_neg h]; simp [h, mulL]
theorem addI_t (i j : Int) : addI (.int i) (.int j) = some (.int (i + j)) := (rfl)
theorem addO_t (i j : Int) : addO (.int i) (.int j) = some (.int (i + j), false) := (rfl)
/-! ### lists -/
def idx (xs : List α) (i : Int) : Option α := L2.atI xs i
theorem atI_map (E : α → β) (xs : List α) (i : Int) : L2.atI (xs.map E) i = (idx xs i).map E := by
  unfold idx L2.atI
  rw [List.length_map]
  cases L2.ixN xs.length i with
  | none => rfl
  | some k => simp
theorem ixG_L (E : α → PV) (xs : List α) (i : Int) : ixG (.lst (xs.map E)) (.int i) = (idx xs i).map E := atI_map E xs i
theorem ixG_U (c : Bool) (E : α → PV) (xs : List α) (i : Int) : ixG (.tup c (xs.map E)) (.int i) = (idx xs i).map E := atI_map E xs i
theorem ixG_S (E : α → PV) (xs : List α) (i : Int) : ixG (.scr (xs.map E)) (.int i) = (idx xs i).map E := atI_map E xs i
theorem lixG_L (E : α → PV) (xs : List α) (i : Int) : lixG (.lst (xs.map E)) (.int i) = (idx xs i).map E := atI_map E xs i
theorem ixT0 (c : Bool) (a : PV) (l : List PV) : ixG (.tup c (a :: l)) (.int 0) = some a := DR.atI_nat (ps := a :: l) (n := 0) rfl
theorem ixT1 (c : Bool) (a b : PV) (l : List PV) : ixG (.tup c (a :: b :: l)) (.int 1) = some b := DR.atI_nat (ps := a :: b :: l) (n := 1) rfl
theorem ixT2 (c : Bool) (a b d : PV) (l : List PV) : ixG (.tup c (a :: b :: d :: l)) (.int 2) = some d := DR.atI_nat (ps := a :: b :: d :: l) (n := 2) rfl
theorem ixT3 (c : Bool) (a b d e : PV) (l : List PV) : ixG (.tup c (a :: b :: d :: e :: l)) (.int 3) = some e := DR.atI_nat (ps := a :: b :: d :: e :: l) (n := 3) rfl
theorem ixTm2 (c : Bool) (a b : PV) : ixG (.tup c [a, b]) (.int (-1)) = some b := (rfl)
theorem ixTm3 (c : Bool) (a b d : PV) : ixG (.tup c [a, b, d]) (.int (-1)) = some d := (rfl)
def setX (xs : List α) (j : Int) (v : α) : Option (List α) := (L2.ixN xs.length j).map fun k => xs.set k v
theorem map_set' (E : α → β) : ∀ (xs : List α) (k : Nat) (v : α), (xs.map E).set k (E v) = (xs.set k v).map E
  | [], _, _ => rfl
  | x :: xs, 0, v => rfl
  | x :: xs, k + 1, v => congrArg (E x :: ·) (map_set' E xs k v)
theorem setU_L (E : α → PV) (xs : List α) (j : Int) (v : α) : setU (.int j) (E v) (.lst (xs.map E)) = (setX xs j v).map fun z => (.lst (z.map E), .non) := by
  show ((L2.ixN (xs.map E).length j).map fun k => (PV.lst ((xs.map E).set k (E v)), PV.non)) = _
  rw [List.length_map]
  unfold setX
  cases L2.ixN xs.length j with
  | none => rfl
  | some k => simp only [Option.map_some, map_set']
def snoc (xs : List α) (x : α) : Option (List α) := if xs.length < sizeLine then some (xs ++ [x]) else none
theorem appU_L (E : α → PV) (xs : List α) (x : α) : appU (E x) (.lst (xs.map E)) = (snoc xs x).map fun z => (.lst (z.map E), .non) := by
  unfold appU snoc
  show (if (xs.map E).length < sizeLine then _ else _) = _
  rw [List.length_map]
  by_cases h : xs.length < sizeLine
  · rw [if_pos h, if_pos h, Option.map_some, List.map_append]; rfl
  · rw [if_neg h, if_neg h]; rfl
def appO (xs ys : List α) : Option (List α) := if xs.length + ys.length ≤ sizeLine then some (xs ++ ys) else none
theorem addO_L (E : α → PV) (xs ys : List α) : addO (.lst (xs.map E)) (.lst (ys.map E)) = (appO xs ys).map fun z => (.lst (z.map E), true) := by
  unfold addO p2 addI ii addL appO lineOk
  show Option.or (Option.map _ none) (Option.or (if decide ((xs.map E).length + (ys.map E).length ≤ sizeLine) = true then _ else _) _) = _
  rw [List.length_map, List.length_map]
  by_cases h : xs.length + ys.length ≤ sizeLine
  · rw [if_pos h, if_pos (decide_eq_true h), Option.map_some, List.map_append]; rfl
  · rw [if_neg h, if_neg (fun g => h (of_decide_eq_true g))]; rfl
theorem addO_U (E : α → PV) (xs ys : List α) : addO (.tup false (xs.map E)) (.tup false (ys.map E)) = (appO xs ys).map fun z => (.tup false (z.map E), false) := by
  unfold addO p2 addI ii addL addT appO lineOk
  show Option.or (Option.map _ none) (Option.or none (Option.or (Option.map _ (if decide ((xs.map E).length + (ys.map E).length ≤ sizeLine) = true then _ else _)) _)) = _
  rw [List.length_map, List.length_map]
  by_cases h : xs.length + ys.length ≤ sizeLine
  · rw [if_pos h, if_pos (decide_eq_true h)]
    show some (PV.tup false _, false) = some (PV.tup false (List.map E (xs ++ ys)), false)
    rw [List.map_append]
  · rw [if_neg h, if_neg (fun g => h (of_decide_eq_true g))]; rfl
def repO (xs : List α) (k : Int) : Option (List α) := if (-9223372036854775808 ≤ k ∧ k < 9223372036854775808) ∧ xs.length * k.toNat ≤ sizeLine then some (List.replicate k.toNat xs).flatten else none
theorem map_rep (E : α → β) (xs : List α) (n : Nat) : (List.replicate n (xs.map E)).flatten = (List.replicate n xs).flatten.map E := by
  induction n with
  | zero => rfl
  | succ n ih => rw [List.replicate_succ, List.flatten_cons, ih, List.replicate_succ, List.flatten_cons, List.map_append]
theorem mulO_L (E : α → PV) (xs : List α) (k : Int) : mulO (.lst (xs.map E)) (.int k) = (repO xs k).map fun z => (.lst (z.map E), true) := by
  unfold mulO p2 mulI ii mulL repO lineOk
  show Option.or (Option.map _ none) (if (decide (-9223372036854775808 ≤ k ∧ k < 9223372036854775808) && decide ((xs.map E).length * k.toNat ≤ sizeLine)) = true then _ else _) = _
  rw [List.length_map, map_rep]
  by_cases h : (-9223372036854775808 ≤ k ∧ k < 9223372036854775808) ∧ xs.length * k.toNat ≤ sizeLine
  · rw [if_pos h, if_pos (by rw [Bool.and_eq_true, decide_eq_true_eq, decide_eq_true_eq]; exact h)]
    rfl
  · rw [if_neg h, if_neg (by rw [Bool.and_eq_true, decide_eq_true_eq, decide_eq_true_eq]; exact h)]
    rfl
def cutT (xs : List α) (lo hi : Option Int) : List α := (xs.drop (HT.sIx xs.length 0 lo)).take (HT.sIx xs.length xs.length hi - HT.sIx xs.length 0 lo)
theorem cutP_map (E : α → PV) (xs : List α) (lo hi : Option Int) : cutP (xs.map E) lo hi = (cutT xs lo hi).map E := by
  unfold cutP cutT
  rw [List.length_map, List.map_take, List.map_drop]
theorem cutG_L (E : α → PV) (xs : List α) (lo hi : Option Int) : cutG (.lst (xs.map E)) lo hi = some (.lst ((cutT xs lo hi).map E), true) := by
  show some (PV.lst _, true) = _
  rw [cutP_map]
theorem cutG_S (E : α → PV) (xs : List α) (lo hi : Option Int) : cutG (.scr (xs.map E)) lo hi = some (.lst ((cutT xs lo hi).map E), true) := by
  show some (PV.lst _, true) = _
  rw [cutP_map]
theorem cutG_U (c : Bool) (E : α → PV) (xs : List α) (lo hi : Option Int) : cutG (.tup c (xs.map E)) lo hi = some (.tup c ((cutT xs lo hi).map E), false) := by
  show some (PV.tup c _, false) = _
  rw [cutP_map]
theorem revG_L (E : α → PV) (xs : List α) : revG (.lst (xs.map E)) = some (.lst (xs.reverse.map E), true) := by
  show some (PV.lst _, true) = _
  rw [List.map_reverse]
/-! bools, sums, largest -/
theorem bools_t : ∀ bs : List Bool, bools (bs.map eB) = some bs
  | [] => rfl
  | b :: bs => by simp [eB, bools, bools_t bs]
theorem allG_t (bs : List Bool) : allG (.lst (bs.map eB)) = some (.bl (bs.all id)) := by simp [allG, bools_t]
theorem anyG_t (bs : List Bool) : anyG (.lst (bs.map eB)) = some (.bl (bs.any id)) := by simp [anyG, bools_t]
theorem intsP_t : ∀ bs : List Int, intsP (bs.map eI) = some bs
  | [] => rfl
  | b :: bs => by simp [eI, intsP, intsP_t bs]
theorem sumG_t (bs : List Int) : sumG (.lst (bs.map eI)) = some (.int bs.sum) := by simp [sumG, intsP_t]
theorem maxA_L (bs : List Int) : maxA (.lst (bs.map eI)) = (maxL bs).map .int := by
  simp only [maxA, maxG, maxTG, intsP_t, Option.bind_some]
  cases maxL bs <;> rfl
theorem minA_L (bs : List Int) : minA (.lst (bs.map eI)) = (minL bs).map .int := by
  simp only [minA, minG, minTG, intsP_t, Option.bind_some]
  cases minL bs <;> rfl
theorem maxA_U (c : Bool) (bs : List Int) : maxA (.tup c (bs.map eI)) = (maxL bs).map .int := by
  simp only [maxA, maxG, maxTG, intsP_t, Option.bind_some]
  cases maxL bs <;> rfl
theorem minA_U (c : Bool) (bs : List Int) : minA (.tup c (bs.map eI)) = (minL bs).map .int := by
  simp only [minA, minG, minTG, intsP_t, Option.bind_some]
  cases minL bs <;> rfl
/-! ranges, enumerate, zip -/
def rng (a b : Int) : List Int := (List.range (b - a).toNat).map fun (i : Nat) => a + (i : Int)
def rngO (a b : Int) : Option (List Int) := if -(4611686018427387904) ≤ a ∧ a < 4611686018427387904 ∧ -(4611686018427387904) ≤ b ∧ b < 4611686018427387904 then some (rng a b) else none
theorem rngO_ok {a b : Int} (h1 : -(4611686018427387904) ≤ a) (h2 : a < 4611686018427387904) (h3 : -(4611686018427387904) ≤ b) (h4 : b < 4611686018427387904) : rngO a b = some (rng a b) := if_pos ⟨h1, h2, h3, h4⟩
def reO (o : Option (List PV)) (s : DS) : Re (List PV) := match o with
  | some l => .ok l s
  | none => .bad
theorem reO_some (l : List PV) (s : DS) : reO (some l) s = .ok l s := (rfl)
theorem rangeP_t (a b : Int) : rangeP a (b - a).toNat = (rng a b).map eI := by
  unfold rangeP rng
  rw [List.map_map]
  rfl
theorem kR1_t (j : Int) (s : DS) : kR1 (.int j) s = reO ((rngO 0 j).map fun l => l.map eI) s := by
  show (if big62 j then Re.ok (rangeP 0 j.toNat) s else .bad) = _
  unfold rngO big62
  have e : rangeP 0 j.toNat = (rng 0 j).map eI := by rw [← rangeP_t, Int.sub_zero]
  rw [e]
  by_cases h : -(4611686018427387904) ≤ j ∧ j < 4611686018427387904
  · rw [if_pos (by simpa using h), if_pos ⟨by decide, by decide, h⟩]; rfl
  · rw [if_neg (by simpa using h), if_neg (fun g => h g.2.2)]; rfl
theorem kR2_t (i j : Int) (s : DS) : kR2b (.int i) (.int j) s = reO ((rngO i j).map fun l => l.map eI) s := by
  show (if (big62 i && big62 j) = true then Re.ok (rangeP i (j - i).toNat) s else .bad) = _
  rw [rangeP_t]
  unfold rngO big62
  by_cases h : -(4611686018427387904) ≤ i ∧ i < 4611686018427387904 ∧ -(4611686018427387904) ≤ j ∧ j < 4611686018427387904
  · rw [if_pos (by simp; omega), if_pos h]; rfl
  · rw [if_neg (by simp; omega), if_neg h]; rfl
def enumT : Nat → List α → List (Int × α)
  | _, [] => []
  | i, x :: xs => ((i : Int), x) :: enumT (i + 1) xs
theorem enumP_t (E : α → PV) : ∀ (i : Nat) (xs : List α), enumP i (xs.map E) = (enumT i xs).map (eP2 eI E)
  | _, [] => rfl
  | i, x :: xs => by
    simp only [List.map_cons, enumP, enumT, enumP_t E (i + 1) xs]
    rfl
theorem zipP_t (E : α → PV) (F : β → PV) : ∀ (xs : List α) (ys : List β), zipP (xs.map E) (ys.map F) = (xs.zip ys).map (eP2 E F)
  | [], _ => by simp [zipP]
  | x :: xs, [] => by simp [zipP]
  | x :: xs, y :: ys => by
    simp only [List.map_cons, zipP, List.zip_cons_cons, zipP_t E F xs ys]
    rfl
/-! ### equality, membership -/
class EqOk (E : α → PV) (n : outParam Nat) [DecidableEq α] where
  D : α → PyData
  h1 : ∀ x, toD (E x) = some (D x)
  h2 : ∀ x, (D x).canLay0 = true
  h3 : ∀ x, (D x).depth ≤ n
  h4 : ∀ x y, PyData.eqv (D x) (D y) = decide (x = y)
instance : EqOk eI 0 := ⟨.int, fun _ => rfl, fun _ => by simp [PyData.canLay0], fun _ => by simp [PyData.depth], fun x y => by
  simp only [PyData.eqv]
  by_cases h : x = y <;> simp [h]⟩
instance : EqOk eB 0 := ⟨.bool, fun _ => rfl, fun _ => by simp [PyData.canLay0], fun _ => by simp [PyData.depth], fun x y => by
  simp only [PyData.eqv]
  cases x <;> cases y <;> rfl⟩
theorem toDs_t {E : α → PV} {D : α → PyData} (h : ∀ x, toD (E x) = some (D x)) : ∀ xs : List α, toDs (xs.map E) = some (xs.map D)
  | [] => rfl
  | x :: xs => by simp [toDs, h x, toDs_t h xs]
theorem lay_t {D : α → PyData} (h : ∀ x, (D x).canLay0 = true) : ∀ xs : List α, PyData.canLayAll0 (xs.map D) = true
  | [] => by simp [PyData.canLayAll0]
  | x :: xs => by simp [PyData.canLayAll0, h x, lay_t h xs]
theorem dep_t {D : α → PyData} {n : Nat} (h : ∀ x, (D x).depth ≤ n) : ∀ xs : List α, PyData.depthAll (xs.map D) ≤ n
  | [] => by simp [PyData.depthAll]
  | x :: xs => by
    have h1 := h x
    have h2 := dep_t h xs
    simp only [List.map_cons, PyData.depthAll]
    omega
theorem eqv_t [DecidableEq α] {D : α → PyData} (h : ∀ x y, PyData.eqv (D x) (D y) = decide (x = y)) : ∀ xs ys : List α, PyData.eqvAll (xs.map D) (ys.map D) = decide (xs = ys)
  | [], [] => by simp [PyData.eqvAll]
  | [], y :: ys => by simp [PyData.eqvAll]
  | x :: xs, [] => by simp [PyData.eqvAll]
  | x :: xs, y :: ys => by
    simp only [List.map_cons, PyData.eqvAll, h x y, eqv_t h xs ys, List.cons.injEq]
    by_cases h : x = y <;> by_cases g : xs = ys <;> simp [h, g]
instance [DecidableEq α] (E : α → PV) (n : Nat) [e : EqOk E n] : EqOk (eL E) (n + 1) := ⟨fun xs => .list (xs.map e.D), fun xs => by simp [eL, toD, toDs_t e.h1], fun xs => by simp [PyData.canLay0, lay_t e.h2], fun xs => by
  have := dep_t e.h3 xs
  simp only [PyData.depth]
  omega, fun xs ys => by simp only [PyData.eqv, eqv_t e.h4]⟩
instance [DecidableEq α] (E : α → PV) (n : Nat) [e : EqOk E n] : EqOk (eU E) (n + 1) := ⟨fun xs => .tuple (xs.map e.D), fun xs => by simp [eU, toD, toDs_t e.h1], fun xs => by simp [PyData.canLay0, lay_t e.h2], fun xs => by
  have := dep_t e.h3 xs
  simp only [PyData.depth]
  omega, fun xs ys => by simp only [PyData.eqv, eqv_t e.h4]⟩
instance [DecidableEq α] [DecidableEq β] (E : α → PV) (F : β → PV) (m n : Nat) [e : EqOk E m] [f : EqOk F n] : EqOk (eP2 E F) (m + n + 1) := ⟨fun p => .tuple [e.D p.1, f.D p.2], fun p => by simp [eP2, toD, toDs, e.h1, f.h1], fun p => by simp [PyData.canLay0, PyData.canLayAll0, e.h2, f.h2], fun p => by
  have h1 := e.h3 p.1
  have h2 := f.h3 p.2
  simp only [PyData.depth, PyData.depthAll]
  omega, fun p q => by
  obtain ⟨a, b⟩ := p
  obtain ⟨c, d⟩ := q
  simp only [PyData.eqv, PyData.eqvAll, e.h4, f.h4, Prod.mk.injEq]
  by_cases h : a = c <;> by_cases g : b = d <;> simp [h, g]⟩
instance [DecidableEq α] [DecidableEq β] [DecidableEq γ] (E : α → PV) (F : β → PV) (G : γ → PV) (m n k : Nat) [e : EqOk E m] [f : EqOk F n] [g : EqOk G k] : EqOk (eP3 E F G) (m + n + k + 1) := ⟨fun p => .tuple [e.D p.1, f.D p.2.1, g.D p.2.2], fun p => by simp [eP3, toD, toDs, e.h1, f.h1, g.h1], fun p => by simp [PyData.canLay0, PyData.canLayAll0, e.h2, f.h2, g.h2], fun p => by
  have h1 := e.h3 p.1
  have h2 := f.h3 p.2.1
  have h3 := g.h3 p.2.2
  simp only [PyData.depth, PyData.depthAll]
  omega, fun p q => by
  obtain ⟨a, b, x⟩ := p
  obtain ⟨c, d, y⟩ := q
  simp only [PyData.eqv, PyData.eqvAll, e.h4, f.h4, g.h4, Prod.mk.injEq]
  by_cases h : a = c <;> by_cases g : b = d <;> by_cases k : x = y <;> simp [h, g, k]⟩
/-- never None -/
class NotNone (E : α → PV) : Prop where
  h : ∀ x, ∃ p : PV, E x = p ∧ (∀ d, toD p = some d → PyData.eqv d .none = false ∧ PyData.eqv .none d = false)
  i : ∀ x, isG false (E x) .non = some (.bl false)
  j : ∀ x, isG true (E x) .non = some (.bl true)
instance : NotNone eI := ⟨fun x => ⟨_, rfl, fun d h => by cases h; simp [PyData.eqv]⟩, fun _ => rfl, fun _ => rfl⟩
instance : NotNone eB := ⟨fun x => ⟨_, rfl, fun d h => by cases h; simp [PyData.eqv]⟩, fun _ => rfl, fun _ => rfl⟩
theorem nn_lst {ps : List PV} {d : PyData} (h : toD (.lst ps) = some d) : PyData.eqv d .none = false ∧ PyData.eqv .none d = false := by
  obtain ⟨ds, _, rfl⟩ := Option.map_eq_some_iff.mp h
  simp [PyData.eqv]
theorem nn_tup {c : Bool} {ps : List PV} {d : PyData} (h : toD (.tup c ps) = some d) : PyData.eqv d .none = false ∧ PyData.eqv .none d = false := by
  obtain ⟨ds, _, rfl⟩ := Option.map_eq_some_iff.mp h
  simp [PyData.eqv]
instance (E : α → PV) : NotNone (eL E) := ⟨fun x => ⟨_, rfl, fun d h => nn_lst h⟩, fun _ => rfl, fun _ => rfl⟩
instance (E : α → PV) : NotNone (eU E) := ⟨fun x => ⟨_, rfl, fun d h => nn_tup h⟩, fun _ => rfl, fun _ => rfl⟩
instance (E : α → PV) (F : β → PV) : NotNone (eP2 E F) := ⟨fun x => ⟨_, rfl, fun d h => nn_tup h⟩, fun _ => rfl, fun _ => rfl⟩
instance (E : α → PV) (F : β → PV) (G : γ → PV) : NotNone (eP3 E F G) := ⟨fun x => ⟨_, rfl, fun d h => nn_tup h⟩, fun _ => rfl, fun _ => rfl⟩
instance [DecidableEq α] (E : α → PV) (n : Nat) [e : EqOk E n] [k : NotNone E] : EqOk (eO E) n := ⟨fun o => match o with
    | none => .none
    | some x => e.D x, fun o => by cases o with
      | none => rfl
      | some x => exact e.h1 x, fun o => by cases o with
      | none => simp [PyData.canLay0]
      | some x => exact e.h2 x, fun o => by cases o with
      | none => simp [PyData.depth]
      | some x => exact e.h3 x, fun o p => by
      have nn : ∀ x, PyData.eqv (e.D x) .none = false ∧ PyData.eqv .none (e.D x) = false := fun x => by
        obtain ⟨q, h1, h2⟩ := k.h x
        exact h2 _ (h1 ▸ e.h1 x)
      cases o with
      | none => cases p with
        | none => simp [PyData.eqv]
        | some y => simp [(nn y).2]
      | some x => cases p with
        | none => simp [(nn x).1]
        | some y => simp [e.h4]⟩
theorem okD_t [DecidableEq α] (E : α → PV) {n : Nat} [e : EqOk E n] (hn : n ≤ 62) (x : α) : okD (E x) = true := by
  have := e.h3 x
  simp [okD, e.h1, SeqAt.shaped, e.h2]
  omega
theorem eq_t0 [DecidableEq α] (b : Bool) (E : α → PV) {n : Nat} [e : EqOk E n] (x y : α) (hn : n ≤ 62) : eqG b (E x) (E y) = some (.bl (b != decide (x = y))) := by
  unfold eqG
  rw [okD_t E hn, okD_t E hn]
  have : eqD (E x) (E y) = decide (x = y) := by
    unfold eqD
    rw [e.h1, e.h1]
    exact e.h4 x y
  rw [this]
  rfl
theorem eq_t [DecidableEq α] (b : Bool) (E : α → PV) {n : Nat} [e : EqOk E n] (x y : α) (hn : n ≤ 62) {i : Decidable (x = y)} : eqG b (E x) (E y) = some (.bl (b != @decide (x = y) i)) := by
  rw [eq_t0 b E x y hn]
  congr
theorem eq_I (b : Bool) (x y : Int) : eqG b (.int x) (.int y) = some (.bl (b != decide (x = y))) := eq_t b eI x y (by decide)
theorem eq_B (b : Bool) (x y : Bool) : eqG b (.bl x) (.bl y) = some (.bl (b != decide (x = y))) := eq_t b eB x y (by decide)
theorem eq_L [DecidableEq α] (b : Bool) (E : α → PV) {n : Nat} [e : EqOk E n] (xs ys : List α) (hn : n ≤ 60) : eqG b (.lst (xs.map E)) (.lst (ys.map E)) = some (.bl (b != decide (xs = ys))) := eq_t b (eL E) xs ys (by omega)
theorem eq_U [DecidableEq α] (b : Bool) (E : α → PV) {n : Nat} [e : EqOk E n] (xs ys : List α) (hn : n ≤ 60) : eqG b (.tup false (xs.map E)) (.tup false (ys.map E)) = some (.bl (b != decide (xs = ys))) := eq_t b (eU E) xs ys (by omega)
theorem mem_any [DecidableEq α] {D : α → PyData} (h : ∀ x y, PyData.eqv (D x) (D y) = decide (x = y)) (x : α) (xs : List α) : ((xs.map D).any fun z => PyData.eqv z (D x)) = decide (x ∈ xs) := by
  induction xs with
  | nil => simp
  | cons y xs ih =>
    simp only [List.map_cons, List.any_cons, ih, h, List.mem_cons]
    by_cases g : y = x
    · simp [g]
    · simp [g, Ne.symm g]
theorem memD_t [DecidableEq α] (E : α → PV) {n : Nat} [e : EqOk E n] (x : α) (xs : List α) (hn : n ≤ 62) : memD (E x) (xs.map E) = some (decide (x ∈ xs)) := by
  have h1 := e.h3 x
  have h2 := dep_t e.h3 xs
  have h3 := lay_t e.h2 xs
  unfold memD
  rw [e.h1, toDs_t e.h1]
  have g1 : SeqAt.shaped (e.D x) = true := by simp only [SeqAt.shaped, e.h2, Bool.true_and, decide_eq_true_eq]; omega
  have g2 : SeqAt.shaped (.list (xs.map e.D)) = true := by
    have : (PyData.list (xs.map e.D)).depth ≤ 64 := by simp only [PyData.depth]; omega
    simp [SeqAt.shaped, PyData.canLay0, h3, this]
  have g3 : SeqAt.shaped (.tuple (xs.map e.D)) = true := by
    have : (PyData.tuple (xs.map e.D)).depth ≤ 64 := by simp only [PyData.depth]; omega
    simp [SeqAt.shaped, PyData.canLay0, h3, this]
  show (if (SeqAt.shaped (e.D x) && SeqAt.shaped (.list (xs.map e.D)) && SeqAt.shaped (.tuple (xs.map e.D))) = true then _ else _) = _
  rw [g1, g2, g3, mem_any e.h4]
  rfl
theorem in_L0 [DecidableEq α] (b : Bool) (E : α → PV) {n : Nat} [e : EqOk E n] (x : α) (xs : List α) (hn : n ≤ 62) : inG b (E x) (.lst (xs.map E)) = some (.bl (b != decide (x ∈ xs))) := by
  show (memD (E x) (xs.map E)).map _ = _
  rw [memD_t E x xs hn]
  rfl
theorem in_U0 [DecidableEq α] (b : Bool) (E : α → PV) {n : Nat} [e : EqOk E n] (x : α) (xs : List α) (hn : n ≤ 62) : inG b (E x) (.tup false (xs.map E)) = some (.bl (b != decide (x ∈ xs))) := by
  show (memD (E x) (xs.map E)).map _ = _
  rw [memD_t E x xs hn]
  rfl
theorem in_L [DecidableEq α] (b : Bool) (E : α → PV) {n : Nat} [e : EqOk E n] (x : α) (xs : List α) (hn : n ≤ 62) {i : Decidable (x ∈ xs)} : inG b (E x) (.lst (xs.map E)) = some (.bl (b != @decide (x ∈ xs) i)) := by
  rw [in_L0 b E x xs hn]
  congr
theorem in_U [DecidableEq α] (b : Bool) (E : α → PV) {n : Nat} [e : EqOk E n] (x : α) (xs : List α) (hn : n ≤ 62) {i : Decidable (x ∈ xs)} : inG b (E x) (.tup false (xs.map E)) = some (.bl (b != @decide (x ∈ xs) i)) := by
  rw [in_U0 b E x xs hn]
  congr
theorem in_LI (b : Bool) (x : Int) (xs : List Int) : inG b (.int x) (.lst (xs.map eI)) = some (.bl (b != decide (x ∈ xs))) := in_L b eI x xs (by decide)
theorem in_UI (b : Bool) (x : Int) (xs : List Int) : inG b (.int x) (.tup false (xs.map eI)) = some (.bl (b != decide (x ∈ xs))) := in_U b eI x xs (by decide)
/-! ### tests told -/
theorem ite_inv {c : Prop} [Decidable c] {a b v : α} (h : (if c then a else b) = v) : (c ∧ a = v) ∨ (¬ c ∧ b = v) := by
  by_cases k : c
  · exact .inl ⟨k, by rwa [if_pos k] at h⟩
  · exact .inr ⟨k, by rwa [if_neg k] at h⟩
theorem iteB_inv {c : Bool} {a b v : α} (h : (if c = true then a else b) = v) : (c = true ∧ a = v) ∨ (c = false ∧ b = v) := by
  cases c
  · exact .inr ⟨rfl, h⟩
  · exact .inl ⟨rfl, h⟩
def optM (o : Option α) (a : β) (f : α → β) : β := match o with
  | none => a
  | some x => f x
theorem optM_inv {o : Option α} {a : β} {f : α → β} {v : β} (h : optM o a f = v) : (o = none ∧ a = v) ∨ ∃ x, o = some x ∧ f x = v := by
  cases o with
  | none => exact .inl ⟨rfl, h⟩
  | some x => exact .inr ⟨x, rfl, h⟩
def sumM (o : α ⊕ β) (f : α → γ) (g : β → γ) : γ := match o with
  | .inl a => f a
  | .inr b => g b
theorem sumM_inv {o : α ⊕ β} {f : α → γ} {g : β → γ} {v : γ} (h : sumM o f g = v) : (∃ a, o = .inl a ∧ f a = v) ∨ ∃ b, o = .inr b ∧ g b = v := by
  cases o with
  | inl a => exact .inl ⟨a, rfl, h⟩
  | inr b => exact .inr ⟨b, rfl, h⟩
/-! ### None -/
theorem isO_f (E : α → PV) [k : NotNone E] (o : Option α) : isG false (eO E o) .non = some (.bl o.isNone) := by
  cases o with
  | none => rfl
  | some x => exact k.i x
theorem isO_t (E : α → PV) [k : NotNone E] (o : Option α) : isG true (eO E o) .non = some (.bl o.isSome) := by
  cases o with
  | none => rfl
  | some x => exact k.j x
theorem is_non (b : Bool) : isG b .non .non = some (.bl (!b)) := (rfl)
theorem is_int (b : Bool) (i : Int) : isG b (.int i) .non = some (.bl b) := (rfl)
theorem is_tup (b c : Bool) (l : List PV) : isG b (.tup c l) .non = some (.bl b) := (rfl)
theorem is_lst (b : Bool) (l : List PV) : isG b (.lst l) .non = some (.bl b) := (rfl)
theorem is_str (b : Bool) (x : Str) : isG b (.str x) .non = some (.bl b) := (rfl)
theorem is_bl0 (b c : Bool) : isG b (.bl c) .non = some (.bl b) := (rfl)
theorem is_bl (b c d : Bool) : isG b (.bl c) (.bl d) = some (.bl (b != decide (c = d))) := (rfl)
/-! ### dicts -/
def dlook [DecidableEq α] (d : List (α × β)) (k : α) : Option β := match d with
  | [] => none
  | p :: r => if p.1 = k then some p.2 else dlook r k
def dch [DecidableEq α] (d : List (α × β)) (k : α) (v : β) : List (α × β) := match d with
  | [] => []
  | p :: r => (if p.1 = k then (p.1, v) else p) :: dch r k v
def dput [DecidableEq α] (d : List (α × β)) (k : α) (v : β) : List (α × β) := if (dlook d k).isSome = true then dch d k v else d ++ [(k, v)]
def dputO [DecidableEq α] (d : List (α × β)) (k : α) (v : β) : Option (List (α × β)) := if d.length < sizeLine then some (dput d k v) else none
theorem look_t {κ : Type} [DecidableEq κ] [DecidableEq α] {ke : α → κ} (hk : ∀ x y, ke x = ke y → x = y) (F : β → PV) (d : List (α × β)) (k : α) : atP (d.map fun p => (ke p.1, F p.2)) (ke k) = (dlook d k).map F := by
  induction d with
  | nil => rfl
  | cons p r ih =>
    simp only [List.map_cons, atP, dlook, ih]
    by_cases h : p.1 = k
    · rw [if_pos (by rw [h]), if_pos h]; rfl
    · rw [if_neg (fun z => h (hk _ _ z)), if_neg h]
theorem ch_t {κ : Type} [DecidableEq κ] [DecidableEq α] {ke : α → κ} (hk : ∀ x y, ke x = ke y → x = y) (F : β → PV) (d : List (α × β)) (k : α) (v : β) : chP (d.map fun p => (ke p.1, F p.2)) (ke k) (F v) = (dch d k v).map fun p => (ke p.1, F p.2) := by
  induction d with
  | nil => rfl
  | cons p r ih =>
    simp only [List.map_cons, chP, dch, ih]
    by_cases h : p.1 = k
    · rw [if_pos (by rw [h]), if_pos h]
    · rw [if_neg (fun z => h (hk _ _ z)), if_neg h]
theorem put_t {κ : Type} [DecidableEq κ] [DecidableEq α] {ke : α → κ} (hk : ∀ x y, ke x = ke y → x = y) (F : β → PV) (d : List (α × β)) (k : α) (v : β) : putP (d.map fun p => (ke p.1, F p.2)) (ke k) (F v) = (dput d k v).map fun p => (ke p.1, F p.2) := by
  unfold putP dput
  rw [look_t hk]
  cases h : dlook d k with
  | none => simp
  | some w => simp [ch_t hk]
def kI (i : Int) : L2.Key := Sum.inl i
def kS (x : Str) : L2.Key := Sum.inr x
def k2 (p : Int × Int) : List L2.Key := [Sum.inl p.1, Sum.inl p.2]
def k3 (p : Int × Int × Int) : List L2.Key := [Sum.inl p.1, Sum.inl p.2.1, Sum.inl p.2.2]
def kU (l : List Int) : List L2.Key := l.map Sum.inl
theorem kI_inj (x y : Int) (h : kI x = kI y) : x = y := by cases h; rfl
theorem kS_inj (x y : Str) (h : kS x = kS y) : x = y := by cases h; rfl
theorem k2_inj (x y : Int × Int) (h : k2 x = k2 y) : x = y := by
  simp only [k2, List.cons.injEq, Sum.inl.injEq, and_true] at h
  exact Prod.ext h.1 h.2
theorem k3_inj (x y : Int × Int × Int) (h : k3 x = k3 y) : x = y := by
  simp only [k3, List.cons.injEq, Sum.inl.injEq, and_true] at h
  exact Prod.ext h.1 (Prod.ext h.2.1 h.2.2)
theorem kU_inj : ∀ (x y : List Int), kU x = kU y → x = y
  | [], [], _ => rfl
  | [], _ :: _, h => by simp [kU] at h
  | _ :: _, [], h => by simp [kU] at h
  | a :: x, b :: y, h => by
    simp only [kU, List.map_cons, List.cons.injEq, Sum.inl.injEq] at h
    rw [h.1, kU_inj x y h.2]
theorem keysP_U : ∀ l : List Int, keysP (l.map eI) = some (kU l)
  | [] => rfl
  | a :: l => by simp [keysP, keyP, eI, keysP_U l, kU]
def eDI (F : β → PV) (d : List (Int × β)) : PV := .dK (d.map fun p => (kI p.1, F p.2))
def eDS (F : β → PV) (d : List (Str × β)) : PV := .dK (d.map fun p => (kS p.1, F p.2))
def eD2 (F : β → PV) (d : List ((Int × Int) × β)) : PV := .dT (d.map fun p => (k2 p.1, F p.2))
def eD3 (F : β → PV) (d : List ((Int × Int × Int) × β)) : PV := .dT (d.map fun p => (k3 p.1, F p.2))
def eDU (F : β → PV) (d : List (List Int × β)) : PV := .dT (d.map fun p => (kU p.1, F p.2))
theorem lookDI (F : β → PV) (d : List (Int × β)) (k : Int) : lookD (eDI F d) (.int k) = some ((dlook d k).map F) := by
  show some (atP _ (kI k)) = _
  rw [look_t kI_inj]
theorem lookDS (F : β → PV) (d : List (Str × β)) (k : Str) : lookD (eDS F d) (.str k) = some ((dlook d k).map F) := by
  show some (atP _ (kS k)) = _
  rw [look_t kS_inj]
theorem lookD2 (F : β → PV) (d : List ((Int × Int) × β)) (c : Bool) (a b : Int) : lookD (eD2 F d) (.tup c [.int a, .int b]) = some ((dlook d (a, b)).map F) := by
  show some (atP _ (k2 (a, b))) = _
  rw [look_t k2_inj]
theorem lookD3 (F : β → PV) (d : List ((Int × Int × Int) × β)) (c : Bool) (a b x : Int) : lookD (eD3 F d) (.tup c [.int a, .int b, .int x]) = some ((dlook d (a, b, x)).map F) := by
  show some (atP _ (k3 (a, b, x))) = _
  rw [look_t k3_inj]
theorem lookDU (F : β → PV) (d : List (List Int × β)) (c : Bool) (k : List Int) : lookD (eDU F d) (.tup c (k.map eI)) = some ((dlook d k).map F) := by
  show (keysP (k.map eI)).map (fun ks => atP _ ks) = _
  rw [keysP_U]
  show some (atP _ (kU k)) = _
  rw [look_t kU_inj]
theorem bind_id {o : Option PV} : (some o).bind id = o := rfl
theorem ixDI (F : β → PV) (d : List (Int × β)) (k : Int) : ixG (eDI F d) (.int k) = (dlook d k).map F := by
  show Option.bind (lookD (eDI F d) (.int k)) id = _
  rw [lookDI, bind_id]
theorem ixDS (F : β → PV) (d : List (Str × β)) (k : Str) : ixG (eDS F d) (.str k) = (dlook d k).map F := by
  show Option.bind (lookD (eDS F d) (.str k)) id = _
  rw [lookDS, bind_id]
theorem ixD2 (F : β → PV) (d : List ((Int × Int) × β)) (c : Bool) (a b : Int) : ixG (eD2 F d) (.tup c [.int a, .int b]) = (dlook d (a, b)).map F := by
  show Option.bind (lookD (eD2 F d) (.tup c [.int a, .int b])) id = _
  rw [lookD2, bind_id]
theorem ixD3 (F : β → PV) (d : List ((Int × Int × Int) × β)) (c : Bool) (a b x : Int) : ixG (eD3 F d) (.tup c [.int a, .int b, .int x]) = (dlook d (a, b, x)).map F := by
  show Option.bind (lookD (eD3 F d) (.tup c [.int a, .int b, .int x])) id = _
  rw [lookD3, bind_id]
theorem ixDU (F : β → PV) (d : List (List Int × β)) (c : Bool) (k : List Int) : ixG (eDU F d) (.tup c (k.map eI)) = (dlook d k).map F := by
  show Option.bind (lookD (eDU F d) (.tup c (k.map eI))) id = _
  rw [lookDU, bind_id]
theorem isSome_map' (o : Option β) (F : β → PV) : (o.map F).isSome = o.isSome := by cases o <;> rfl
theorem inDI (b : Bool) (F : β → PV) (d : List (Int × β)) (k : Int) : inG b (.int k) (eDI F d) = some (.bl (b != (dlook d k).isSome)) := by
  show Option.map (fun o => PV.bl (b != o.isSome)) (lookD (eDI F d) (.int k)) = _
  rw [lookDI, Option.map_some, isSome_map']
theorem inDS (b : Bool) (F : β → PV) (d : List (Str × β)) (k : Str) : inG b (.str k) (eDS F d) = some (.bl (b != (dlook d k).isSome)) := by
  show Option.map (fun o => PV.bl (b != o.isSome)) (lookD (eDS F d) (.str k)) = _
  rw [lookDS, Option.map_some, isSome_map']
theorem inD2 (n : Bool) (F : β → PV) (d : List ((Int × Int) × β)) (c : Bool) (a b : Int) : inG n (.tup c [.int a, .int b]) (eD2 F d) = some (.bl (n != (dlook d (a, b)).isSome)) := by
  show Option.map (fun o => PV.bl (n != o.isSome)) (lookD (eD2 F d) (.tup c [.int a, .int b])) = _
  rw [lookD2, Option.map_some, isSome_map']
theorem inD3 (n : Bool) (F : β → PV) (d : List ((Int × Int × Int) × β)) (c : Bool) (a b x : Int) : inG n (.tup c [.int a, .int b, .int x]) (eD3 F d) = some (.bl (n != (dlook d (a, b, x)).isSome)) := by
  show Option.map (fun o => PV.bl (n != o.isSome)) (lookD (eD3 F d) (.tup c [.int a, .int b, .int x])) = _
  rw [lookD3, Option.map_some, isSome_map']
theorem inDU (n : Bool) (F : β → PV) (d : List (List Int × β)) (c : Bool) (k : List Int) : inG n (.tup c (k.map eI)) (eDU F d) = some (.bl (n != (dlook d k).isSome)) := by
  show Option.map (fun o => PV.bl (n != o.isSome)) (lookD (eDU F d) (.tup c (k.map eI))) = _
  rw [lookDU, Option.map_some, isSome_map']
theorem setDI (F : β → PV) (d : List (Int × β)) (k : Int) (v : β) : setU (.int k) (F v) (eDI F d) = (dputO d k v).map fun z => (eDI F z, .non) := by
  show (if _ then some (PV.dK (putP _ (kI k) (F v)), PV.non) else none) = _
  rw [put_t kI_inj, List.length_map]
  unfold dputO
  split <;> rfl
theorem setDS (F : β → PV) (d : List (Str × β)) (k : Str) (v : β) : setU (.str k) (F v) (eDS F d) = (dputO d k v).map fun z => (eDS F z, .non) := by
  show (if _ then some (PV.dK (putP _ (kS k) (F v)), PV.non) else none) = _
  rw [put_t kS_inj, List.length_map]
  unfold dputO
  split <;> rfl
theorem setD2 (F : β → PV) (d : List ((Int × Int) × β)) (a b : Int) (v : β) : setU (.tup false [.int a, .int b]) (F v) (eD2 F d) = (dputO d (a, b) v).map fun z => (eD2 F z, .non) := by
  show (if _ then some (PV.dT (putP _ (k2 (a, b)) (F v)), PV.non) else none) = _
  rw [put_t k2_inj, List.length_map]
  unfold dputO
  split <;> rfl
theorem setD3 (F : β → PV) (d : List ((Int × Int × Int) × β)) (a b c : Int) (v : β) : setU (.tup false [.int a, .int b, .int c]) (F v) (eD3 F d) = (dputO d (a, b, c) v).map fun z => (eD3 F z, .non) := by
  show (if _ then some (PV.dT (putP _ (k3 (a, b, c)) (F v)), PV.non) else none) = _
  rw [put_t k3_inj, List.length_map]
  unfold dputO
  split <;> rfl
theorem setDU (F : β → PV) (d : List (List Int × β)) (k : List Int) (v : β) : setU (.tup false (k.map eI)) (F v) (eDU F d) = (dputO d k v).map fun z => (eDU F z, .non) := by
  show (if (d.map _).length < sizeLine then (keysP (k.map eI)).map (fun ks => (PV.dT (putP _ ks (F v)), PV.non)) else none) = _
  rw [keysP_U, List.length_map]
  simp only [Option.map_some, put_t kU_inj]
  unfold dputO
  split <;> rfl
theorem kNc_DI (F : β → PV) (d : List (Int × β)) (s : DS) : kNc (eDI F d) s = .ok (eDI F d) s := (rfl)
theorem kNc_DS (F : β → PV) (d : List (Str × β)) (s : DS) : kNc (eDS F d) s = .ok (eDS F d) s := (rfl)
theorem kNc_D2 (F : β → PV) (d : List ((Int × Int) × β)) (s : DS) : kNc (eD2 F d) s = .ok (eD2 F d) s := (rfl)
theorem kNc_D3 (F : β → PV) (d : List ((Int × Int × Int) × β)) (s : DS) : kNc (eD3 F d) s = .ok (eD3 F d) s := (rfl)
theorem kNc_DU (F : β → PV) (d : List (List Int × β)) (s : DS) : kNc (eDU F d) s = .ok (eDU F d) s := (rfl)
theorem len_dK (l : List (L2.Key × PV)) : lenA (.dK l) = some (.int l.length) := rfl
theorem len_dT (l : List (List L2.Key × PV)) : lenA (.dT l) = some (.int l.length) := rfl
theorem lenDI (F : β → PV) (d : List (Int × β)) : lenA (eDI F d) = some (.int d.length) := by unfold eDI; rw [len_dK, List.length_map]
theorem lenDS (F : β → PV) (d : List (Str × β)) : lenA (eDS F d) = some (.int d.length) := by unfold eDS; rw [len_dK, List.length_map]
theorem lenD2 (F : β → PV) (d : List ((Int × Int) × β)) : lenA (eD2 F d) = some (.int d.length) := by unfold eD2; rw [len_dT, List.length_map]
theorem lenD3 (F : β → PV) (d : List ((Int × Int × Int) × β)) : lenA (eD3 F d) = some (.int d.length) := by unfold eD3; rw [len_dT, List.length_map]
theorem lenDU (F : β → PV) (d : List (List Int × β)) : lenA (eDU F d) = some (.int d.length) := by unfold eDU; rw [len_dT, List.length_map]
theorem newDI (F : β → PV) : PV.dK [] = eDI F [] := rfl
theorem newDS (F : β → PV) : PV.dK [] = eDS F [] := rfl
theorem newD2 (F : β → PV) : PV.dT [] = eD2 F [] := rfl
theorem newD3 (F : β → PV) : PV.dT [] = eD3 F [] := rfl
theorem newDU (F : β → PV) : PV.dT [] = eDU F [] := rfl
end
end TM
/-! typed mirrors: extend, pop, sorted, repr, enumerate, dict comprehensions. -/
namespace DR
theorem revA_L {α : Type} (E : α → PV) (xs : List α) : revA (.lst (xs.map E)) = some (.lst (xs.reverse.map E), true) := by
  show some (PV.lst _, true) = _
  rw [List.map_reverse]
theorem revA_U {α : Type} (c : Bool) (E : α → PV) (xs : List α) : revA (.tup c (xs.map E)) = some (.tup false (xs.reverse.map E), false) := by
  show some (PV.tup false _, false) = _
  rw [List.map_reverse]
section
variable {s s2 : DS} {i : Nat} {f g : EM} {p q : PV} {ps qs : List PV} {b : Bool}
def kEx2 (i : Nat) (q : PV) (s : DS) : Re PV := modB i (extU q) s
def kEx (i : Nat) (f : EM) (s : DS) (p : PV) (_ : DS) : Re PV := if tyN p = some "list" then (f s).bind (kEx2 i) else .bad
theorem extE_ap : extE i f s = (nameB i s).bind (kEx i f s) := (rfl)
theorem kEx_ap : kEx i f s (.lst ps) s2 = (f s).bind (kEx2 i) := by simp [kEx, tyN]
theorem kEx2_ap : kEx2 i q s = kMod i (extU q) s.e[i]? s := modB_ap
def kPp (i : Nat) (s : DS) (p : PV) (_ : DS) : Re PV := if tyN p = some "list" then modB i popU s else .bad
theorem popE_ap : popE i s = (nameB i s).bind (kPp i s) := (rfl)
theorem kPp_ap : kPp i s (.lst ps) s2 = kMod i popU s.e[i]? s := by
  have : kPp i s (.lst ps) s2 = modB i popU s := by simp [kPp, tyN]
  rw [this, modB_ap]
def kEnA (p : PV) (s : DS) : Re (List PV) := match p with
  | .lst ps => .ok (enumP 0 ps) s
  | .tup _ ps => .ok (enumP 0 ps) s
  | _ => .bad
theorem enumAI_ap : enumAI f s = (f s).bind kEnA := (rfl)
theorem kEnA_l : kEnA (.lst ps) s = .ok (enumP 0 ps) s := (rfl)
theorem kEnA_t : kEnA (.tup b ps) s = .ok (enumP 0 ps) s := (rfl)
def kZi2 (p q : PV) (s : DS) : Re (List PV) := match p, q with
  | .lst ps, .lst qs => .ok (zipP ps qs) s
  | .tup _ ps, .tup _ qs => .ok (zipP ps qs) s
  | _, _ => .bad
def kZi (g : EM) (p : PV) (s : DS) : Re (List PV) := (g s).bind (kZi2 p)
theorem zipI_ap : zipI f g s = (f s).bind (kZi g) := (rfl)
theorem kZi_ap : kZi g p s = (g s).bind (kZi2 p) := (rfl)
theorem kZi2_l : kZi2 (.lst ps) (.lst qs) s = .ok (zipP ps qs) s := (rfl)
theorem kZi2_t {c : Bool} : kZi2 (.tup b ps) (.tup c qs) s = .ok (zipP ps qs) s := (rfl)
theorem reprG_b : reprG (.bl b) = some (.str (if b = true then "True" else "False")) := (rfl)
end
end DR
namespace TM
open PySem DR
section
variable {α β γ δ σ κ : Type}
/-! extend, pop -/
theorem extU_L (E : α → PV) (xs ys : List α) : extU (.lst (ys.map E)) (.lst (xs.map E)) = (appO xs ys).map fun z => (.lst (z.map E), .non) := by
  show (if decide ((xs.map E).length + (ys.map E).length ≤ sizeLine) = true then some (PV.lst (xs.map E ++ ys.map E), PV.non) else none) = _
  rw [List.length_map, List.length_map]
  unfold appO
  by_cases h : xs.length + ys.length ≤ sizeLine
  · rw [if_pos h, if_pos (decide_eq_true h), ← List.map_append]; rfl
  · rw [if_neg h, if_neg (fun g => h (of_decide_eq_true g))]; rfl
def popT (xs : List α) : Option (List α × α) := (xs[xs.length - 1]?).map fun x => (xs.dropLast, x)
theorem popU_L (E : α → PV) (xs : List α) : popU (.lst (xs.map E)) = (popT xs).map fun z => (.lst (z.1.map E), E z.2) := by
  show ((xs.map E)[(xs.map E).length - 1]?).map (fun q => (PV.lst (xs.map E).dropLast, q)) = _
  unfold popT
  rw [List.length_map, List.getElem?_map, ← List.map_dropLast]
  cases xs[xs.length - 1]? <;> rfl
/-! repr of truth values -/
theorem repr_eq (b : Bool) (x y : Bool) [i : Decidable (x = y)] : eqG b (.str (if x = true then "True" else "False")) (.str (if y = true then "True" else "False")) = some (.bl (b != @decide (x = y) i)) := by
  have k : ∀ b x y : Bool, eqG b (.str (if x = true then "True" else "False")) (.str (if y = true then "True" else "False")) = some (.bl (b != decide (x = y))) := by
    intro b x y
    clear i
    have h1 : okD (.str (Str.ofString "True")) = true := by
      simp only [okD, toD, SeqAt.shaped, PyData.canLay0, PyData.depth]
      decide +kernel
    have h2 : okD (.str (Str.ofString "False")) = true := by
      simp only [okD, toD, SeqAt.shaped, PyData.canLay0, PyData.depth]
      decide +kernel
    have e : ∀ a b : Str, eqD (.str a) (.str b) = (a == b) := fun a b => by simp only [eqD, toD, PyData.eqv]
    have t1 : (Str.ofString "True" == Str.ofString "True") = true := by decide +kernel
    have t2 : (Str.ofString "True" == Str.ofString "False") = false := by decide +kernel
    have t3 : (Str.ofString "False" == Str.ofString "True") = false := by decide +kernel
    have t4 : (Str.ofString "False" == Str.ofString "False") = true := by decide +kernel
    unfold eqG
    cases x <;> cases y <;> cases b <;> simp only [h1, h2, e, if_true, Bool.false_eq_true, if_false, Bool.and_self, t1, t2, t3, t4] <;> rfl
  rw [k]
  congr
/-! ### sorted -/
class OrdOk (E : α → PV) (n : outParam Nat) where
  D : α → PyData
  h1 : ∀ x, toD (E x) = some (D x)
  h2 : ∀ x, (D x).depth ≤ n
  h3 : ∀ x y, PySem.W.alike (D x) (D y) = true
instance : OrdOk eI 0 := ⟨.int, fun _ => rfl, fun _ => by simp [PyData.depth], fun _ _ => by simp [PySem.W.alike]⟩
instance : OrdOk eB 0 := ⟨.bool, fun _ => rfl, fun _ => by simp [PyData.depth], fun _ _ => by simp [PySem.W.alike]⟩
instance : OrdOk eS 0 := ⟨.str, fun _ => rfl, fun _ => by simp [PyData.depth], fun _ _ => by simp [PySem.W.alike]⟩
theorem alike_t {D : α → PyData} (h : ∀ x y, PySem.W.alike (D x) (D y) = true) : ∀ xs ys : List α, PySem.W.alikeAll (xs.map D) (ys.map D) = true
  | [], _ => by simp [PySem.W.alikeAll]
  | _ :: _, [] => by simp [PySem.W.alikeAll]
  | x :: xs, y :: ys => by simp [PySem.W.alikeAll, h x y, alike_t h xs ys]
instance (E : α → PV) (n : Nat) [e : OrdOk E n] : OrdOk (eL E) (n + 1) := ⟨fun xs => .list (xs.map e.D), fun xs => by simp [eL, toD, toDs_t e.h1], fun xs => by
  have := dep_t e.h2 xs
  simp only [PyData.depth]
  omega, fun xs ys => by simp [PySem.W.alike, alike_t e.h3]⟩
instance (E : α → PV) (n : Nat) [e : OrdOk E n] : OrdOk (eU E) (n + 1) := ⟨fun xs => .tuple (xs.map e.D), fun xs => by simp [eU, toD, toDs_t e.h1], fun xs => by
  have := dep_t e.h2 xs
  simp only [PyData.depth]
  omega, fun xs ys => by simp [PySem.W.alike, alike_t e.h3]⟩
instance (E : α → PV) (F : β → PV) (m n : Nat) [e : OrdOk E m] [f : OrdOk F n] : OrdOk (eP2 E F) (m + n + 1) := ⟨fun p => .tuple [e.D p.1, f.D p.2], fun p => by simp [eP2, toD, toDs, e.h1, f.h1], fun p => by
  have h1 := e.h2 p.1
  have h2 := f.h2 p.2
  simp only [PyData.depth, PyData.depthAll]
  omega, fun p q => by simp [PySem.W.alike, PySem.W.alikeAll, e.h3, f.h3]⟩
instance (E : α → PV) (F : β → PV) (G : γ → PV) (m n k : Nat) [e : OrdOk E m] [f : OrdOk F n] [g : OrdOk G k] : OrdOk (eP3 E F G) (m + n + k + 1) := ⟨fun p => .tuple [e.D p.1, f.D p.2.1, g.D p.2.2], fun p => by simp [eP3, toD, toDs, e.h1, f.h1, g.h1], fun p => by
  have h1 := e.h2 p.1
  have h2 := f.h2 p.2.1
  have h3 := g.h2 p.2.2
  simp only [PyData.depth, PyData.depthAll]
  omega, fun p q => by simp [PySem.W.alike, PySem.W.alikeAll, e.h3, f.h3, g.h3]⟩
instance (E : α → PV) (F : β → PV) (G : γ → PV) (J : δ → PV) (m n k l : Nat) [e : OrdOk E m] [f : OrdOk F n] [g : OrdOk G k] [j : OrdOk J l] : OrdOk (eP4 E F G J) (m + n + k + l + 1) := ⟨fun p => .tuple [e.D p.1, f.D p.2.1, g.D p.2.2.1, j.D p.2.2.2], fun p => by simp [eP4, toD, toDs, e.h1, f.h1, g.h1, j.h1], fun p => by
  have h1 := e.h2 p.1
  have h2 := f.h2 p.2.1
  have h3 := g.h2 p.2.2.1
  have h4 := j.h2 p.2.2.2
  simp only [PyData.depth, PyData.depthAll]
  omega, fun p q => by simp [PySem.W.alike, PySem.W.alikeAll, e.h3, f.h3, g.h3, j.h3]⟩
/-- what may be sorted: all tuples that are not empty, or no tuple, no None -/
def srtOk (D : α → PyData) (xs : List α) : Bool := xs.all (fun x => tupD (D x)) || xs.all (fun x => othD (D x))
def leT (E : α → PV) {n : Nat} [e : OrdOk E n] (x y : α) : Bool := PySem.W.dataLe false e.D x y
def srtO (E : α → PV) {n : Nat} [e : OrdOk E n] (xs : List α) : Option (List α) := if srtOk e.D xs = true then some (xs.mergeSort (leT E)) else none
theorem sortG_t (E : α → PV) {n : Nat} [e : OrdOk E n] (xs : List α) (hn : n ≤ 62) : sortG (.lst (xs.map E)) = (srtO E xs).map fun z => (.lst (z.map E), true) := by
  have dat : ∀ x, datP (E x) = e.D x := fun x => by unfold datP; rw [e.h1]; rfl
  have ok : okSort (xs.map E) = srtOk e.D xs := by
    unfold okSort srtOk
    have a1 : ((xs.map E).all fun p => (toD p).isSome && decide ((datP p).depth ≤ 62)) = true := List.all_eq_true.mpr fun p hp => by
      obtain ⟨x, _, rfl⟩ := List.mem_map.mp hp
      have := e.h2 x
      rw [e.h1, dat, Option.isSome_some, Bool.true_and]
      exact decide_eq_true (by omega)
    have a2 : ((xs.map E).all fun p => (xs.map E).all fun q => PySem.W.alike (datP p) (datP q)) = true := List.all_eq_true.mpr fun p hp => List.all_eq_true.mpr fun q hq => by
      obtain ⟨x, _, rfl⟩ := List.mem_map.mp hp
      obtain ⟨y, _, rfl⟩ := List.mem_map.mp hq
      rw [dat, dat, e.h3]
    rw [a1, a2, List.all_map, List.all_map]
    simp only [Function.comp_def, dat, Bool.true_and]
  show (if okSort (xs.map E) = true then some (PV.lst ((xs.map E).mergeSort leP), true) else none) = _
  rw [ok]
  unfold srtO
  split
  · rw [Option.map_some]
    congr 3
    exact (List.map_mergeSort (r := leT E) (s := leP) (f := E) fun a _ b _ => by
      show (!PySem.W.dataLt (e.D b) (e.D a)) = !PySem.W.dataLt (datP (E b)) (datP (E a))
      rw [dat, dat]).symm
  · rfl
/-! ### dict comprehensions -/
def dfold [DecidableEq κ] (f : α → Option (Option (κ × β))) : List α → List (κ × β) → Option (List (κ × β))
  | [], d => some d
  | x :: xs, d => (f x).bind fun o => match o with
    | none => dfold f xs d
    | some q => (dputO d q.1 q.2).bind fun d1 => dfold f xs d1
def PairOk (tt : DR.TM) (fk fv : EM) (vs : List Nat) (e0 : DE) (t : DT) (G : κ → PV) (F : β → PV) (d : DS) (o : Option (κ × β)) : Prop := match o with
  | none => ∃ d2, tt d = .ok false d2 ∧ wipeE vs d2.e = e0 ∧ d2.t = t
  | some q => ∃ d1 d2 d3, tt d = .ok true d1 ∧ fk d1 = .ok (G q.1) d2 ∧ fv d2 = .ok (F q.2) d3 ∧ wipeE vs d3.e = e0 ∧ d3.t = t
theorem dcL_sim [DecidableEq κ] {tg : Tg} {tt : DR.TM} {fk fv : EM} {vs : List Nat} {e0 : DE} {t : DT} {E : α → PV} {G : κ → PV} {F : β → PV} {D : List (κ × β) → PV} {f : α → Option (Option (κ × β))} (put : ∀ d k v d', dputO d k v = some d' → setU (G k) (F v) (D d) = some (D d', .non))
    (hf : ∀ x o, f x = some o → ∃ e1, asgT tg (E x) e0 = some e1 ∧ PairOk tt fk fv vs e0 t G F ⟨e1, t⟩ o) :
    ∀ (xs : List α) (d : List (κ × β)) (s : DS) (d' : List (κ × β)), dfold f xs d = some d' → wipeE vs s.e = e0 → s.t = t → ∃ s', dcL tg tt fk fv vs (xs.map E) (D d) s = .ok (D d') s' ∧ wipeE vs s'.e = e0 ∧ s'.t = t
  | [], d, s, d', h, h1, h2 => by
    cases h
    exact ⟨s, rfl, h1, h2⟩
  | x :: xs, d, s, d', h, h1, h2 => by
    unfold dfold at h
    obtain ⟨o, h3, h4⟩ := Option.bind_eq_some_iff.mp h
    obtain ⟨e1, g1, g2⟩ := hf x o h3
    rw [List.map_cons, dcL_cons, h1, g1]
    simp only [h2]
    cases o with
    | none =>
      obtain ⟨d2, k1, k2, k3⟩ := g2
      obtain ⟨s3, m1, m2⟩ := dcL_sim put hf xs d d2 d' h4 k2 k3
      refine ⟨s3, ?_, m2⟩
      simp only [k1, bind_ok]
      rw [if_neg (by decide), m1]
    | some q =>
      obtain ⟨d1, h5, h6⟩ := Option.bind_eq_some_iff.mp h4
      obtain ⟨s1, s2, s3, k1, k2, k3, k4, k5⟩ := g2
      obtain ⟨s4, m1, m2⟩ := dcL_sim put hf xs d1 s3 d' h6 k4 k5
      refine ⟨s4, ?_, m2⟩
      simp only [k1, bind_ok, if_true, k2, k3, put _ _ _ _ h5, m1]
theorem dcO_sim [DecidableEq κ] {it : IM} {tg : Tg} {tt : DR.TM} {fk fv : EM} {vs : List Nat} {t : DT} {E : α → PV} {G : κ → PV} {F : β → PV} {D : List (κ × β) → PV} {f : α → Option (Option (κ × β))} {xs : List α} {d0 : DS} {e1 : DE} {d : List (κ × β)} {p0 : PV} (hp : p0 = D []) (put : ∀ d k v d', dputO d k v = some d' → setU (G k) (F v) (D d) = some (D d', .non))
    (hit : it d0 = .ok (xs.map E) ⟨e1, t⟩) (h : dfold f xs [] = some d) (hf : ∀ x o, f x = some o → ∃ e2, asgT tg (E x) (wipeE vs e1) = some e2 ∧ PairOk tt fk fv vs (wipeE vs e1) t G F ⟨e2, t⟩ o) : dcO p0 it tg tt fk fv vs d0 = .ok (D d, true) ⟨restE vs e1 e1, t⟩ := by
  obtain ⟨s', m1, m2, m3⟩ := dcL_sim (e0 := wipeE vs e1) put hf xs [] ⟨e1, t⟩ d h rfl rfl
  subst hp
  unfold dcO
  rw [hit, bind_ok, m1, noX_ok, bind_ok, m3, restE_eq m2]
theorem putDI (F : β → PV) (d : List (Int × β)) (k : Int) (v : β) (d' : List (Int × β)) (h : dputO d k v = some d') : setU (eI k) (F v) (eDI F d) = some (eDI F d', .non) := (setDI F d k v).trans (by rw [h]; rfl)
theorem putDS (F : β → PV) (d : List (Str × β)) (k : Str) (v : β) (d' : List (Str × β)) (h : dputO d k v = some d') : setU (eS k) (F v) (eDS F d) = some (eDS F d', .non) := (setDS F d k v).trans (by rw [h]; rfl)
theorem putD2 (F : β → PV) (d : List ((Int × Int) × β)) (k : Int × Int) (v : β) (d' : List ((Int × Int) × β)) (h : dputO d k v = some d') : setU (eP2 eI eI k) (F v) (eD2 F d) = some (eD2 F d', .non) := (setD2 F d k.1 k.2 v).trans (by rw [show dputO d (k.1, k.2) v = some d' from h]; rfl)
theorem putD3 (F : β → PV) (d : List ((Int × Int × Int) × β)) (k : Int × Int × Int) (v : β) (d' : List ((Int × Int × Int) × β)) (h : dputO d k v = some d') : setU (eP3 eI eI eI k) (F v) (eD3 F d) = some (eD3 F d', .non) := (setD3 F d k.1 k.2.1 k.2.2 v).trans (by rw [show dputO d (k.1, k.2.1, k.2.2) v = some d' from h]; rfl)
theorem putDU (F : β → PV) (d : List (List Int × β)) (k : List Int) (v : β) (d' : List (List Int × β)) (h : dputO d k v = some d') : setU (eU eI k) (F v) (eDU F d) = some (eDU F d', .non) := (setDU F d k v).trans (by rw [h]; rfl)
end
end TM
/-! typed laws: what the mirrors' operations come to, where they come to something. -/
namespace TL
open PySem DR TM
section
variable {α β γ σ : Type}
/-- as a step that the kernel takes at its word -/
theorem sb (x : α) (f : α → Option β) : (some x).bind f = f x := (Option.bind_some x f).trans (Eq.trans rfl rfl)
/-! ### sizes -/
theorem small {n : Nat} (h : n ≤ 10000000) : n ≤ sizeLine := by
  have : 10000000 ≤ sizeLine := by decide
  omega
theorem small2 {n : Nat} (h : n < 10000000) : n < sizeLine := by
  have : 10000000 ≤ sizeLine := by decide
  omega
theorem lenO_ok {l : List α} (h : l.length ≤ 10000000) : lenO l = some l := if_pos (small h)
theorem snoc_ok {l : List α} (h : l.length < 10000000) (x : α) : snoc l x = some (l ++ [x]) := if_pos (small2 h)
theorem appO_ok {l k : List α} (h : l.length + k.length ≤ 10000000) : appO l k = some (l ++ k) := if_pos (small h)
theorem dputO_ok [DecidableEq α] {d : List (α × β)} (h : d.length < 10000000) (k : α) (v : β) : dputO d k v = some (dput d k v) := if_pos (small2 h)
theorem dput_new [DecidableEq α] {d : List (α × β)} {k : α} (h : dlook d k = none) (v : β) : dput d k v = d ++ [(k, v)] := by
  unfold dput
  rw [h]
  rfl
theorem dlook_none [DecidableEq α] {k : α} : ∀ {d : List (α × β)}, dlook d k = none ↔ k ∉ d.map (·.1)
  | [] => by simp [dlook]
  | p :: d => by
    unfold dlook
    by_cases e : p.1 = k
    · simp [e]
    · rw [if_neg e, dlook_none]
      simp [Ne.symm e]
theorem dlook_some [DecidableEq α] {k : α} {v : β} : ∀ {d : List (α × β)}, dlook d k = some v → ∃ i : Nat, d[i]? = some (k, v)
  | [], h => by simp [dlook] at h
  | p :: d, h => by
    unfold dlook at h
    by_cases e : p.1 = k
    · rw [if_pos e] at h
      exact ⟨0, by rw [← Option.some.inj h, ← e]; rfl⟩
    · rw [if_neg e] at h
      obtain ⟨i, hi⟩ := dlook_some h
      exact ⟨i + 1, by simpa using hi⟩
theorem dlook_at [DecidableEq α] : ∀ {d : List (α × β)} {i : Nat} {e : α × β}, (d.map (·.1)).Nodup → d[i]? = some e → dlook d e.1 = some e.2
  | [], _, _, _, h => by simp at h
  | a :: d, 0, e, _, h => by
    simp at h
    subst h
    simp [dlook]
  | a :: d, i + 1, e, hd, h => by
    simp only [List.map_cons, List.nodup_cons] at hd
    have hm : e ∈ d := List.mem_of_getElem? (by simpa using h)
    have hne : ¬ a.1 = e.1 := fun z => hd.1 (by rw [z]; exact List.mem_map.mpr ⟨e, hm, rfl⟩)
    unfold dlook
    rw [if_neg hne]
    exact dlook_at hd.2 (by simpa using h)
/-! ### places -/
theorem getD_eq {l : List α} {i : Nat} {d : α} (h : i < l.length) : l[i]? = some (l.getD i d) := by
  rw [List.getElem?_eq_getElem h, List.getD_eq_getElem?_getD, List.getElem?_eq_getElem h]
  rfl
theorem getD_mem {l : List α} {i : Nat} {d : α} (h : i < l.length) : l.getD i d ∈ l := by
  rw [List.getD_eq_getElem?_getD, List.getElem?_eq_getElem h]
  exact List.getElem_mem h
theorem idx_get {l : List α} {i : Int} (h0 : 0 ≤ i) (h : i < l.length) : idx l i = l[i.toNat]? := by
  unfold idx L2.atI L2.ixN
  rw [if_pos h0, if_pos h]
  rfl
theorem idx_ok {l : List α} {i : Int} (d : α) (h0 : 0 ≤ i) (h : i < l.length) : idx l i = some (l.getD i.toNat d) := by
  rw [idx_get h0 h, getD_eq (by omega)]
theorem idx_nat {l : List α} {i : Nat} (d : α) (h : i < l.length) : idx l (i : Int) = some (l.getD i d) := idx_ok d (by omega) (by omega)
theorem idx_last {l : List α} (d : α) (h : 0 < l.length) : idx l (-1) = some (l.getD (l.length - 1) d) := by
  unfold idx L2.atI L2.ixN
  rw [if_neg (by decide), if_pos (by omega)]
  show l[(-1 + (l.length : Int)).toNat]? = _
  rw [show (-1 + (l.length : Int)).toNat = l.length - 1 by omega]
  exact getD_eq (by omega)
theorem idx_snoc {l : List α} {x : α} : idx (l ++ [x]) (-1) = some x := by
  rw [idx_last x (by simp)]
  simp
theorem idx_head {l : List α} {x : α} : idx (x :: l) 0 = some x := by
  rw [idx_ok x (by decide) (by rw [List.length_cons]; omega)]
  rfl
/-! ### ranges -/
theorem rng0 (n : Nat) : rng 0 (n : Int) = (List.range n).map fun (i : Nat) => (i : Int) := by
  unfold rng
  have e : ((n : Int) - 0).toNat = n := by omega
  rw [e]
  exact List.map_congr_left fun i _ => Int.zero_add _
theorem rngO_0 {n : Nat} (h : n < 4611686018427387904) : rngO 0 (n : Int) = some ((List.range n).map fun (i : Nat) => (i : Int)) := by
  rw [rngO_ok (by decide) (by decide) (by omega) (by omega), rng0]
theorem rngO_I {i : Int} (h0 : 0 ≤ i) (h : i < 4611686018427387904) : rngO 0 i = some ((List.range i.toNat).map fun (i : Nat) => (i : Int)) := by
  have := rngO_0 (n := i.toNat) (by omega)
  rwa [Int.toNat_of_nonneg h0] at this
theorem enumT_eq (d : α) : ∀ (l : List α) (n : Nat), enumT n l = (List.range l.length).map fun (i : Nat) => (((n + i : Nat) : Int), l.getD i d)
  | [], n => rfl
  | x :: l, n => by
    unfold enumT
    rw [enumT_eq d l (n + 1), List.length_cons, List.range_succ_eq_map, List.map_cons, List.map_map]
    refine List.cons_eq_cons.mpr ⟨by simp, List.map_congr_left fun i _ => ?_⟩
    simp only [Function.comp_apply, List.getD_cons_succ]
    rw [show n + 1 + i = n + (i + 1) by omega]
theorem cut_take {l : List α} {i : Int} (h0 : 0 ≤ i) : cutT l none (some i) = l.take i.toNat := by
  unfold cutT HT.sIx
  simp only
  rw [if_neg (by omega), List.drop_zero]
  by_cases h : i.toNat ≤ l.length
  · rw [Nat.min_eq_left h]; rfl
  · rw [Nat.min_eq_right (by omega), Nat.sub_zero, List.take_of_length_le (Nat.le_refl _), List.take_of_length_le (by omega)]
theorem cut_drop {l : List α} {i : Int} (h0 : 0 ≤ i) : cutT l (some i) none = l.drop i.toNat := by
  unfold cutT HT.sIx
  simp only
  rw [if_neg (by omega)]
  by_cases h : i.toNat ≤ l.length
  · rw [Nat.min_eq_left h, List.take_of_length_le (by simp)]
  · rw [Nat.min_eq_right (by omega), List.drop_of_length_le (Nat.le_refl _), List.drop_of_length_le (by omega)]
    simp
/-! ### comprehensions -/
theorem mapO_ok {f : α → Option β} {g : α → β} : ∀ {l : List α}, (∀ x ∈ l, f x = some (g x)) → mapO f l = some (l.map g)
  | [], _ => rfl
  | x :: l, h => by
    unfold mapO
    rw [h x (List.mem_cons_self ..), mapO_ok fun y hy => h y (List.mem_cons_of_mem _ hy)]
    rfl
theorem compM_ok {f : α → Option β} (g : α → β) {l : List α} (hl : l.length ≤ 10000000) (h : ∀ x ∈ l, f x = some (g x)) : compM f l = some (l.map g) := by
  unfold compM
  rw [mapO_ok h]
  exact lenO_ok (by rw [List.length_map]; exact hl)
theorem filterMap_map_id (g : α → Option β) (l : List α) : (l.map g).filterMap id = l.filterMap g := by
  rw [List.filterMap_map]
  rfl
theorem compO_ok {f : α → Option (Option β)} (g : α → Option β) {l : List α} (hl : l.length ≤ 10000000) (h : ∀ x ∈ l, f x = some (g x)) : compO f l = some (l.filterMap g) := by
  unfold compO
  rw [mapO_ok h]
  show lenO _ = _
  rw [filterMap_map_id]
  exact lenO_ok (Nat.le_trans (List.length_filterMap_le _ _) hl)
theorem comp2_ok {c : α → Option (Option (List β))} {f : α → β → Option (Option γ)} {L : α → List β} {g : α → β → Option γ} : ∀ {l : List α}, (∀ x ∈ l, c x = some (some (L x))) → (∀ x ∈ l, ∀ y ∈ L x, f x y = some (g x y)) → comp2 c f l = some (l.flatMap fun x => (L x).filterMap (g x))
  | [], _, _ => rfl
  | x :: l, h1, h2 => by
    unfold comp2
    rw [h1 x (List.mem_cons_self ..)]
    simp only [Option.bind_some]
    rw [mapO_ok (h2 x (List.mem_cons_self ..)), comp2_ok (fun y hy => h1 y (List.mem_cons_of_mem _ hy)) (fun y hy => h2 y (List.mem_cons_of_mem _ hy))]
    simp only [Option.bind_some, filterMap_map_id, List.flatMap_cons]
theorem comp2O_ok {c : α → Option (Option (List β))} {f : α → β → Option (Option γ)} (L : α → List β) (g : α → β → Option γ) {l : List α} (hl : (l.flatMap fun x => (L x).filterMap (g x)).length ≤ 10000000) (h1 : ∀ x ∈ l, c x = some (some (L x))) (h2 : ∀ x ∈ l, ∀ y ∈ L x, f x y = some (g x y)) : comp2O c f l = some (l.flatMap fun x => (L x).filterMap (g x)) := by
  unfold comp2O
  rw [comp2_ok h1 h2]
  exact lenO_ok hl
theorem flat_len {n m : Nat} {F : α → List β} : ∀ {l : List α}, l.length ≤ n → (∀ x ∈ l, (F x).length ≤ m) → (l.flatMap F).length ≤ n * m
  | [], _, _ => Nat.zero_le _
  | x :: l, h1, h2 => by
    rw [List.flatMap_cons, List.length_append]
    have a := h2 x (List.mem_cons_self ..)
    obtain ⟨k, rfl⟩ : ∃ k, n = k + 1 := ⟨n - 1, by simp at h1; omega⟩
    have b := flat_len (n := k) (m := m) (F := F) (l := l) (by simp at h1; omega) fun y hy => h2 y (List.mem_cons_of_mem _ hy)
    rw [Nat.add_mul]
    omega
/-! ### loops -/
/-- an invariant over what was walked -/
theorem fold_inv {f : σ → α → Option σ} (I : List α → σ → Prop) : ∀ (l pre : List α) (s : σ), I pre s → (∀ a s x, (∃ b, pre ++ l = a ++ x :: b) → I a s → ∃ s', f s x = some s' ∧ I (a ++ [x]) s') → ∃ s', foldO f l s = some s' ∧ I (pre ++ l) s'
  | [], pre, s, h, _ => ⟨s, rfl, by rwa [List.append_nil]⟩
  | x :: l, pre, s, h, st => by
    obtain ⟨s1, e1, h1⟩ := st pre s x ⟨l, rfl⟩ h
    obtain ⟨s2, e2, h2⟩ := fold_inv I l (pre ++ [x]) s1 h1 fun a s y hy => st a s y (by simpa using hy)
    refine ⟨s2, ?_, by simpa using h2⟩
    unfold foldO
    rw [e1]
    exact e2
/-- over a range -/
theorem fold_rng {f : σ → Int → Option σ} (I : Nat → σ → Prop) (n : Nat) (s : σ) (h : I 0 s) (st : ∀ i s, i < n → I i s → ∃ s', f s (i : Int) = some s' ∧ I (i + 1) s') : ∃ s', foldO f ((List.range n).map fun (i : Nat) => (i : Int)) s = some s' ∧ I n s' := by
  obtain ⟨s', e, h'⟩ := fold_inv (f := f) (fun a s => a = (List.range a.length).map (fun (i : Nat) => (i : Int)) ∧ I a.length s) ((List.range n).map fun (i : Nat) => (i : Int)) [] s ⟨rfl, h⟩ fun a s x hx hi => by
    obtain ⟨b, hb⟩ := hx
    rw [List.nil_append] at hb
    obtain ⟨h1, h2⟩ := hi
    have hl := congrArg List.length hb
    simp only [List.length_map, List.length_range, List.length_append, List.length_cons] at hl
    have hx : x = (a.length : Int) := by
      have := congrArg (fun l : List Int => l[a.length]?) hb
      simp only [List.getElem?_map, List.getElem?_append_right (Nat.le_refl _), Nat.sub_self, List.getElem?_cons_zero] at this
      rw [List.getElem?_range (by omega)] at this
      exact (Option.some.inj this).symm
    subst hx
    obtain ⟨s', e, k⟩ := st a.length s (by omega) h2
    refine ⟨s', e, ?_, by rw [List.length_append]; exact k⟩
    rw [List.length_append, List.length_singleton, List.range_succ, List.map_append, ← h1]
    rfl
  refine ⟨s', e, ?_⟩
  simpa using h'.2
/-- by places -/
theorem fold_get {f : σ → α → Option σ} (d : α) (I : Nat → σ → Prop) (l : List α) (s : σ) (h : I 0 s) (st : ∀ i s, i < l.length → I i s → ∃ s', f s (l.getD i d) = some s' ∧ I (i + 1) s') : ∃ s', foldO f l s = some s' ∧ I l.length s' := by
  obtain ⟨s', e, h'⟩ := fold_inv (f := f) (fun a s => I a.length s) l [] s h fun a s x ⟨b, hb⟩ hi => by
    rw [List.nil_append] at hb
    subst hb
    obtain ⟨s', e, k⟩ := st a.length s (by simp) hi
    refine ⟨s', ?_, by rw [List.length_append]; exact k⟩
    simpa using e
  exact ⟨s', e, by simpa using h'⟩
/-- by places, a loop that may end ahead -/
theorem for_get {f : σ → α → Option (Fw σ β)} (d : α) (I : Nat → σ → Prop) : ∀ (l pre : List α) (s : σ), I pre.length s → (∀ i s, i < (pre ++ l).length → I i s → ∃ s', f s ((pre ++ l).getD i d) = some (.nx s') ∧ I (i + 1) s') → ∃ s', forO f l s = some (.inl s') ∧ I (pre ++ l).length s'
  | [], pre, s, h, _ => ⟨s, rfl, by simpa using h⟩
  | x :: l, pre, s, h, st => by
    obtain ⟨s1, e1, h1⟩ := st pre.length s (by simp) h
    obtain ⟨s2, e2, h2⟩ := for_get d I l (pre ++ [x]) s1 (by simpa using h1) fun i s hi => by
      have e : pre ++ [x] ++ l = pre ++ x :: l := by simp
      rw [e] at hi ⊢
      exact st i s hi
    refine ⟨s2, ?_, by simpa using h2⟩
    unfold forO
    have e : (pre ++ x :: l).getD pre.length d = x := by simp
    rw [e] at e1
    rw [e1]
    exact e2
theorem enum_len : ∀ (l : List α) (n : Nat), (enumT n l).length = l.length
  | [], n => rfl
  | x :: l, n => by
    unfold enumT
    rw [List.length_cons, List.length_cons, enum_len l (n + 1)]
theorem enum_getD (d : α) {l : List α} {i : Nat} (h : i < l.length) (q : Int × α) : (enumT 0 l).getD i q = ((i : Int), l.getD i d) := by
  rw [enumT_eq d, List.getD_eq_getElem?_getD, List.getElem?_map, List.getElem?_range h]
  simp
theorem filter_map_eq (p : α → Bool) (q : α → β) : ∀ l : List α, (l.filter p).map q = l.filterMap fun x => if p x = true then some (q x) else none
  | [] => rfl
  | x :: l => by
    rw [List.filter_cons]
    by_cases h : p x = true
    · rw [if_pos h, List.map_cons, filter_map_eq p q l, List.filterMap_cons_some (by rw [if_pos h])]
    · rw [if_neg h, filter_map_eq p q l, List.filterMap_cons_none (by rw [if_neg h])]
theorem flat_filter {δ : Type} (F : α → List β) (g : β → Option δ) : ∀ l : List α, (l.flatMap F).filterMap g = l.flatMap fun x => (F x).filterMap g
  | [] => rfl
  | x :: l => by rw [List.flatMap_cons, List.flatMap_cons, List.filterMap_append, flat_filter F g l]
theorem getD_snoc {l : List α} {x d : α} {i : Nat} (h : i < l.length) : (l ++ [x]).getD i d = l.getD i d := by
  simp only [List.getD_eq_getElem?_getD]
  rw [List.getElem?_append_left h]
theorem getD_end {l : List α} {x d : α} {i : Nat} (h : i = l.length) : (l ++ [x]).getD i d = x := by
  subst h
  simp
/-- a loop that goes through -/
theorem for_all {f : σ → α → Option (Fw σ β)} {s : σ} : ∀ {l : List α}, (∀ x ∈ l, f s x = some (.nx s)) → forO f l s = some (.inl s)
  | [], _ => rfl
  | x :: l, h => by
    unfold forO
    rw [h x (List.mem_cons_self ..)]
    exact for_all fun y hy => h y (List.mem_cons_of_mem _ hy)
theorem for_inv {f : σ → α → Option (Fw σ β)} (I : σ → Prop) : ∀ {l : List α} {s : σ}, I s → (∀ s x, x ∈ l → I s → ∃ s', f s x = some (.nx s') ∧ I s') → ∃ s', forO f l s = some (.inl s') ∧ I s'
  | [], s, h, _ => ⟨s, rfl, h⟩
  | x :: l, s, h, st => by
    obtain ⟨s1, e1, h1⟩ := st s x (List.mem_cons_self ..) h
    obtain ⟨s2, e2, h2⟩ := for_inv I (l := l) h1 fun s y hy => st s y (List.mem_cons_of_mem _ hy)
    refine ⟨s2, ?_, h2⟩
    unfold forO
    rw [e1]
    exact e2
/-- a loop that ends -/
theorem while_ok {c : σ → Option Bool} {f : σ → Option (Fw σ β)} (I : Nat → σ → Prop) (Q : σ ⊕ β → Prop) : ∀ (m n : Nat) (s : σ), m < n → I m s → (∀ m s, I m s → ∃ b, c s = some b ∧ ((b = false ∧ Q (.inl s)) ∨ (b = true ∧ ∃ o, f s = some o ∧ match o with
    | .nx s' => ∃ m', m' < m ∧ I m' s'
    | .bk s' => Q (.inl s')
    | .rt v => Q (.inr v)))) → ∃ o, whileO c f n s = some o ∧ Q o
  | m, 0, s, h, _, _ => by omega
  | m, n + 1, s, hn, hi, st => by
    obtain ⟨b, e, k⟩ := st m s hi
    unfold whileO
    rw [e]
    rcases k with ⟨rfl, q⟩ | ⟨rfl, o, e2, k⟩
    · exact ⟨_, rfl, q⟩
    · simp only [Option.bind_some, if_pos, e2]
      cases o with
      | nx s' =>
        obtain ⟨m', hm, hi'⟩ := k
        exact while_ok I Q m' n s' (by omega) hi' st
      | bk s' => exact ⟨_, rfl, k⟩
      | rt v => exact ⟨_, rfl, k⟩
/-- items that hold the hand -/
theorem compN_ok {f : σ → α → Option (β × σ)} {b : β} {l : List α} (h : ∀ s x, ∃ s', f s x = some (b, s')) (hl : l.length ≤ 10000000) (s : σ) : ∃ s', compN f l s = some (l.map fun _ => b, s') := by
  have k : ∀ (l : List α) (s : σ), ∃ s', mapS f l s = some (l.map fun _ => b, s') := fun l => by
    induction l with
    | nil => exact fun s => ⟨s, rfl⟩
    | cons x l ih =>
      intro s
      obtain ⟨s1, e1⟩ := h s x
      obtain ⟨s2, e2⟩ := ih s1
      refine ⟨s2, ?_⟩
      unfold mapS
      rw [e1]
      simp only [Option.bind_some, e2]
      rfl
  obtain ⟨s', e⟩ := k l s
  refine ⟨s', ?_⟩
  unfold compN
  rw [e]
  simp only [Option.bind_some]
  rw [lenO_ok (by rw [List.length_map]; exact hl)]
  rfl
/-! ### neighbours in a list -/
def Ch (R : α → α → Prop) : List α → Prop
  | [] => True
  | a :: l => (∀ b, l.head? = some b → R a b) ∧ Ch R l
theorem Ch.zip {R : α → α → Prop} : ∀ {l : List α}, Ch R l → ∀ q ∈ List.zip l (l.drop 1), R q.1 q.2
  | [], _, q, hq => by simp at hq
  | [a], _, q, hq => by simp at hq
  | a :: b :: l, h, q, hq => by
    simp only [List.drop_succ_cons, List.drop_zero, List.zip_cons_cons, List.mem_cons] at hq
    rcases hq with rfl | hq
    · exact h.1 b rfl
    · exact Ch.zip (l := b :: l) h.2 q (by simpa using hq)
end
end TL
set_option maxHeartbeats 4000000
/-! DR: x.pop(k), range with a step. -/
namespace DR
open PySem PySem.Spec PyProof.Rows L2
section
variable {X : Cx} {Z : WX} {x : Str} {pos p1 p : Pos} {e e2 e3 tg : Expr} {f f2 f3 g : EM}
def pAt (k : Int) (n : Nat) : Option Nat := if -9223372036854775808 ≤ k ∧ k < 9223372036854775808 then seqIndex? k n else none
/-- x.pop(k) -/
def popAtU (q : PV) : PV → Option (PV × PV) := fun p => match p, q with
  | .lst ps, .int k => (pAt k ps.length).bind fun i => (ps[i]?).map fun r => (.lst (ps.eraseIdx i), r)
  | _, _ => none
def popAtE (i : Nat) (g : EM) : EM := fun s => (nameB i s).bind fun p _ => if (tyN p = some "list") then (g s).bind fun q s2 => modB i (popAtU q) s2 else .bad
theorem Reps.erase {K : PySem.W.Frag} {cs : List Addr} {H : Hp} : ∀ {ps : List PV} {vs : List V} (i : Nat), Reps K cs H ps vs → Reps K cs H (ps.eraseIdx i) (vs.eraseIdx i)
  | [], vs, i, r => by
    unfold Reps at r
    subst r
    simpa using reps_nil
  | p :: ps, vs, i, r => by
    unfold Reps at r
    obtain ⟨v, w, rfl, h1, h2⟩ := r
    cases i with
    | zero => exact h2
    | succ i => exact reps_cons h1 (Reps.erase i h2)
theorem px_popAt (i : Nat) {apos cpos : Pos} (hN : X.N[i]? = some x := by rfl) (hb : PX X Z e g) (hv : Vis X.env.scope x := by first | exact Or.inl rfl | exact Or.inr (Or.inl rfl) | exact Or.inr (Or.inr rfl))
    (h1 : (x == ("__debug__" : Str)) = false := by decide) (h2 : (x == ("__classdict__" : Str)) = false := by decide)
    (hbase : attributeBase (.Name x p1) "pop" X.env (eval (.Name x p1) X.env) = eval (.Name x p1) X.env := by rfl)
    (hfew : ((backTo cpos (starEach [e] X.env)).all (fun x => !x.1) && (backToKw cpos (keywordEach [] X.env)).all (fun x => x.1.isSome)
      && decide ([e].length + ([] : List Keyword).length + (if ([] : List Keyword).isEmpty then 0 else 1) < 30)) = true := by rfl)
    (hline : (apos.endLine == cpos.line) = true := by rfl) (hs : starEach [e] X.env = (false, eval e X.env) :: starEach [] X.env := by rfl) :
    PX X Z (.Call (.Attribute (.Name x p1) "pop" apos) [e] [] cpos) (popAtE i g) := by
  refine ⟨PE_imp (L2.pe_bm PySem.F.plainAttrs_list PySem.F.slot_list_pop PySem.F.type_list_pop mt_popAt (pe_var hN hv h1 h2) (L2.pa_cons hb.pe L2.pa_nil hs) hbase hfew hline hs rfl) fun σ H Q ⟨W, s, R, h⟩ => ?_⟩
  unfold popAtE at h
  cases e0 : nameB i s with
  | bad => rw [e0] at h; exact h.elim
  | exc x s1 => exact (nameB_no e0).elim
  | ok p0 s0 =>
    rw [e0] at h
    simp only [Re.bind] at h
    obtain ⟨rfl, v, h1, hb0⟩ := nameB_bv R e0
    by_cases ht : tyN p0 = some "list"
    · rw [if_pos ht] at h
      obtain ⟨ps0, rfl⟩ : ∃ ps, p0 = .lst ps := by
        cases p0 <;> simp [tyN] at ht
        exact ⟨_, rfl⟩
      obtain ⟨a0, vs0, rfl, g1, g2⟩ := bv_lst hb0
      refine ⟨_, h1, .inl ⟨rfl, vs0, SqL.of g1⟩, W, s0, R, Post.bind h fun q s2 y W2 H2 _ st2 R2 ry k => ?_⟩
      cases em : modB i (popAtU q) s2 with
      | bad => rw [em] at k; exact k.elim
      | exc x s1 => exact (modB_no em).elim
      | ok r s3 =>
        rw [em] at k
        obtain ⟨p, p', a, u1, u2, u3, u4, u5⟩ := modB_ok R2 em
        rw [h1] at u2
        cases u2
        cases p with
        | lst ps =>
          cases q with
          | int n =>
            obtain ⟨vs, c1, c2⟩ := con_lst u4
            obtain ⟨m, m1, m2⟩ := Option.bind_eq_some_iff.mp u1
            obtain ⟨w, w1, w2⟩ := Option.map_eq_some_iff.mp m2
            cases w2
            unfold pAt at m1
            split at m1
            · rename_i hz
              obtain ⟨z, z1, z2⟩ := c2.get w1
              obtain ⟨st3, R3⟩ := u5 (.lst (vs.eraseIdx m)) ⟨_, upd_same, rvs_upd u3 (c2.erase m)⟩
              exact ⟨a0, vs, n, m, z, rfl, by rw [rv_int_inv (K := X.K) (W := W2) (H := H2) ry], c1, by omega, by omega, by rw [c2.len]; exact m1, z1, k _ W2 _ st3 R3 (rv_upd u3 z2)⟩
            · cases m1
          | _ => simp [popAtU] at u1
        | _ => simp [popAtU] at u1
    · rw [if_neg ht] at h
      exact h.elim
/-- range(a, b, c) -/
def rangeC (lo c : Int) (n : Nat) : List PV := (List.range n).map fun (i : Nat) => PV.int (lo + (i : Int) * c)
def rgOk (i j c : Int) : Bool := decide (c ≠ 0) && (decide (c.natAbs < 1073741824) && (Builtin.Range.small i j c && decide (0 ≤ Builtin.Range.rangeSize i j c)))
def rgN (i j c : Int) : Nat := (Builtin.Range.rangeSize i j c).toNat
def range3I (f g h : EM) : IM := fun s => (f s).bind fun p s1 => (g s1).bind fun q s2 => (h s2).bind fun r s3 => match p, q, r with
  | .int i, .int j, .int c => if rgOk i j c then .ok (rangeC i c (rgN i j c)) s3 else .bad
  | _, _, _ => .bad
theorem goes_rangeC {K : PySem.W.Frag} {W : Wd} {H : Hp} {lo c : Int} {n : Nat} : Goes K (Itc lo c n) (rangeC lo c n) W H := by
  refine ⟨fun W1 H1 i st hi => ?_, fun W1 H1 st => ?_, fun W1 H1 i x H2 p s σ st hp R y => ?_⟩
  · have : i < (rangeC lo c n).length := hi
    show i < n
    simpa [rangeC] using this
  · show n ≤ (rangeC lo c n).length
    simp [rangeC]
  · obtain ⟨e1, e2⟩ := y
    unfold rangeC at hp
    rw [List.getElem?_map] at hp
    obtain ⟨m, hm, rfl⟩ := Option.map_eq_some_iff.mp hp
    have : m = i := by
      obtain ⟨h1, h2⟩ := List.getElem?_eq_some_iff.mp hm
      simpa using h2.symm
    subst this
    rw [e2]
    exact yldP R e1 rv_int
theorem i_range3 (hg : Gl X "range") (hm : X.mg "range" = none) (h1 : PX X Z e f) (h2 : PX X Z e2 f2) (h3 : PX X Z e3 f3) (hs : starEach [e, e2, e3] X.env = (false, eval e X.env) :: starEach [e2, e3] X.env := by rfl) (hs2 : starEach [e2, e3] X.env = (false, eval e2 X.env) :: starEach [e3] X.env := by rfl)
    (hs3 : starEach [e3] X.env = (false, eval e3 X.env) :: starEach [] X.env := by rfl) (hpl : (backTo pos (starEach [e2, e3] X.env)).any (·.1) = false := by rfl) : PIX X Z tg (.Call (.Name "range" p) [e, e2, e3] [] pos) (range3I f f2 f3) := by
  refine ⟨PI_imp (L2.pi_range3 hg hm (pa_consX h1 (pa_consX h2 (pa_consX h3 pa_nilX hs3) hs2) hs).pa hs hpl) fun σ H Q ⟨W, s, R, h⟩ => ⟨W, s, R, ?_⟩⟩
  unfold range3I at h
  unfold consA nilA
  cases e1 : f s with
  | bad => rw [e1] at h; exact h.elim
  | exc x s1 => rw [e1] at h; exact h
  | ok p s1 =>
    rw [e1] at h
    simp only [Re.bind] at h ⊢
    cases e2 : f2 s1 with
    | bad => rw [e2] at h; exact h.elim
    | exc x s2 => rw [e2] at h; exact h
    | ok q s2 =>
      rw [e2] at h
      simp only at h ⊢
      cases e3 : f3 s2 with
      | bad => rw [e3] at h; exact h.elim
      | exc x s3 => rw [e3] at h; exact h
      | ok r s3 =>
        rw [e3] at h
        intro vs W1 H1 st R1 rv
        have rv : Reps X.K W1.S (W1.m H1) [p, q, r] vs := rv
        unfold Reps at rv
        obtain ⟨v1, l1, rfl, k1, rv⟩ := rv
        unfold Reps at rv
        obtain ⟨v2, l2, rfl, k2, rv⟩ := rv
        unfold Reps at rv
        obtain ⟨v3, l3, rfl, k3, rv⟩ := rv
        unfold Reps at rv
        subst rv
        cases p with
        | int i =>
          cases q with
          | int j =>
            cases r with
            | int c =>
              simp only at h
              by_cases hb : rgOk i j c = true
              · rw [if_pos hb] at h
                unfold rgOk at hb
                rw [Bool.and_eq_true, Bool.and_eq_true, Bool.and_eq_true] at hb
                have hs := of_decide_eq_true hb.2.2.2
                exact ⟨i, j, c, rgN i j c, by rw [rv_int_inv k1, rv_int_inv k2, rv_int_inv k3], ⟨of_decide_eq_true hb.1, of_decide_eq_true hb.2.1, hb.2.2.1, by unfold rgN; omega⟩, h _ W1 H1 st R1 goes_rangeC⟩
              · rw [if_neg hb] at h
                exact h.elim
            | _ => exact h.elim
          | _ => exact h.elim
        | _ => exact h.elim
end
end DR
/-! typed mirrors: pop(k), range with a step. -/
namespace DR
section
variable {s s2 : DS} {i : Nat} {f g h : EM} {p q r : PV} {ps qs : List PV} {a b c : Int}
def kPa2 (i : Nat) (q : PV) (s : DS) : Re PV := modB i (popAtU q) s
def kPa (i : Nat) (g : EM) (s : DS) (p : PV) (_ : DS) : Re PV := if tyN p = some "list" then (g s).bind (kPa2 i) else .bad
theorem popAtE_ap : popAtE i g s = (nameB i s).bind (kPa i g s) := (rfl)
theorem kPa_ap : kPa i g s (.lst ps) s2 = (g s).bind (kPa2 i) := by simp [kPa, tyN]
theorem kPa2_ap : kPa2 i q s = kMod i (popAtU q) s.e[i]? s := modB_ap
def kR3c (p q r : PV) (s : DS) : Re (List PV) := match p, q, r with
  | .int i, .int j, .int c => if rgOk i j c then .ok (rangeC i c (rgN i j c)) s else .bad
  | _, _, _ => .bad
def kR3b (h : EM) (p q : PV) (s : DS) : Re (List PV) := (h s).bind (kR3c p q)
def kR3a (g h : EM) (p : PV) (s : DS) : Re (List PV) := (g s).bind (kR3b h p)
theorem range3I_ap : range3I f g h s = (f s).bind (kR3a g h) := (rfl)
theorem kR3a_ap : kR3a g h p s = (g s).bind (kR3b h p) := (rfl)
theorem kR3b_ap : kR3b h p q s = (h s).bind (kR3c p q) := (rfl)
end
end DR
namespace TM
open PySem DR
section
variable {α : Type}
def popAtT (xs : List α) (k : Int) : Option (List α × α) := (pAt k xs.length).bind fun i => (xs[i]?).map fun r => (xs.eraseIdx i, r)
theorem map_erase (f : α → PV) : ∀ (xs : List α) (i : Nat), (xs.map f).eraseIdx i = (xs.eraseIdx i).map f
  | [], i => by simp
  | x :: xs, 0 => by simp
  | x :: xs, i + 1 => by simp [map_erase f xs i]
theorem popAtU_L (E : α → PV) (xs : List α) (k : Int) : popAtU (.int k) (.lst (xs.map E)) = (popAtT xs k).map fun z => (.lst (z.1.map E), E z.2) := by
  show (pAt k (xs.map E).length).bind (fun i => ((xs.map E)[i]?).map fun r => (PV.lst ((xs.map E).eraseIdx i), r)) = _
  unfold popAtT
  rw [List.length_map]
  cases pAt k xs.length with
  | none => rfl
  | some i =>
    simp only [Option.bind_some, List.getElem?_map, map_erase]
    cases xs[i]? <;> rfl
theorem popAt_ok (d : α) {xs : List α} {k : Int} (h0 : 0 ≤ k) (h : k < xs.length) (hl : xs.length ≤ 1000000) : popAtT xs k = some (xs.eraseIdx k.toNat, xs.getD k.toNat d) := by
  unfold popAtT pAt
  rw [if_pos (by omega)]
  have e : seqIndex? k xs.length = some k.toNat := by
    unfold seqIndex?
    simp
    omega
  rw [e]
  simp only [Option.bind_some]
  rw [List.getElem?_eq_getElem (by omega), List.getD_eq_getElem?_getD, List.getElem?_eq_getElem (by omega)]
  rfl
def rng3 (a b c : Int) : List Int := (List.range (rgN a b c)).map fun (i : Nat) => a + (i : Int) * c
def rng3O (a b c : Int) : Option (List Int) := if rgOk a b c = true then some (rng3 a b c) else none
theorem kR3c_ap (a b c : Int) (s : DS) : kR3c (.int a) (.int b) (.int c) s = reO ((rng3O a b c).map fun l => l.map eI) s := by
  show (if rgOk a b c = true then Re.ok (rangeC a c (rgN a b c)) s else .bad) = _
  unfold rng3O
  split
  · show _ = Re.ok ((rng3 a b c).map eI) s
    unfold rng3 rangeC
    rw [List.map_map]
    rfl
  · rfl
theorem rng3_down {a b : Int} (h1 : -(4611686018427387904) ≤ a) (h2 : a < 4611686018427387904) (h3 : -(4611686018427387904) ≤ b) (h4 : b < 4611686018427387904) : rng3O a b (-1) = some ((List.range (a - b).toNat).map fun (i : Nat) => a - (i : Int)) := by
  obtain ⟨c1, c2, c3, c4⟩ := L2.RgC.neg (i := a) (j := b) (by omega) (by omega) (by omega) (by omega)
  have ok : rgOk a b (-1) = true := by
    unfold rgOk
    rw [c3, c4]
    simp
    omega
  unfold rng3O rng3 rgN
  rw [if_pos ok, c4, Int.toNat_natCast]
  exact congrArg some (List.map_congr_left fun i _ => by omega)
end
end TM
set_option maxHeartbeats 4000000
/-! DR: x.index(v), x.count(v) of lists of plain things. -/
namespace DR
open PySem PySem.Spec PyProof.Rows L2
/-! ### list.count of plain values -/
def rCntF (K : PySem.W.Frag) : V → List V → Hp → VK → Prop := fun x xs H Q => ∃ (a : Addr) (ys : List V) (y : V), x = .ref a ∧ xs = [y] ∧ SqL K H a ys ∧ flatV y = true ∧ ys.all flatV = true ∧ Q (.int (ys.countP (fun z => eqV z y) : Nat)) H
theorem eqU_countP {y : V} : ∀ {ys : List V} {us : List Value}, Vals ys us → ys.all flatV = true → us.countP (eqU y) = ys.countP fun z => eqV z y
  | _, _, .nil, _ => rfl
  | z :: ys, u :: us, .cons r t, f => by
    rw [List.all_cons, Bool.and_eq_true] at f
    rw [List.countP_cons, List.countP_cons, eqU_countP t f.2, eqU_of r f.1]
theorem mt_countF {X : Cx} : MtR X "list.count" (rCntF X.K) := by
  intro pins s σ H x xs v us Q I rx rxs ⟨a, ys, y, e1, e2, hs, f1, f2, q⟩
  subst e1 e2
  cases rx
  obtain ⟨u, rfl, ru⟩ := rxs.one
  obtain ⟨its, rv, ⟨⟨cls, dd, data, sl⟩, n, ho, hc, hdn, hd⟩, hlen⟩ := I.list hs
  simp only at hc hd
  subst hc hd
  refine call_meets PySem.F.slot_list_count ⟨_, ho, rfl⟩ PySem.F.entry_list_count (PySem.F.args_list_count_2 _ _) (SeqAt.list_countAt a its.toArray n dd sl u (eqU y)) ⟨ho, fun w hw => mem_eqAt ru f1 rv f2 w (by simpa using hw), ?_⟩
  have ec : its.toArray.toList.countP (eqU y) = ys.countP fun z => eqV z y := eqU_countP rv f2
  refine ⟨.int (ys.countP (fun z => eqV z y) : Nat), H, I.tok _, ⟨s.toks, ?_⟩, q⟩
  rw [← ec]
/-! ### the forms -/
def flatP : PV → Option V
  | .non => some .non
  | .bl b => some (.bl b)
  | .int i => some (.int i)
  | .str x => some (.str x)
  | _ => none
def flatsP : List PV → Option (List V)
  | [] => some []
  | p :: ps => (flatP p).bind fun v => (flatsP ps).map fun r => v :: r
def idxG (ps : List PV) (q : PV) : Option PV := (flatsP ps).bind fun ys => (flatP q).bind fun y => (ys.findIdx? fun z => eqV z y).map fun (j : Nat) => .int (j : Int)
def cntG (ps : List PV) (q : PV) : Option PV := (flatsP ps).bind fun ys => (flatP q).map fun y => .int ((ys.countP fun z => eqV z y : Nat) : Int)
theorem flatP_ok {K : PySem.W.Frag} {W : Wd} {H : Hp} {p : PV} {v w : V} (h : flatP p = some v) (r : RV K W H p w) : w = v ∧ flatV v = true := by
  unfold RV at r
  cases p <;> simp only [flatP, Option.some.injEq] at h <;> first | (subst h; unfold Rep at r; exact ⟨r, rfl⟩) | cases h
theorem flatsP_ok {K : PySem.W.Frag} {W : Wd} {H : Hp} : ∀ {ps : List PV} {vs ws : List V}, flatsP ps = some vs → RVs K W H ps ws → ws = vs ∧ vs.all flatV = true
  | [], vs, ws, h, r => by
    unfold RVs Reps at r
    cases h
    exact ⟨r, rfl⟩
  | p :: ps, vs, ws, h, r => by
    unfold RVs Reps at r
    obtain ⟨v, w, rfl, h1, h2⟩ := r
    unfold flatsP at h
    obtain ⟨v', e1, e2⟩ := Option.bind_eq_some_iff.mp h
    obtain ⟨l, e3, e4⟩ := Option.map_eq_some_iff.mp e2
    obtain ⟨rfl, f1⟩ := flatP_ok e1 h1
    obtain ⟨rfl, f2⟩ := flatsP_ok e3 h2
    subst e4
    exact ⟨rfl, by rw [List.all_cons, f1, f2]; rfl⟩
/-- x.m(v), x a list in slot i -/
def mthE (G : List PV → PV → Option PV) (i : Nat) (g : EM) : EM := fun s => (nameB i s).bind fun p _ => if tyN p = some "list" then (g s).bind fun q s2 => (nameB i s2).bind fun p2 s3 => match p2 with
  | .lst ps => (match G ps q with
    | some r => .ok r s3
    | none => .bad)
  | _ => .bad
  else .bad
section
variable {X : Cx} {Z : WX} {x : Str} {p1 : Pos} {e : Expr} {g : EM}
theorem px_mth {id : String} {nm : Str} {r : V → List V → Hp → VK → Prop} {G : List PV → PV → Option PV} (slot : Slot "list" nm id) (hty : typeOf (.builtin id) = pure (.type "method_descriptor")) (hm : MtR X id r)
    (say : ∀ (K : PySem.W.Frag) (W : Wd) (H : Hp) (a : Addr) (ps : List PV) (ys : List V) (q res : PV) (y : V) (Q : VK), K = X.K → SqL K H a ys → RVs K W H ps ys → RV K W H q y → G ps q = some res → (∀ w, RV K W H res w → Q w H) → r (.ref a) [y] H Q)
    (i : Nat) {apos cpos : Pos} (hN : X.N[i]? = some x := by rfl) (hb : PX X Z e g) (hv : Vis X.env.scope x := by first | exact Or.inl rfl | exact Or.inr (Or.inl rfl) | exact Or.inr (Or.inr rfl))
    (h1 : (x == ("__debug__" : Str)) = false := by decide) (h2 : (x == ("__classdict__" : Str)) = false := by decide)
    (hbase : attributeBase (.Name x p1) nm X.env (eval (.Name x p1) X.env) = eval (.Name x p1) X.env := by rfl)
    (hfew : ((backTo cpos (starEach [e] X.env)).all (fun x => !x.1) && (backToKw cpos (keywordEach [] X.env)).all (fun x => x.1.isSome)
      && decide ([e].length + ([] : List Keyword).length + (if ([] : List Keyword).isEmpty then 0 else 1) < 30)) = true := by rfl)
    (hline : (apos.endLine == cpos.line) = true := by rfl) (hs : starEach [e] X.env = (false, eval e X.env) :: starEach [] X.env := by rfl) :
    PX X Z (.Call (.Attribute (.Name x p1) nm apos) [e] [] cpos) (mthE G i g) := by
  refine ⟨PE_imp (L2.pe_bm PySem.F.plainAttrs_list slot hty hm (pe_var hN hv h1 h2) (L2.pa_cons hb.pe L2.pa_nil hs) hbase hfew hline hs rfl) fun σ H Q ⟨W, s, R, h⟩ => ?_⟩
  unfold mthE at h
  cases e0 : nameB i s with
  | bad => rw [e0] at h; exact h.elim
  | exc x s1 => exact (nameB_no e0).elim
  | ok p0 s0 =>
    rw [e0] at h
    simp only [Re.bind] at h
    obtain ⟨rfl, v, k1, hb0⟩ := nameB_bv R e0
    by_cases ht : tyN p0 = some "list"
    · rw [if_pos ht] at h
      obtain ⟨ps0, rfl⟩ : ∃ ps, p0 = .lst ps := by
        cases p0 <;> simp [tyN] at ht
        exact ⟨_, rfl⟩
      obtain ⟨a0, vs0, rfl, g1, g2⟩ := bv_lst hb0
      refine ⟨_, k1, .inl ⟨rfl, vs0, SqL.of g1⟩, W, s0, R, Post.bind h fun q s2 y W2 H2 _ st2 R2 ry k => ?_⟩
      cases e3 : nameB i s2 with
      | bad => rw [e3] at k; exact k.elim
      | exc x s1 => exact (nameB_no e3).elim
      | ok p3 s3 =>
        rw [e3] at k
        simp only at k
        obtain ⟨rfl, v3, k3, hb3⟩ := nameB_bv R2 e3
        rw [k1] at k3
        cases k3
        cases p3 with
        | lst ps =>
          simp only at k
          cases eG : G ps q with
          | none => rw [eG] at k; exact k.elim
          | some res =>
            rw [eG] at k
            obtain ⟨a1, vs1, z1, c1, c2⟩ := bv_lst hb3
            cases z1
            exact say X.K W2 H2 a0 ps vs1 q res y Q rfl (SqL.of c1) c2 ry eG fun w hw => k w W2 H2 (Step.refl _ _) R2 hw
        | _ => exact k.elim
    · rw [if_neg ht] at h
      exact h.elim
theorem px_cnt (i : Nat) {apos cpos : Pos} (hN : X.N[i]? = some x := by rfl) (hb : PX X Z e g) (hv : Vis X.env.scope x := by first | exact Or.inl rfl | exact Or.inr (Or.inl rfl) | exact Or.inr (Or.inr rfl))
    (h1 : (x == ("__debug__" : Str)) = false := by decide) (h2 : (x == ("__classdict__" : Str)) = false := by decide)
    (hbase : attributeBase (.Name x p1) "count" X.env (eval (.Name x p1) X.env) = eval (.Name x p1) X.env := by rfl)
    (hfew : ((backTo cpos (starEach [e] X.env)).all (fun x => !x.1) && (backToKw cpos (keywordEach [] X.env)).all (fun x => x.1.isSome)
      && decide ([e].length + ([] : List Keyword).length + (if ([] : List Keyword).isEmpty then 0 else 1) < 30)) = true := by rfl)
    (hline : (apos.endLine == cpos.line) = true := by rfl) (hs : starEach [e] X.env = (false, eval e X.env) :: starEach [] X.env := by rfl) :
    PX X Z (.Call (.Attribute (.Name x p1) "count" apos) [e] [] cpos) (mthE cntG i g) :=
  px_mth PySem.F.slot_list_count PySem.F.type_list_count mt_countF (fun K W H a ps ys q res y Q eK hS hp hq hG fin => by
    subst eK
    obtain ⟨zs, e1, e2⟩ := Option.bind_eq_some_iff.mp hG
    obtain ⟨z, e3, e4⟩ := Option.map_eq_some_iff.mp e2
    obtain ⟨rfl, f1⟩ := flatsP_ok e1 hp
    obtain ⟨rfl, f2⟩ := flatP_ok e3 hq
    exact ⟨a, _, _, rfl, rfl, hS, f2, f1, fin _ (by rw [← e4]; exact rv_int)⟩) i hN hb hv h1 h2 hbase hfew hline hs
theorem px_idx (i : Nat) {apos cpos : Pos} (hN : X.N[i]? = some x := by rfl) (hb : PX X Z e g) (hv : Vis X.env.scope x := by first | exact Or.inl rfl | exact Or.inr (Or.inl rfl) | exact Or.inr (Or.inr rfl))
    (h1 : (x == ("__debug__" : Str)) = false := by decide) (h2 : (x == ("__classdict__" : Str)) = false := by decide)
    (hbase : attributeBase (.Name x p1) "index" X.env (eval (.Name x p1) X.env) = eval (.Name x p1) X.env := by rfl)
    (hfew : ((backTo cpos (starEach [e] X.env)).all (fun x => !x.1) && (backToKw cpos (keywordEach [] X.env)).all (fun x => x.1.isSome)
      && decide ([e].length + ([] : List Keyword).length + (if ([] : List Keyword).isEmpty then 0 else 1) < 30)) = true := by rfl)
    (hline : (apos.endLine == cpos.line) = true := by rfl) (hs : starEach [e] X.env = (false, eval e X.env) :: starEach [] X.env := by rfl) :
    PX X Z (.Call (.Attribute (.Name x p1) "index" apos) [e] [] cpos) (mthE idxG i g) :=
  px_mth PySem.F.slot_list_index PySem.F.type_list_index mt_index (fun K W H a ps ys q res y Q eK hS hp hq hG fin => by
    subst eK
    obtain ⟨zs, e1, e2⟩ := Option.bind_eq_some_iff.mp hG
    obtain ⟨z, e3, e4⟩ := Option.bind_eq_some_iff.mp e2
    obtain ⟨j, e5, e6⟩ := Option.map_eq_some_iff.mp e4
    obtain ⟨rfl, f1⟩ := flatsP_ok e1 hp
    obtain ⟨rfl, f2⟩ := flatP_ok e3 hq
    obtain ⟨hj, hz, hno⟩ := List.findIdx?_eq_some_iff_getElem.mp e5
    refine ⟨a, _, _, j, _, rfl, rfl, hS, f2, f1, List.getElem?_eq_getElem hj, hz, fun m z' hm hz' => ?_, fin _ (by rw [← e6]; exact rv_int)⟩
    obtain ⟨hm2, rfl⟩ := List.getElem?_eq_some_iff.mp hz'
    have := hno m hm
    simpa using this) i hN hb hv h1 h2 hbase hfew hline hs
end
end DR
set_option maxHeartbeats 4000000
/-! DR: dict comprehensions of two clauses: the rule. -/
namespace DR
open PySem PySem.Spec PyProof.Rows L2
theorem dcompTurn2_out (kx vx t0 i0 t1 i1 : Expr) (ifs0 ifs1 : List Expr) (scope : Scope) (pos : Pos) (it acc : Value) (env : Env) :
    compTurn (.DictComp kx vx [⟨t0, i0, ifs0, 0⟩, ⟨t1, i1, ifs1, 0⟩] scope pos) 0 it acc env = (do
      standAt i0.pos
      match ← pyNext it with
      | none => pure (.done .next)
      | some v =>
        letOwnedTupleGo t0 it v
        assign t0 env v
        let mut ok := true
        for c in ifs0 do
          if ok then ok ← isTrue c env (eval c env)
        if ok then
          let x ← eval i1 env
          standAt i1.pos
          let x ← foldedSetIterable i1 env x
          let _ ← runOwn (.compStart (.DictComp kx vx [⟨t0, i0, ifs0, 0⟩, ⟨t1, i1, ifs1, 0⟩] scope pos) 1 (← holding [x] (pyIter x)) acc env) env
        again (.compLoop (.DictComp kx vx [⟨t0, i0, ifs0, 0⟩, ⟨t1, i1, ifs1, 0⟩] scope pos) 0 it acc env)) := by rfl
theorem dcompTurn2_in (kx vx t0 i0 t1 i1 : Expr) (ifs0 ifs1 : List Expr) (scope : Scope) (pos : Pos) (it : Value) (D : Addr) (env : Env) :
    compTurn (.DictComp kx vx [⟨t0, i0, ifs0, 0⟩, ⟨t1, i1, ifs1, 0⟩] scope pos) 1 it (.ref D) env = (do
      standAt i1.pos
      match ← pyNext it with
      | none => pure (.done .next)
      | some v =>
        letOwnedTupleGo t1 it v
        assign t1 env v
        let mut ok := true
        for c in ifs1 do
          if ok then ok ← isTrue c env (eval c env)
        if ok then
          (do
            let kv ← eval kx env
            let vv ← holding [kv] (eval vx env)
            standAt { kx.pos with endLine := vx.pos.endLine, endCol := vx.pos.endCol }
            holding [kv, vv] (dictSet D kv vv))
        again (.compLoop (.DictComp kx vx [⟨t0, i0, ifs0, 0⟩, ⟨t1, i1, ifs1, 0⟩] scope pos) 1 it (.ref D) env)) := by rfl
section
variable {prog : Program} {w : World} {A : Around} {R : Result → Shared → Prop} {s : Shared} {kx vx t0 i0 t1 i1 : Expr} {ifs0 ifs1 : List Expr} {scope : Scope} {pos : Pos} {it acc : Value} {env : Env}
/-- the loop of the first clause -/
theorem dcompLoop2_out (hs : ∀ x, foldedSetIterable i1 env x = pure x) (I : Nat → Shared → Prop)
    (turn : ∀ n s, I n s → wpAny (model prog w) A (pyNext it) (fun r s₁ => match r with
      | none => R (.ok .next) s₁
      | some v => wpAny (model prog w) A (letOwnedTupleGo t0 it v) (fun _ s₁' => wpAny (model prog w) A (assign t0 env v) (fun _ s₂ =>
          wpAny (model prog w) A (forIn ifs0 true fun c r => if r = true then do let ok ← isTrue c env (eval c env); pure (ForInStep.yield ok) else pure (ForInStep.yield r)) (fun ok s₃ =>
            if ok = true then wpAny (model prog w) A (eval i1 env) (fun x s₄ => wpAny (model prog w) A (pyIter x) (fun it1 s₅ =>
              codeAny (model prog w) A (.compStart (.DictComp kx vx [⟨t0, i0, ifs0, 0⟩, ⟨t1, i1, ifs1, 0⟩] scope pos) 1 it1 acc env) (fun r s' => match r with
                | .ok _ => ∃ m, m < n ∧ I m s'
                | .error _ => False) s₅) (notedBy (model prog w) A env fun e s' => R (.error e) s') s₄) (notedBy (model prog w) A env fun e s' => R (.error e) s') s₃
            else ∃ m, m < n ∧ I m s₃) (notedBy (model prog w) A env fun e s' => R (.error e) s') s₂) (notedBy (model prog w) A env fun e s' => R (.error e) s') s₁') (notedBy (model prog w) A env fun e s' => R (.error e) s') s₁) (notedBy (model prog w) A env fun e s' => R (.error e) s') s)
    (n : Nat) (h : I n s) :
    codeAny (model prog w) A (.compLoop (.DictComp kx vx [⟨t0, i0, ifs0, 0⟩, ⟨t1, i1, ifs1, 0⟩] scope pos) 0 it acc env) R s := by
  refine codeAny_loop rfl I (fun n s hI => ?_) n h
  show wpAny _ A ((compTurn (.DictComp kx vx [⟨t0, i0, ifs0, 0⟩, ⟨t1, i1, ifs1, 0⟩] scope pos) 0 it acc env).onRaise (fun x => do noteFrame x env; theTreesLotGoes x)) _ _ s
  refine wpAny_noted ?_
  rw [dcompTurn2_out]
  refine wpAny_bind (wpAny_standAt (wpAny_bind (wpAny_mono (turn n s hI) (fun r s₁ h₁ => ?_) fun _ _ h' => h')))
  cases r with
  | none => exact wpAny_pure h₁
  | some v =>
    refine wpAny_bind (wpAny_mono h₁ (fun _ s₁' h₁' => ?_) fun _ _ h' => h')
    refine wpAny_bind (wpAny_mono h₁' (fun _ s₂ h₂ => wpAny_bind (wpAny_mono h₂ (fun ok s₃ h₃ => ?_) fun _ _ h' => h')) fun _ _ h' => h')
    cases ok with
    | false => exact wpAny_pure ⟨rfl, h₃⟩
    | true =>
      refine wpAny_bind (wpAny_mono h₃ (fun x s₄ h₄ => ?_) fun _ _ h' => h')
      refine wpAny_bind (wpAny_standAt (wpAny_bind (wpAny_of_eq (hs x) (wpAny_bind (wpAny_holding (wpAny_mono h₄ (fun it1 s₅ h₅ => ?_) fun _ _ h' => h'))))))
      refine wpAny_bind (wpAny_runOwn ?_)
      rw [Around.mark_none]
      refine codeAny_mono h₅ fun r s' hr => ?_
      cases r with
      | ok f =>
        first
          | exact wpAny_pure ⟨rfl, hr⟩
          | exact wpAny_bind (wpAny_pure (wpAny_pure ⟨rfl, hr⟩))
      | error e => exact hr.elim
/-- the loop of the second -/
theorem dcompLoop2_in {D : Addr} (I : Nat → Shared → Prop)
    (turn : ∀ n s, I n s → wpAny (model prog w) A (pyNext it) (fun r s₁ => match r with
      | none => R (.ok .next) s₁
      | some v => wpAny (model prog w) A (letOwnedTupleGo t1 it v) (fun _ s₁' => wpAny (model prog w) A (assign t1 env v) (fun _ s₂ =>
          wpAny (model prog w) A (forIn ifs1 true fun c r => if r = true then do let ok ← isTrue c env (eval c env); pure (ForInStep.yield ok) else pure (ForInStep.yield r)) (fun ok s₃ =>
            if ok = true then wpAny (model prog w) A (eval kx env) (fun kv s₄ => wpAny (model prog w) A (eval vx env) (fun vv s₅ =>
              wpAny (model prog w) A (dictSet D kv vv) (fun _ s₆ => ∃ m, m < n ∧ I m s₆) (notedBy (model prog w) A env fun e s' => R (.error e) s') s₅) (notedBy (model prog w) A env fun e s' => R (.error e) s') s₄) (notedBy (model prog w) A env fun e s' => R (.error e) s') s₃
            else ∃ m, m < n ∧ I m s₃) (notedBy (model prog w) A env fun e s' => R (.error e) s') s₂) (notedBy (model prog w) A env fun e s' => R (.error e) s') s₁') (notedBy (model prog w) A env fun e s' => R (.error e) s') s₁) (notedBy (model prog w) A env fun e s' => R (.error e) s') s)
    (n : Nat) (h : I n s) :
    codeAny (model prog w) A (.compLoop (.DictComp kx vx [⟨t0, i0, ifs0, 0⟩, ⟨t1, i1, ifs1, 0⟩] scope pos) 1 it (.ref D) env) R s := by
  refine codeAny_loop rfl I (fun n s hI => ?_) n h
  show wpAny _ A ((compTurn (.DictComp kx vx [⟨t0, i0, ifs0, 0⟩, ⟨t1, i1, ifs1, 0⟩] scope pos) 1 it (.ref D) env).onRaise (fun x => do noteFrame x env; theTreesLotGoes x)) _ _ s
  refine wpAny_noted ?_
  rw [dcompTurn2_in]
  refine wpAny_bind (wpAny_standAt (wpAny_bind (wpAny_mono (turn n s hI) (fun r s₁ h₁ => ?_) fun _ _ h' => h')))
  cases r with
  | none => exact wpAny_pure h₁
  | some v =>
    refine wpAny_bind (wpAny_mono h₁ (fun _ s₁' h₁' => ?_) fun _ _ h' => h')
    refine wpAny_bind (wpAny_mono h₁' (fun _ s₂ h₂ => wpAny_bind (wpAny_mono h₂ (fun ok s₃ h₃ => ?_) fun _ _ h' => h')) fun _ _ h' => h')
    cases ok with
    | false => exact wpAny_pure ⟨rfl, h₃⟩
    | true =>
      exact wpAny_bind (wpAny_bind (wpAny_mono h₃ (fun kv s₄ h₄ => wpAny_bind (wpAny_holding (wpAny_mono h₄ (fun vv s₅ h₅ => wpAny_bind (wpAny_standAt (wpAny_holding (wpAny_mono h₅ (fun _ s₆ h₆ => wpAny_pure ⟨rfl, h₆⟩) fun _ _ h' => h')))) fun _ _ h' => h'))) fun _ _ h' => h'))
/-- the second clause's start -/
theorem dcompStart1_ok (h0 : codeAny (model prog w) A (.compLoop (.DictComp kx vx [⟨t0, i0, ifs0, 0⟩, ⟨t1, i1, ifs1, 0⟩] scope pos) 1 it acc env) R s)
    (h : wpAny (model prog w) A (pyIter it) (fun it' s' => codeAny (model prog w) A (.compLoop (.DictComp kx vx [⟨t0, i0, ifs0, 0⟩, ⟨t1, i1, ifs1, 0⟩] scope pos) 1 it' acc env) R s')
      (notedBy (model prog w) A env fun x s' => R (.error x) s') s) :
    codeAny (model prog w) A (.compStart (.DictComp kx vx [⟨t0, i0, ifs0, 0⟩, ⟨t1, i1, ifs1, 0⟩] scope pos) 1 it acc env) R s := by
  refine codeAny_of_tree ?_
  show wpAny _ _ ((compStart (.DictComp kx vx [⟨t0, i0, ifs0, 0⟩, ⟨t1, i1, ifs1, 0⟩] scope pos) 1 it acc env).onRaise (fun x => do noteFrame x env; standAt theWindowsPlace)) _ _ s
  refine wpAny_notedAt ?_
  unfold compStart
  show wpAny _ _ (ask >>= _) _ _ s
  refine wpAny_bind (wpAny_askSetting (wpAny_ite ?_))
  split
  · first
      | exact wpAny_bind (wpAny_pure (wpAny_pure (And.intro rfl h0)))
      | exact wpAny_pure (And.intro rfl h0)
  · first
      | exact wpAny_bind (wpAny_rule (wpAny_bind (wpAny_standAt (wpAny_bind (wpAny_mono h (fun it' s' h' => wpAny_pure (And.intro rfl h')) fun _ _ x => x)))))
      | (refine wpAny_bind (wpAny_rule ?_); show wpAny _ _ (standAt i1.pos >>= _) _ _ s; exact wpAny_bind (wpAny_standAt (wpAny_bind (wpAny_mono h (fun it' s' h' => wpAny_pure (And.intro rfl h')) fun _ _ x => x))))
end
section
variable {X : Cx}
def tD2X (nw : HO) (wi : TI) (g : TG) (tt : TT) (wi1 : TI) (g1 : TG) (tt1 : TT) (tk tv : TE) (vs vs1 : List Nat) : TE := fun σ H Q => wi σ H fun J H1 => ∀ D, H1 D = none → ∃ W : Nat → Nat → Hp → Prop, (∃ m, W 0 m (upd H1 D nw)) ∧ ∀ i m H, W i m H →
  (J.stop i H ∧ Q (.ref D) H) ∨ (J.go i H ∧ ∃ Nx : Hp → Prop, (∀ H', Nx H' → ∃ m', m' < m ∧ W (i + 1) m' H') ∧ ∀ x H', J.yld i H x H' → g x (wipe σ vs) H' fun σ2 H2 => wipe σ2 vs = wipe σ vs ∧ tt σ2 H2 fun b H3 =>
    if b = true then wi1 σ2 H3 fun J1 H4 => ∃ W1 : Nat → Nat → Hp → Prop, (∃ m, W1 0 m H4) ∧ ∀ j k H, W1 j k H →
      (J1.stop j H ∧ Nx H) ∨ (J1.go j H ∧ ∃ Nx1 : Hp → Prop, (∀ H', Nx1 H' → ∃ k', k' < k ∧ W1 (j + 1) k' H') ∧ ∀ x H', J1.yld j H x H' → g1 x (wipe σ2 vs1) H' fun σ3 H5 => wipe σ3 vs1 = wipe σ2 vs1 ∧ tt1 σ3 H5 fun b H6 =>
        if b = true then tk σ3 H6 fun y H7 => tv σ3 H7 fun z H8 => ∃ H9, DPut H8 D y z H9 ∧ Nx1 H9 else Nx1 H6)
    else Nx H3)
theorem dc2_core {nw : HO} (hnw : nw = .dK [] ∨ nw = .dT []) (hu : X.A.units + 1 < cLine) {pins : List (Addr × Obj)} {s : Shared} {σ : L2.St} {H : Hp} {Q : VK} {kx vx tg iter tg1 iter1 : Expr} {ifs ifs1 : List Expr} {scope : Scope} {own : List (Str × Nat)} {vs1 : List Nat} {pos pos' : Pos} {wi wi1 : TI} {g g1 : TG} {tt tt1 : TT} {tk tv : TE} {use : Option (Value → Sem Unit)} {Qf : Value → Shared → Prop}
    (hc : X.calm = true) (hN : X.N.Nodup) (I : Inv X pins σ H s) (hi : PI X tg iter wi) (ok : BlkOk X.N X.env.scope scope own) (hv : ∀ i ∈ vs1, i ∈ own.map (·.2))
    (hg : ∀ (s : Shared) (H : Hp) (C : Addr) (cl : List (Str × Addr)) (fp : List Addr), PG (X.blk s H scope (compEnvC scope cl C X.env) fp) tg g) (ht : ∀ (s : Shared) (H : Hp) (C : Addr) (cl : List (Str × Addr)) (fp : List Addr), PTs (X.blk s H scope (compEnvC scope cl C X.env) fp) ifs tt)
    (hk : ∀ (s : Shared) (H : Hp) (C : Addr) (cl : List (Str × Addr)) (fp : List Addr), PE (X.blk s H scope (compEnvC scope cl C X.env) fp) kx tk) (he : ∀ (s : Shared) (H : Hp) (C : Addr) (cl : List (Str × Addr)) (fp : List Addr), PE (X.blk s H scope (compEnvC scope cl C X.env) fp) vx tv) (hs : ∀ x, foldedSetIterable iter X.env x = pure x)
    (hi1 : ∀ (s : Shared) (H : Hp) (C : Addr) (cl : List (Str × Addr)) (fp : List Addr), PI (X.blk s H scope (compEnvC scope cl C X.env) fp) tg1 iter1 wi1)
    (hg1 : ∀ (s : Shared) (H : Hp) (C : Addr) (cl : List (Str × Addr)) (fp : List Addr), PG (X.blk s H scope (compEnvC scope cl C X.env) fp) tg1 g1)
    (ht1 : ∀ (s : Shared) (H : Hp) (C : Addr) (cl : List (Str × Addr)) (fp : List Addr), PTs (X.blk s H scope (compEnvC scope cl C X.env) fp) ifs1 tt1)
    (hs1 : ∀ env x, foldedSetIterable iter1 env x = pure x)
    (h : tD2X nw wi g tt wi1 g1 tt1 tk tv (own.map (·.2)) vs1 σ H Q)
    (hRR : ∀ D C s' m H', Inv X pins σ H' s' → Q (.ref D) H' → s'.heap.Ns C m → FpOk X pins H' C → compPost (model X.prog X.w) X.A X.xe use Qf (.ref D) C (.ok .next) s') :
    wpAny (model X.prog X.w) X.A (comprehension (.DictComp kx vx [⟨tg, iter, ifs, 0⟩, ⟨tg1, iter1, ifs1, 0⟩] scope pos) scope X.env pos' newDict false (eval iter X.env) use) Qf X.xe s := by
  have hfree : ∀ y ∈ scope.names, y.2 = .free → ∃ c, X.env.cells.lookup y.1 = some c := fun y hy e => by
    rcases ok.free y hy e with k | k
    · exact I.ok.has _ (.inl k)
    · exact I.ok.has _ (.inr k)
  refine wpAny_comprehension_free (use := use) rfl hs (closure_ok hfree) ok.kind (fun y hy e => by rw [ok.uniq y hy, e])
    (thn (hi.run pins s σ H _ I h) fun xv s1 hx => thn hx fun itv s2 h2 => ?_)
  obtain ⟨it, fp, tn, J, H2, e, I2, T, st2, f2, q⟩ := h2
  subst e
  refine wpAny_newObj_type (newEnv_comp ?_)
  generalize hD : s2.heap.objs.size = D
  have hDn : H2 D = none := I2.hok.fresh (Nat.le_of_eq hD)
  obtain ⟨W, ⟨m0, w0⟩, turn⟩ := q D hDn
  -- the new list
  generalize hs3 : ({ s2 with heap := s2.heap.push { cls := .type "dict", data := .dict #[] } } : Shared) = s3
  have I3 : Inv X pins σ (upd H2 D nw) s3 := by
    rw [← hs3]
    refine I2.laid (t' := s2.toks) (fun b o e => Heap.get?_push_of_some _ e) (Nat.le_of_eq hD) ?_
    rw [← hD]
    rcases hnw with z | z <;> rw [z]
    · exact dk_empty s2.heap I2.big
    · exact dt_empty s2.heap I2.big
  have h3 : s3.heap = s2.heap.push { cls := .type "dict", data := .dict #[] } := by rw [← hs3]
  have sz : ∀ b ∈ fp, b < s2.heap.objs.size := fun b hb => by
    obtain ⟨o, e, _⟩ := T.obj _ _ st2 b hb
    exact Heap.lt_size e
  have f3 : ∀ b ∈ fp, FpOk X pins (upd H2 D nw) b ∧ b < s3.heap.objs.size := fun b hb => by
    have hlt := sz b hb
    refine ⟨⟨?_, (f2 b hb).2⟩, by rw [h3, Heap.size_push]; exact Nat.lt_succ_of_lt hlt⟩
    rw [upd_ne (by rw [← hD]; exact Nat.ne_of_lt hlt)]
    exact (f2 b hb).1
  have st3 : tn 0 s3.heap := T.keep _ _ _ st2 fun b _ o e => by rw [h3]; exact Heap.get?_push_of_some _ e
  have I4 := block_start I3 ok hN f3
  have pg := hg s3 (upd H2 D nw) s3.heap.objs.size (cellsFrom (s3.heap.objs.size + 1) scope.names (cloFrom X.env.cells scope.names [])) fp
  have pt := ht s3 (upd H2 D nw) s3.heap.objs.size (cellsFrom (s3.heap.objs.size + 1) scope.names (cloFrom X.env.cells scope.names [])) fp
  have pk := hk s3 (upd H2 D nw) s3.heap.objs.size (cellsFrom (s3.heap.objs.size + 1) scope.names (cloFrom X.env.cells scope.names [])) fp
  have pe := he s3 (upd H2 D nw) s3.heap.objs.size (cellsFrom (s3.heap.objs.size + 1) scope.names (cloFrom X.env.cells scope.names [])) fp
  have pi1 := hi1 s3 (upd H2 D nw) s3.heap.objs.size (cellsFrom (s3.heap.objs.size + 1) scope.names (cloFrom X.env.cells scope.names [])) fp
  have pg1 := hg1 s3 (upd H2 D nw) s3.heap.objs.size (cellsFrom (s3.heap.objs.size + 1) scope.names (cloFrom X.env.cells scope.names [])) fp
  have pt1 := ht1 s3 (upd H2 D nw) s3.heap.objs.size (cellsFrom (s3.heap.objs.size + 1) scope.names (cloFrom X.env.cells scope.names [])) fp
  show codeAny _ _ (.compStart (.DictComp kx vx [⟨tg, iter, ifs, 0⟩, ⟨tg1, iter1, ifs1, 0⟩] scope pos) 0 (.ref it) (.ref D) (compEnvC scope (cellsFrom (s3.heap.objs.size + 1) scope.names (cloFrom X.env.cells scope.names [])) s3.heap.objs.size X.env)) (compPost (model X.prog X.w) X.A X.xe use Qf (.ref D) s3.heap.objs.size) { s3 with heap := pushCells (s3.heap.push { cls := .type "dict", data := .dict #[] }) scope.names }
  have nfp : ∀ b ∈ fp, (upd H2 D nw) b = none := fun b hb => (f3 b hb).1.1
  generalize hce : compEnvC scope (cellsFrom (s3.heap.objs.size + 1) scope.names (cloFrom X.env.cells scope.names [])) s3.heap.objs.size X.env = ce at I4 pg pt pk pe pi1 pg1 pt1 ⊢
  have cL : ce.locals = s3.heap.objs.size := by subst hce; rfl
  generalize hH3 : upd H2 D nw = H3 at I3 I4 pg pt pk pe pi1 pg1 pt1 w0 nfp f3
  generalize hs4 : ({ s3 with heap := pushCells (s3.heap.push { cls := .type "dict", data := .dict #[] }) scope.names } : Shared) = s4 at I4 ⊢
  have st4 : tn 0 s4.heap := T.keep _ _ _ st3 fun b _ o e => by rw [← hs4]; exact pushCells_keeps _ _ _ _ (Heap.get?_push_of_some _ e)
  have stat : ∀ {σ' : L2.St} {H' : Hp} {s' : Shared}, Inv (X.blk s3 H3 scope ce fp) [] σ' H' s' → (∀ b ∈ fp, H' b = none) → ∀ b ∈ fp, FpOk (X.blk s3 H3 scope ce fp) [] H' b := fun {σ' H' s'} I' hn b hb =>
    ⟨hn b hb, (I'.ok.exf b hb).1, I'.ok.exfs b hb, .inl hb, fun x c e => (I'.ok.exf b hb).2 x c e, fun p hp => absurd (show p ∈ ([] : List (Addr × Obj)) ++ [] from hp) (by simp)⟩
  have loop : codeAny (model X.prog X.w) X.A (.compLoop (.DictComp kx vx [⟨tg, iter, ifs, 0⟩, ⟨tg1, iter1, ifs1, 0⟩] scope pos) 0 (.ref it) (.ref D) ce) (compPost (model X.prog X.w) X.A X.xe use Qf (.ref D) s3.heap.objs.size) s4 := by
    refine dcompLoop2_out (hs1 ce) (fun n s' => ∃ i H', Inv (X.blk s3 H3 scope ce fp) [] (wipe σ (own.map (·.2))) H' s' ∧ tn i s'.heap ∧ (∀ b ∈ fp, H' b = none) ∧ W i n H') ?_ m0 ⟨0, H3, I4, st4, nfp, w0⟩
    rintro n s5 ⟨i, H5, I5, st5, n5, w5⟩
    rcases turn i n H5 w5 with ⟨stop, qq⟩ | ⟨go, Nx, hNx, step⟩
    · have td := T.done (X.blk s3 H3 scope ce fp) rfl rfl rfl hc i [] s5 _ H5 (fun _ _ => False) I5 (stat I5 n5) st5 stop
      refine thnF td fun r s6 ⟨hr, I6⟩ => ?_
      subst hr
      -- back in the def's context
      have I7 : Inv X pins σ H5 s6 := I3.call' (ch := fp) I6.os I6.base I6.hok I6.bare fun b hb => ⟨(f3 b hb).1.2.2.2.1, (f3 b hb).1.2.1, (f3 b hb).1.2.2.2.2.1, (f3 b hb).1.2.2.2.2.2⟩
      have nC : H5 s3.heap.objs.size = none := by
        have z : H5 ce.locals = none := I6.free
        rw [cL] at z
        exact z
      obtain ⟨m, hn, _⟩ := I6.loc
      have hn : s6.heap.Ns ce.locals m := hn
      rw [cL] at hn
      exact hRR D s3.heap.objs.size s6 m H5 I7 qq hn (I3.fpOk (Nat.le_refl _) nC)
    · have ti := T.item (X.blk s3 H3 scope ce fp) rfl rfl rfl hc i [] s5 _ H5 (fun _ _ => False) I5 (stat I5 n5) st5 go
      refine thnF ti fun r s6 ⟨u, hr, h6⟩ => ?_
      subst hr
      refine thnF h6 fun _ s7 ⟨x, H7, I7, r7, y7, st7, n7⟩ => ?_
      have I7' := I7.pinned (stat I7 n7) (T.obj _ _ st7)
      refine thnF (pg.run _ s7 _ H7 x u _ I7' r7 (step x H7 y7)) fun _ s8 ⟨σ8, H8, I8, hw8, q8⟩ => ?_
      refine thnF (pt.run _ s8 σ8 H8 _ I8 q8) fun b s9 ⟨H9, I9, q9⟩ => ?_
      -- the turn's end, from any slots that know what the block knew at its start
      have fin : ∀ {σ9 : L2.St} {s' : Shared} {H' : Hp}, Inv (X.blk s3 H3 scope ce fp) ([] ++ pinsAt fp s7.heap) σ9 H' s' → (wipe σ (own.map (·.2))).length = σ9.length → (∀ (j : Nat) v, (wipe σ (own.map (·.2)))[j]? = some (some v) → σ9[j]? = some (some v)) → Nx H' →
          ∃ m, m < n ∧ ∃ i H', Inv (X.blk s3 H3 scope ce fp) [] (wipe σ (own.map (·.2))) H' s' ∧ tn i s'.heap ∧ (∀ b ∈ fp, H' b = none) ∧ W i m H' := fun {σ9 s' H'} I' hl hk nx => by
        obtain ⟨m', hm, w'⟩ := hNx H' nx
        have pin' : ∀ b ∈ fp, ∀ o, s7.heap.get? b = some o → s'.heap.get? b = some o ∧ H' b = none := fun b hb o e =>
          let z := I'.pin (b, o) (List.mem_append_right _ (List.mem_append_right _ (mem_pinsAt hb e)))
          ⟨z.1, z.2.1⟩
        refine ⟨m', hm, i + 1, H', (I'.unpinned (pins := [])).weak hl hk, T.keep _ _ _ st7 fun b hb o e => (pin' b hb o e).1, fun b hb => ?_, w'⟩
        obtain ⟨o, e, _⟩ := T.obj _ _ st7 b hb
        exact (pin' b hb o e).2
      have hl8 : (wipe σ (own.map (·.2))).length = σ8.length := by rw [← hw8, wipe_length]
      have hk8 : ∀ (j : Nat) v, (wipe σ (own.map (·.2)))[j]? = some (some v) → σ8[j]? = some (some v) := fun j v e => by
        rw [← hw8] at e
        exact (wipe_some e).1
      have hk9 : ∀ (j : Nat) v, (wipe σ (own.map (·.2)))[j]? = some (some v) → (wipe σ8 vs1)[j]? = some (some v) := fun j v e => by
        rw [← hw8] at e
        obtain ⟨e1, e2⟩ := wipe_some e
        rw [wipe_out fun z => e2 (hv j z)]
        exact e1
      cases b with
      | false =>
        simp only [Bool.false_eq_true, if_false] at q9 ⊢
        exact fin I9 hl8 hk8 q9
      | true =>
        simp only [if_true] at q9 ⊢
        refine thnF (pi1.run _ s9 σ8 H9 _ I9 q9) fun xv s10 hx => thnF hx fun itv s11 h11 => ?_
        obtain ⟨it1, fp1, tn1, J1, H11, e1, I11, T1, st11, f11, W1, ⟨m1, w1⟩, turn1⟩ := h11
        subst e1
        -- the inner loop
        have stat1 : ∀ {H' : Hp}, (∀ b ∈ fp1, H' b = none) → ∀ b ∈ fp1, FpOk (X.blk s3 H3 scope ce fp) ([] ++ pinsAt fp s7.heap) H' b := fun hn b hb => ⟨hn b hb, (f11 b hb).2⟩
        have loop1 : codeAny (model X.prog X.w) X.A (.compLoop (.DictComp kx vx [⟨tg, iter, ifs, 0⟩, ⟨tg1, iter1, ifs1, 0⟩] scope pos) 1 (.ref it1) (.ref D) ce)
            (fun r s' => match r with
              | .ok _ => ∃ m, m < n ∧ ∃ i H', Inv (X.blk s3 H3 scope ce fp) [] (wipe σ (own.map (·.2))) H' s' ∧ tn i s'.heap ∧ (∀ b ∈ fp, H' b = none) ∧ W i m H'
              | .error _ => False) s11 := by
          refine dcompLoop2_in (fun k s' => ∃ j H', Inv (X.blk s3 H3 scope ce fp) ([] ++ pinsAt fp s7.heap) (wipe σ8 vs1) H' s' ∧ tn1 j s'.heap ∧ (∀ b ∈ fp1, H' b = none) ∧ W1 j k H') ?_ m1 ⟨0, H11, I11.weak (wipe_length _ _) (fun j v e => (wipe_some e).1), st11, fun b hb => (f11 b hb).1, w1⟩
          rintro k s12 ⟨j, H12, I12, st12, n12, w12⟩
          rcases turn1 j k H12 w12 with ⟨stop1, nx1⟩ | ⟨go1, Nx1, hNx1, step1⟩
          · refine thnF (T1.done (X.blk s3 H3 scope ce fp) rfl rfl rfl hc j _ s12 (wipe σ8 vs1) H12 (fun _ _ => False) I12 (stat1 n12) st12 stop1) fun r s13 ⟨hr, I13⟩ => ?_
            subst hr
            exact fin I13 (hl8.trans (wipe_length σ8 vs1).symm) hk9 nx1
          · refine thnF (T1.item (X.blk s3 H3 scope ce fp) rfl rfl rfl hc j _ s12 (wipe σ8 vs1) H12 (fun _ _ => False) I12 (stat1 n12) st12 go1) fun r s13 ⟨u1, hr, h13⟩ => ?_
            subst hr
            refine thnF h13 fun _ s14 ⟨x1, H14, I14, r14, y14, st14, n14⟩ => ?_
            have I14' := I14.pinned (stat1 n14) (T1.obj _ _ st14)
            refine thnF (pg1.run _ s14 (wipe σ8 vs1) H14 x1 u1 _ I14' r14 (step1 x1 H14 y14)) fun _ s15 ⟨σ15, H15, I15, hw15, q15⟩ => ?_
            refine thnF (pt1.run _ s15 σ15 H15 _ I15 q15) fun b1 s16 ⟨H16, I16, q16⟩ => ?_
            have fin1 : ∀ {s' : Shared} {H' : Hp}, Inv (X.blk s3 H3 scope ce fp) (([] ++ pinsAt fp s7.heap) ++ pinsAt fp1 s14.heap) σ15 H' s' → Nx1 H' → ∃ m, m < k ∧ ∃ j H', Inv (X.blk s3 H3 scope ce fp) ([] ++ pinsAt fp s7.heap) (wipe σ8 vs1) H' s' ∧ tn1 j s'.heap ∧ (∀ b ∈ fp1, H' b = none) ∧ W1 j m H' := fun {s' H'} I' nx => by
              obtain ⟨m', hm, w'⟩ := hNx1 H' nx
              have pin' : ∀ b ∈ fp1, ∀ o, s14.heap.get? b = some o → s'.heap.get? b = some o ∧ H' b = none := fun b hb o e =>
                let z := I'.pin (b, o) (List.mem_append_right _ (List.mem_append_right _ (mem_pinsAt hb e)))
                ⟨z.1, z.2.1⟩
              refine ⟨m', hm, j + 1, H', I'.unpinned.weak (by rw [← hw15, wipe_length]) (fun j v e => by rw [← hw15] at e; exact (wipe_some e).1), T1.keep _ _ _ st14 fun b hb o e => (pin' b hb o e).1, fun b hb => ?_, w'⟩
              obtain ⟨o, e, _⟩ := T1.obj _ _ st14 b hb
              exact (pin' b hb o e).2
            cases b1 with
            | false =>
              simp only [Bool.false_eq_true, if_false] at q16 ⊢
              exact fin1 I16 q16
            | true =>
              simp only [if_true] at q16 ⊢
              refine thnF (pk.run _ s16 σ15 H16 _ I16 q16) fun z s17 ⟨yk, H17, I17, r17, q17⟩ => ?_
              refine thnF (pe.run _ s17 σ15 H17 _ I17 q17) fun z2 s18 ⟨yv, H18, I18, r18, H19, put, nx⟩ => ?_
              exact dict_put (X := X.blk s3 H3 scope ce fp) (show (X.blk s3 H3 scope ce fp).A.units + 1 < cLine from hu) I18 put r17 r18 fun s19 I19 => fin1 I19 nx
        exact dcompStart1_ok loop1 (T1.self X.A 0 _ _ _ st11 loop1)
  exact codeAny_compStart_dict loop (T.self X.A 0 _ _ _ st4 loop)
/-- as a value -/
theorem pe_d2X {nw : HO} (hnw : nw = .dK [] ∨ nw = .dT []) (hu : X.A.units + 1 < cLine) {kx vx tg iter tg1 iter1 : Expr} {ifs ifs1 : List Expr} {scope : Scope} {own : List (Str × Nat)} {vs1 : List Nat} {pos : Pos} {wi wi1 : TI} {g g1 : TG} {tt tt1 : TT} {tk tv : TE} (hc : X.calm = true) (hN : X.N.Nodup) (hi : PI X tg iter wi) (ok : BlkOk X.N X.env.scope scope own) (hv : ∀ i ∈ vs1, i ∈ own.map (·.2))
    (hg : ∀ (s : Shared) (H : Hp) (C : Addr) (cl : List (Str × Addr)) (fp : List Addr), PG (X.blk s H scope (compEnvC scope cl C X.env) fp) tg g) (ht : ∀ (s : Shared) (H : Hp) (C : Addr) (cl : List (Str × Addr)) (fp : List Addr), PTs (X.blk s H scope (compEnvC scope cl C X.env) fp) ifs tt)
    (hi1 : ∀ (s : Shared) (H : Hp) (C : Addr) (cl : List (Str × Addr)) (fp : List Addr), PI (X.blk s H scope (compEnvC scope cl C X.env) fp) tg1 iter1 wi1)
    (hg1 : ∀ (s : Shared) (H : Hp) (C : Addr) (cl : List (Str × Addr)) (fp : List Addr), PG (X.blk s H scope (compEnvC scope cl C X.env) fp) tg1 g1) (ht1 : ∀ (s : Shared) (H : Hp) (C : Addr) (cl : List (Str × Addr)) (fp : List Addr), PTs (X.blk s H scope (compEnvC scope cl C X.env) fp) ifs1 tt1)
    (hk : ∀ (s : Shared) (H : Hp) (C : Addr) (cl : List (Str × Addr)) (fp : List Addr), PE (X.blk s H scope (compEnvC scope cl C X.env) fp) kx tk) (he : ∀ (s : Shared) (H : Hp) (C : Addr) (cl : List (Str × Addr)) (fp : List Addr), PE (X.blk s H scope (compEnvC scope cl C X.env) fp) vx tv) (hs : ∀ x, foldedSetIterable iter X.env x = pure x := by intro _; rfl) (hs1 : ∀ env x, foldedSetIterable iter1 env x = pure x := by intro _ _; rfl) :
    PE X (.DictComp kx vx [⟨tg, iter, ifs, 0⟩, ⟨tg1, iter1, ifs1, 0⟩] scope pos) (tD2X nw wi g tt wi1 g1 tt1 tk tv (own.map (·.2)) vs1) := by
  refine ⟨fun pins s σ H Q I h => ?_⟩
  rw [arm_eval_DictComp]
  refine dc2_core hnw hu hc hN I hi ok hv hg ht hk he hs hi1 hg1 ht1 hs1 h fun D C s' m H' I' q hn f => ⟨m, hn, fun h'' sb => ?_⟩
  obtain ⟨f0, f1, f2, f3, f4, f5⟩ := f
  exact ⟨.ref D, H', I'.turned (t' := s'.toks) (fun b o hb e => (sb.2 b hb).trans e) f0 f1 f3 f4 f5, rfl, q⟩
theorem ps_setD2X {nw : HO} (hnw : nw = .dK [] ∨ nw = .dT []) (hu : X.A.units + 1 < cLine) {i : Nat} {y : Str} {py : Pos} {kx vx tg iter tg1 iter1 : Expr} {ifs ifs1 : List Expr} {scope : Scope} {own : List (Str × Nat)} {vs1 : List Nat} {pos spos : Pos} {wi wi1 : TI} {g g1 : TG} {tt tt1 : TT} {tk tv : TE} (hc : X.calm = true) (hN : X.N.Nodup) (hy : X.N[i]? = some y) (hyl : X.env.scope.names.lookup y = some .local)
    (hsw : swapsWith (.DictComp kx vx [⟨tg, iter, ifs, 0⟩, ⟨tg1, iter1, ifs1, 0⟩] scope pos) (some (.Name y py)) spos.line X.env = pure true) (hi : PI X tg iter wi) (ok : BlkOk X.N X.env.scope scope own) (hv : ∀ i ∈ vs1, i ∈ own.map (·.2))
    (hg : ∀ (s : Shared) (H : Hp) (C : Addr) (cl : List (Str × Addr)) (fp : List Addr), PG (X.blk s H scope (compEnvC scope cl C X.env) fp) tg g) (ht : ∀ (s : Shared) (H : Hp) (C : Addr) (cl : List (Str × Addr)) (fp : List Addr), PTs (X.blk s H scope (compEnvC scope cl C X.env) fp) ifs tt)
    (hi1 : ∀ (s : Shared) (H : Hp) (C : Addr) (cl : List (Str × Addr)) (fp : List Addr), PI (X.blk s H scope (compEnvC scope cl C X.env) fp) tg1 iter1 wi1)
    (hg1 : ∀ (s : Shared) (H : Hp) (C : Addr) (cl : List (Str × Addr)) (fp : List Addr), PG (X.blk s H scope (compEnvC scope cl C X.env) fp) tg1 g1) (ht1 : ∀ (s : Shared) (H : Hp) (C : Addr) (cl : List (Str × Addr)) (fp : List Addr), PTs (X.blk s H scope (compEnvC scope cl C X.env) fp) ifs1 tt1)
    (hk : ∀ (s : Shared) (H : Hp) (C : Addr) (cl : List (Str × Addr)) (fp : List Addr), PE (X.blk s H scope (compEnvC scope cl C X.env) fp) kx tk) (he : ∀ (s : Shared) (H : Hp) (C : Addr) (cl : List (Str × Addr)) (fp : List Addr), PE (X.blk s H scope (compEnvC scope cl C X.env) fp) vx tv) (hs : ∀ x, foldedSetIterable iter X.env x = pure x := by intro _; rfl) (hs1 : ∀ env x, foldedSetIterable iter1 env x = pure x := by intro _ _; rfl) :
    PS X (.Assign [.Name y py] (.DictComp kx vx [⟨tg, iter, ifs, 0⟩, ⟨tg1, iter1, ifs1, 0⟩] scope pos) spos) (tAsg (tD2X nw wi g tt wi1 g1 tt1 tk tv (own.map (·.2)) vs1) (gName i)) := by
  refine ⟨fun pins s σ H D I h => ?_⟩
  rw [exec_Assign_Name_used _ _ _ _ hsw]
  refine wpAny_bind (wpAny_standAt (wpAny_bind ?_))
  show wpAny _ X.A (do let _ ← comprehension (.DictComp kx vx [⟨tg, iter, ifs, 0⟩, ⟨tg1, iter1, ifs1, 0⟩] scope pos) scope X.env (firstIterPos [⟨tg, iter, ifs, 0⟩, ⟨tg1, iter1, ifs1, 0⟩] pos) newDict false (eval iter X.env) (some (assign (.Name y py) X.env))) _ _ s
  have h : tD2X nw wi g tt wi1 g1 tt1 tk tv (own.map (·.2)) vs1 σ H (fun x H1 => gName i x σ H1 D.nx) := h
  refine wpAny_bind (thn (dc2_core (Qf := fun _ s' => SP X pins D .next s') hnw hu hc hN I hi ok hv hg ht hk he hs hi1 hg1 ht1 hs1 h fun L C s' m H' I' q hn f => ?_) fun _ s' hq => wpAny_pure (wpAny_pure hq))
  show wpAny _ _ (assign (.Name y py) X.env (.ref L)) _ _ _
  refine wpAny_assign_Name (store_ok2 (v := V.ref L) I' hN hy (.inl hyl) rfl (fun s2 I2 ⟨a, sb, ha⟩ => ?_) (.inr hyl))
  obtain ⟨f0, f1, f2, f3, f4, f5⟩ := f
  have haC : C ≠ a := by
    rcases ha with z | z
    · rw [z]; exact f1
    · exact fun e => f4 y a z e.symm
  refine ⟨m, hn.sameBut sb haC, fun h3 sb3 => ?_⟩
  exact ⟨_, H', I2.turned (t' := s2.toks) (fun b o hb e => (sb3.2 b hb).trans e) f0 f1 f3 f4 f5, q⟩
end
end DR
set_option maxHeartbeats 4000000
/-! DR: dict comprehensions of two clauses. -/
namespace DR
open PySem PySem.Spec PyProof.Rows L2
def dc2L (t : Tg) (tt : TM) (it1 : IM) (t1 : Tg) (tt1 : TM) (fk fv : EM) (vs vs1 : List Nat) : List PV → PV → DS → Re PV
  | [], d, s => .ok d s
  | p :: ps, d, s => match asgT t p (wipeE vs s.e) with
    | none => .bad
    | some e' => (tt ⟨e', s.t⟩).bind fun b s1 => if b = true then (it1 s1).bind fun qs s2 => (dcL t1 tt1 fk fv vs1 qs d s2).bind fun d' s3 => dc2L t tt it1 t1 tt1 fk fv vs vs1 ps d' s3
      else dc2L t tt it1 t1 tt1 fk fv vs vs1 ps d s1
def dc2O (d0 : PV) (it : IM) (t : Tg) (tt : TM) (it1 : IM) (t1 : Tg) (tt1 : TM) (fk fv : EM) (vs vs1 : List Nat) : OM := fun s => (it s).bind fun ps s1 => (noX (dc2L t tt it1 t1 tt1 fk fv vs vs1 ps d0 s1)).bind fun d s2 => .ok (d, true) ⟨restE vs s1.e s2.e, s2.t⟩
/-- how far it is: its dict at D -/
structure FarD (K : PySem.W.Frag) (W0 : Wd) (H0 : Hp) (D : Addr) (e : DE) (σ : L2.St) (H2 : Hp) (t : DT) (d : PV) (W2 : Wd) : Prop where
  l : LSt W0 H0 D W2 H2
  R : RSt K W2 H2 ⟨e, t⟩ σ
  A : Con K W2 H2 d D
  k : isDict d
section
variable {K : PySem.W.Frag} {W0 W2 W3 : Wd} {H0 H2 H3 : Hp} {D : Addr} {e e' : DE} {σ σ' : L2.St} {t t' : DT} {d : PV}
theorem FarD.step (F : FarD K W0 H0 D e σ H2 t d W2) (st : Step W2 H2 W3 H3) (R : RSt K W3 H3 ⟨e', t'⟩ σ') : FarD K W0 H0 D e' σ' H3 t' d W3 := ⟨F.l.step st, R, con_there F.A st F.l.inP, F.k⟩
theorem FarD.wipe (F : FarD K W0 H0 D e σ H2 t d W2) (vs : List Nat) : FarD K W0 H0 D (wipeE vs e) (L2.wipe σ vs) H2 t d W2 := ⟨F.l, F.R.wipe vs, F.A, F.k⟩
end
section
variable {X : Cx} {Z : WX} {it it1 : IM} {t t1 : Tg} {tt tt1 : TM} {vs vs1 : List Nat} {fk fv : EM} {pos : Pos}
theorem dc2L_cons (p : PV) (ps : List PV) (d : PV) (s : DS) : dc2L t tt it1 t1 tt1 fk fv vs vs1 (p :: ps) d s = match asgT t p (wipeE vs s.e) with
    | none => .bad
    | some e' => (tt ⟨e', s.t⟩).bind fun b s1 => if b = true then (it1 s1).bind fun qs s2 => (dcL t1 tt1 fk fv vs1 qs d s2).bind fun d' s3 => dc2L t tt it1 t1 tt1 fk fv vs vs1 ps d' s3
      else dc2L t tt it1 t1 tt1 fk fv vs vs1 ps d s1 := rfl
theorem tD2X_of {Q : VK} {σ : L2.St} {H : Hp} {K : PySem.W.Frag} {nw : HO} {d0 : PV} (hd0 : isDict d0) (hnw : ∀ W H D, Con K W (upd H D nw) d0 D) (ht : tgIn t vs = true) (ht1 : tgIn t1 vs1 = true) (hin : ∀ i ∈ vs1, i ∈ vs) (h : tO K Z (dc2O d0 it t tt it1 t1 tt1 fk fv vs vs1) σ H Q) :
    tD2X nw (tI K Z it) (gX K t) (tT K Z0 tt) (tI K Z0 it1) (gX K t1) (tT K Z0 tt1) (tE K Z0 fk) (tE K Z0 fv) vs vs1 σ H Q := by
  obtain ⟨W, s, R, h⟩ := h
  refine ⟨W, s, R, Post.bind h fun ps s1 J W1 H1 _ st0 R1 G q D hD => ?_⟩
  have G : Goes K J ps W1 H1 := G
  obtain ⟨W1', stN, R1', hL⟩ := R1.newL hD
  obtain ⟨nO, nS, nP⟩ := Wd.notL.mp hL
  have q := Post.step q stN
  obtain ⟨Rk, vk⟩ := R1'.keep (o := nw) hD nO (hnw W1' H1 D).nt
  have good : ∀ {P : Prop}, (dc2L t tt it1 t1 tt1 fk fv vs vs1 ps d0 s1 = .bad ∨ ∃ x s', dc2L t tt it1 t1 tt1 fk fv vs vs1 ps d0 s1 = .exc x s') → P := fun {P} z => by
    rcases z with z | ⟨x, s', z⟩ <;> (rw [z] at q; exact q.elim)
  refine ⟨fun i m H2 => m = ps.length - i ∧ i ≤ ps.length ∧ ∃ W2 s2 d, FarD K W1' H1 D (wipeE vs s2.e) (L2.wipe σ vs) H2 s2.t d W2 ∧ dc2L t tt it1 t1 tt1 fk fv vs vs1 ps d0 s1 = dc2L t tt it1 t1 tt1 fk fv vs vs1 (ps.drop i) d s2,
    ⟨ps.length, by simp, Nat.zero_le _, W1'.keep D, s1, d0, ⟨LSt.start hD nP, Rk.wipe vs, hnw _ _ _, hd0⟩, rfl⟩, ?_⟩
  rintro i m H2 ⟨rfl, hi, W2, s2, d, F, eq⟩
  have vw : Vw W1 H1 W2 H2 := stN.vw.trans F.l.vw
  by_cases hlt : i < ps.length
  · refine .inr ⟨G.go W2 H2 i vw hlt, fun H2 => i + 1 ≤ ps.length ∧ ∃ W2 s2 d, FarD K W1' H1 D (wipeE vs s2.e) (L2.wipe σ vs) H2 s2.t d W2 ∧ dc2L t tt it1 t1 tt1 fk fv vs vs1 ps d0 s1 = dc2L t tt it1 t1 tt1 fk fv vs vs1 (ps.drop (i + 1)) d s2, fun H' z => ⟨ps.length - (i + 1), by omega, rfl, z⟩, fun x H3 y => ?_⟩
    obtain ⟨W3, st3, R3, rv⟩ := G.yld W2 H2 i x H3 ps[i] ⟨wipeE vs s2.e, s2.t⟩ (L2.wipe σ vs) vw (List.getElem?_eq_getElem hlt) F.R y
    have F3 := F.step st3 R3
    have eq2 := eq
    rw [List.drop_eq_getElem_cons hlt, dc2L_cons] at eq2
    cases e1 : asgT t ps[i] (wipeE vs s2.e) with
    | none => simp only [e1] at eq2; exact good (.inl eq2)
    | some e2 =>
      simp only [e1] at eq2
      refine ⟨W3, ⟨wipeE vs s2.e, s2.t⟩, ps[i], R3, rv, e2, e1, fun σ4 hw R4 => ⟨(hw vs ht).trans (wipe_wipe σ), W3, ⟨e2, s2.t⟩, R4, ?_⟩⟩
      have hw4 : L2.wipe σ4 vs = L2.wipe σ vs := (hw vs ht).trans (wipe_wipe σ)
      have F4 : FarD K W1' H1 D e2 σ4 H3 s2.t d W3 := F3.step (Step.refl _ _) R4
      cases e3 : tt ⟨e2, s2.t⟩ with
      | bad => rw [e3] at eq2; exact good (.inl eq2)
      | exc x s3 => rw [e3] at eq2; exact good (.inr ⟨x, s3, eq2⟩)
      | ok b s3 =>
        rw [e3] at eq2
        simp only [Re.bind] at eq2
        intro c W4 H4 st4 R5 rc
        obtain rfl : c = b := rc
        have F5 := F4.step st4 R5
        cases c with
        | false =>
          rw [if_neg (by decide)] at eq2 ⊢
          exact ⟨hlt, W4, s3, d, by rw [← hw4]; exact F5.wipe vs, eq2⟩
        | true =>
          rw [if_pos rfl] at eq2 ⊢
          refine ⟨W4, s3, R5, ?_⟩
          cases e4 : it1 s3 with
          | bad => rw [e4] at eq2; exact good (.inl eq2)
          | exc x s4 => rw [e4] at eq2; exact good (.inr ⟨x, s4, eq2⟩)
          | ok qs s4 =>
            rw [e4] at eq2
            simp only at eq2
            intro J1 W5 H5 st5 R6 G1
            have G1 : Goes K J1 qs W5 H5 := G1
            have F6 := F5.step st5 R6
            refine ⟨fun j k H => k = qs.length - j ∧ j ≤ qs.length ∧ ∃ W' s' d', FarD K W1' H1 D (wipeE vs1 s'.e) (L2.wipe σ4 vs1) H s'.t d' W' ∧ Vw W5 H5 W' H ∧ dcL t1 tt1 fk fv vs1 qs d s4 = dcL t1 tt1 fk fv vs1 (qs.drop j) d' s',
              ⟨qs.length, by simp, Nat.zero_le _, W5, s4, d, F6.wipe vs1, (Step.refl _ _).vw, rfl⟩, ?_⟩
            rintro j k H6 ⟨rfl, hj, W6, s6, d6, F7, vw7, eq7⟩
            by_cases hl2 : j < qs.length
            · refine .inr ⟨G1.go W6 H6 j vw7 hl2, fun H => j + 1 ≤ qs.length ∧ ∃ W' s' d', FarD K W1' H1 D (wipeE vs1 s'.e) (L2.wipe σ4 vs1) H s'.t d' W' ∧ Vw W5 H5 W' H ∧ dcL t1 tt1 fk fv vs1 qs d s4 = dcL t1 tt1 fk fv vs1 (qs.drop (j + 1)) d' s', fun H' z => ⟨qs.length - (j + 1), by omega, rfl, z⟩, fun x2 H7 y2 => ?_⟩
              obtain ⟨W7, st7, R7, rv7⟩ := G1.yld W6 H6 j x2 H7 qs[j] ⟨wipeE vs1 s6.e, s6.t⟩ (L2.wipe σ4 vs1) vw7 (List.getElem?_eq_getElem hl2) F7.R y2
              have F8 := F7.step st7 R7
              have eq8 := eq7
              rw [List.drop_eq_getElem_cons hl2, dcL_cons] at eq8
              cases e5 : asgT t1 qs[j] (wipeE vs1 s6.e) with
              | none => simp only [e5] at eq8; rw [eq8] at eq2; exact good (.inl eq2)
              | some e6 =>
                simp only [e5] at eq8
                refine ⟨W7, ⟨wipeE vs1 s6.e, s6.t⟩, qs[j], R7, rv7, e6, e5, fun σ9 hw9 R9 => ⟨(hw9 vs1 ht1).trans (wipe_wipe σ4), ?_⟩⟩
                have F9 : FarD K W1' H1 D e6 σ9 H7 s6.t d6 W7 := F8.step (Step.refl _ _) R9
                have gb : ∀ {P : Prop}, dcL t1 tt1 fk fv vs1 qs d s4 = .bad → P := fun {P} z => by
                  rw [z] at eq2
                  exact good (.inl eq2)
                have ge : ∀ {P : Prop} x s, dcL t1 tt1 fk fv vs1 qs d s4 = (.exc x s) → P := fun {P} x s z => by
                  rw [z] at eq2
                  exact good (.inr ⟨x, s, eq2⟩)
                have vw9 : Vw W5 H5 W7 H7 := vw7.trans st7.vw
                refine ⟨W7, ⟨e6, s6.t⟩, F9.R, ?_⟩
                cases e8 : tt1 ⟨e6, s6.t⟩ with
                | bad => rw [e8] at eq8; exact gb eq8
                | exc x s3 => rw [e8] at eq8; exact ge _ _ eq8
                | ok b s8 =>
                  rw [e8] at eq8
                  simp only [Re.bind] at eq8
                  intro c W10 H10 st10 R10 rc
                  obtain rfl : c = b := rc
                  have F10 := F9.step st10 R10
                  have hw : L2.wipe σ9 vs1 = L2.wipe σ4 vs1 := (hw9 vs1 ht1).trans (wipe_wipe σ4)
                  cases c with
                  | false =>
                    rw [if_neg (by decide)] at eq8 ⊢
                    exact ⟨hl2, W10, s8, d6, by rw [← hw]; exact F10.wipe vs1, vw9.trans st10.vw, eq8⟩
                  | true =>
                    rw [if_pos rfl] at eq8 ⊢
                    refine ⟨W10, s8, R10, ?_⟩
                    cases e9 : fk s8 with
                    | bad => rw [e9] at eq8; exact gb eq8
                    | exc x s4 => rw [e9] at eq8; exact ge _ _ eq8
                    | ok y s9 =>
                      rw [e9] at eq8
                      simp only at eq8
                      intro kv W11 H11 st11 R11 rv11
                      have F11 := F10.step st11 R11
                      refine ⟨W11, s9, R11, ?_⟩
                      cases e10 : fv s9 with
                      | bad => rw [e10] at eq8; exact gb eq8
                      | exc x s4 => rw [e10] at eq8; exact ge _ _ eq8
                      | ok u s10 =>
                        rw [e10] at eq8
                        simp only at eq8
                        intro uv W12 H12 st12 R12 rv12
                        have F12 := F11.step st12 R12
                        cases e11 : setU y u d6 with
                        | none => simp only [e11] at eq8; exact gb eq8
                        | some r =>
                          simp only [e11] at eq8
                          obtain ⟨hd', o, put, hA'⟩ := setU_put F12.k (Classical.byContradiction fun y => (Wd.notL.mp y).2.2 F12.l.inP) F12.A e11 (st12.rv rv11) rv12
                          have F13 := F12.wipe vs1
                          rw [hw] at F13
                          refine ⟨_, put, hl2, W12, s10, r.1, ⟨F13.l.poke, F13.R.poke F13.l.inP hA'.nt, hA', hd'⟩, ?_, eq8⟩
                          have vw12 := ((vw9.trans st10.vw).trans st11.vw).trans st12.vw
                          exact ⟨by rw [Wd.m_upd (by simp [Wd.L, F13.l.inP])]; exact vw12.same, vw12.pre⟩
            · have e : j = qs.length := by omega
              subst e
              rw [List.drop_length] at eq7
              refine .inl ⟨G1.stop W6 H6 vw7, hlt, W6, s6, d6, ?_, ?_⟩
              · have F8 := F7.wipe vs
                rw [wipeE_in _ hin, wipe_in _ hin, hw4] at F8
                exact F8
              · rw [eq7] at eq2
                exact eq2
  · have e : i = ps.length := by omega
    subst e
    rw [List.drop_length] at eq
    refine .inl ⟨G.stop W2 H2 vw, ?_⟩
    rw [eq] at q
    have l := F.l
    have R2 := F.R
    have hA' : Th H2 D := F.A.th
    refine q (.ref D) ⟨D :: W2.O, W2.S, W1'.P⟩ H2 l.fin (l.fin_R hA' R1'.e R2) ⟨D, rfl, List.mem_cons_self, ?_, fun j p hj z => ?_⟩
    · have hm := l.fin_m
      have hA := F.A
      rcases F.k with ⟨kl, rfl⟩ | ⟨kl, rfl⟩
      · obtain ⟨ws, c1, c2⟩ := con_dK hA
        exact ⟨ws, c1, by rw [hm]; exact c2⟩
      · obtain ⟨ws, c1, c2⟩ := con_dT hA
        exact ⟨ws, c1, by rw [hm]; exact c2⟩
    · obtain ⟨hj, hj2⟩ := restE_own hj
      obtain ⟨a, g1, g2, _⟩ := R2.e.ow j p (by rw [wipeE_get, if_neg hj]; exact hj2)
      rw [wipe_get, if_neg hj] at g1
      rw [g1] at z
      have za : a = D := by injection z with z; injection z with z; injection z
      exact R2.t.pa a g2 (by rw [l.P, za]; exact List.mem_cons_self)
theorem po_dc2 {nw : HO} (hnw : nw = .dK [] ∨ nw = .dT []) {d0 : PV} (hd0 : isDict d0) (hn : ∀ (K : PySem.W.Frag) W H D, Con K W (upd H D nw) d0 D) {kx vx tgt iter tgt1 iter1 : Expr} {ifs ifs1 : List Expr} {scope : Scope} {own : List (Str × Nat)} (hu : X.A.units + 1 < cLine) (hc : X.calm = true) (hN : X.N.Nodup) (hi : PIX X Z tgt iter it) (ok : BlkOk X.N X.env.scope scope own) (hg : Blk X scope fun Y => PGX Y tgt t) (ht : Blk X scope fun Y => PTsX Y ifs tt)
    (hi1 : Blk X scope fun Y => PIX Y Z0 tgt1 iter1 it1) (hg1 : Blk X scope fun Y => PGX Y tgt1 t1) (ht1 : Blk X scope fun Y => PTsX Y ifs1 tt1) (hk : Blk X scope fun Y => PX Y Z0 kx fk) (he : Blk X scope fun Y => PX Y Z0 vx fv)
    (hv : own.map (·.2) = vs := by rfl) (hin : tgIn t vs = true := by rfl) (hin1 : tgIn t1 vs1 = true := by rfl) (hsub : ∀ i ∈ vs1, i ∈ vs := by decide) (hs : ∀ x, foldedSetIterable iter X.env x = pure x := by intro _; rfl) (hs1 : ∀ env x, foldedSetIterable iter1 env x = pure x := by intro _ _; rfl) :
    PO X Z (.DictComp kx vx [⟨tgt, iter, ifs, 0⟩, ⟨tgt1, iter1, ifs1, 0⟩] scope pos) (dc2O d0 it t tt it1 t1 tt1 fk fv vs vs1) := by
  subst hv
  exact ⟨PE_imp (pe_d2X hnw hu (wi := tI X.K Z it) (g := gX X.K t) (tt := tT X.K Z0 tt) (wi1 := tI X.K Z0 it1) (g1 := gX X.K t1) (tt1 := tT X.K Z0 tt1) (tk := tE X.K Z0 fk) (tv := tE X.K Z0 fv) hc hN hi.pi ok hsub (fun s H L cl fp => (hg s H L cl fp).pg) (fun s H L cl fp => (ht s H L cl fp).pts) (fun s H L cl fp => (hi1 s H L cl fp).pi) (fun s H L cl fp => (hg1 s H L cl fp).pg) (fun s H L cl fp => (ht1 s H L cl fp).pts) (fun s H L cl fp => (hk s H L cl fp).pe) (fun s H L cl fp => (he s H L cl fp).pe) hs hs1) fun σ H Q h => tD2X_of hd0 (hn X.K) hin hin1 hsub h⟩
theorem po_dc2K {kx vx tgt iter tgt1 iter1 : Expr} {ifs ifs1 : List Expr} {scope : Scope} {own : List (Str × Nat)} (hu : X.A.units + 1 < cLine) (hc : X.calm = true) (hN : X.N.Nodup) (hi : PIX X Z tgt iter it) (ok : BlkOk X.N X.env.scope scope own) (hg : Blk X scope fun Y => PGX Y tgt t) (ht : Blk X scope fun Y => PTsX Y ifs tt)
    (hi1 : Blk X scope fun Y => PIX Y Z0 tgt1 iter1 it1) (hg1 : Blk X scope fun Y => PGX Y tgt1 t1) (ht1 : Blk X scope fun Y => PTsX Y ifs1 tt1) (hk : Blk X scope fun Y => PX Y Z0 kx fk) (he : Blk X scope fun Y => PX Y Z0 vx fv)
    (hv : own.map (·.2) = vs := by rfl) (hin : tgIn t vs = true := by rfl) (hin1 : tgIn t1 vs1 = true := by rfl) (hsub : ∀ i ∈ vs1, i ∈ vs := by decide) (hs : ∀ x, foldedSetIterable iter X.env x = pure x := by intro _; rfl) (hs1 : ∀ env x, foldedSetIterable iter1 env x = pure x := by intro _ _; rfl) :
    PO X Z (.DictComp kx vx [⟨tgt, iter, ifs, 0⟩, ⟨tgt1, iter1, ifs1, 0⟩] scope pos) (dc2O (.dK []) it t tt it1 t1 tt1 fk fv vs vs1) :=
  po_dc2 (.inl rfl) (.inl ⟨_, rfl⟩) (fun _ => dK_new) hu hc hN hi ok hg ht hi1 hg1 ht1 hk he hv hin hin1 hsub hs hs1
theorem po_dc2T {kx vx tgt iter tgt1 iter1 : Expr} {ifs ifs1 : List Expr} {scope : Scope} {own : List (Str × Nat)} (hu : X.A.units + 1 < cLine) (hc : X.calm = true) (hN : X.N.Nodup) (hi : PIX X Z tgt iter it) (ok : BlkOk X.N X.env.scope scope own) (hg : Blk X scope fun Y => PGX Y tgt t) (ht : Blk X scope fun Y => PTsX Y ifs tt)
    (hi1 : Blk X scope fun Y => PIX Y Z0 tgt1 iter1 it1) (hg1 : Blk X scope fun Y => PGX Y tgt1 t1) (ht1 : Blk X scope fun Y => PTsX Y ifs1 tt1) (hk : Blk X scope fun Y => PX Y Z0 kx fk) (he : Blk X scope fun Y => PX Y Z0 vx fv)
    (hv : own.map (·.2) = vs := by rfl) (hin : tgIn t vs = true := by rfl) (hin1 : tgIn t1 vs1 = true := by rfl) (hsub : ∀ i ∈ vs1, i ∈ vs := by decide) (hs : ∀ x, foldedSetIterable iter X.env x = pure x := by intro _; rfl) (hs1 : ∀ env x, foldedSetIterable iter1 env x = pure x := by intro _ _; rfl) :
    PO X Z (.DictComp kx vx [⟨tgt, iter, ifs, 0⟩, ⟨tgt1, iter1, ifs1, 0⟩] scope pos) (dc2O (.dT []) it t tt it1 t1 tt1 fk fv vs vs1) :=
  po_dc2 (.inr rfl) (.inr ⟨_, rfl⟩) (fun _ => dT_new) hu hc hN hi ok hg ht hi1 hg1 ht1 hk he hv hin hin1 hsub hs hs1
theorem ps_setDc2 {nw : HO} (hnw : nw = .dK [] ∨ nw = .dT []) {d0 : PV} (hd0 : isDict d0) (hn : ∀ (K : PySem.W.Frag) W H D, Con K W (upd H D nw) d0 D) {i : Nat} {y : Str} {py spos : Pos} {kx vx tgt iter tgt1 iter1 : Expr} {ifs ifs1 : List Expr} {scope : Scope} {own : List (Str × Nat)} (hu : X.A.units + 1 < cLine) (hc : X.calm = true) (hN : X.N.Nodup) (hy : X.N[i]? = some y) (hyl : X.env.scope.names.lookup y = some .local)
    (hsw : swapsWith (.DictComp kx vx [⟨tgt, iter, ifs, 0⟩, ⟨tgt1, iter1, ifs1, 0⟩] scope pos) (some (.Name y py)) spos.line X.env = pure true) (hi : PIX X Z tgt iter it) (ok : BlkOk X.N X.env.scope scope own) (hg : Blk X scope fun Y => PGX Y tgt t) (ht : Blk X scope fun Y => PTsX Y ifs tt)
    (hi1 : Blk X scope fun Y => PIX Y Z0 tgt1 iter1 it1) (hg1 : Blk X scope fun Y => PGX Y tgt1 t1) (ht1 : Blk X scope fun Y => PTsX Y ifs1 tt1) (hk : Blk X scope fun Y => PX Y Z0 kx fk) (he : Blk X scope fun Y => PX Y Z0 vx fv)
    (hv : own.map (·.2) = vs := by rfl) (hin : tgIn t vs = true := by rfl) (hin1 : tgIn t1 vs1 = true := by rfl) (hsub : ∀ i ∈ vs1, i ∈ vs := by decide) (hs : ∀ x, foldedSetIterable iter X.env x = pure x := by intro _; rfl) (hs1 : ∀ env x, foldedSetIterable iter1 env x = pure x := by intro _ _; rfl) :
    PSX X Z (.Assign [.Name y py] (.DictComp kx vx [⟨tgt, iter, ifs, 0⟩, ⟨tgt1, iter1, ifs1, 0⟩] scope pos) spos) (setS i (dc2O d0 it t tt it1 t1 tt1 fk fv vs vs1)) := by
  subst hv
  refine ⟨PS_imp (ps_setD2X hnw hu (wi := tI X.K Z it) (g := gX X.K t) (tt := tT X.K Z0 tt) (wi1 := tI X.K Z0 it1) (g1 := gX X.K t1) (tt1 := tT X.K Z0 tt1) (tk := tE X.K Z0 fk) (tv := tE X.K Z0 fv) hc hN hy hyl hsw hi.pi ok hsub (fun s H L cl fp => (hg s H L cl fp).pg) (fun s H L cl fp => (ht s H L cl fp).pts) (fun s H L cl fp => (hi1 s H L cl fp).pi) (fun s H L cl fp => (hg1 s H L cl fp).pg) (fun s H L cl fp => (ht1 s H L cl fp).pts) (fun s H L cl fp => (hk s H L cl fp).pe) (fun s H L cl fp => (he s H L cl fp).pe) hs hs1) fun D σ H ⟨W, s, R, h⟩ => ?_⟩
  exact tD2X_of hd0 (hn X.K) hin hin1 hsub ⟨W, s, R, PostS.bindE h fun p s1 y W1 H1 _ st R1 ry q => q _ W1 H1 (Step.refl _ _) (R1.put ry)⟩
theorem ps_setDc2K {i : Nat} {y : Str} {py spos : Pos} {kx vx tgt iter tgt1 iter1 : Expr} {ifs ifs1 : List Expr} {scope : Scope} {own : List (Str × Nat)} (hu : X.A.units + 1 < cLine) (hc : X.calm = true) (hN : X.N.Nodup) (hy : X.N[i]? = some y) (hyl : X.env.scope.names.lookup y = some .local)
    (hsw : swapsWith (.DictComp kx vx [⟨tgt, iter, ifs, 0⟩, ⟨tgt1, iter1, ifs1, 0⟩] scope pos) (some (.Name y py)) spos.line X.env = pure true) (hi : PIX X Z tgt iter it) (ok : BlkOk X.N X.env.scope scope own) (hg : Blk X scope fun Y => PGX Y tgt t) (ht : Blk X scope fun Y => PTsX Y ifs tt)
    (hi1 : Blk X scope fun Y => PIX Y Z0 tgt1 iter1 it1) (hg1 : Blk X scope fun Y => PGX Y tgt1 t1) (ht1 : Blk X scope fun Y => PTsX Y ifs1 tt1) (hk : Blk X scope fun Y => PX Y Z0 kx fk) (he : Blk X scope fun Y => PX Y Z0 vx fv)
    (hv : own.map (·.2) = vs := by rfl) (hin : tgIn t vs = true := by rfl) (hin1 : tgIn t1 vs1 = true := by rfl) (hsub : ∀ i ∈ vs1, i ∈ vs := by decide) (hs : ∀ x, foldedSetIterable iter X.env x = pure x := by intro _; rfl) (hs1 : ∀ env x, foldedSetIterable iter1 env x = pure x := by intro _ _; rfl) :
    PSX X Z (.Assign [.Name y py] (.DictComp kx vx [⟨tgt, iter, ifs, 0⟩, ⟨tgt1, iter1, ifs1, 0⟩] scope pos) spos) (setS i (dc2O (.dK []) it t tt it1 t1 tt1 fk fv vs vs1)) :=
  ps_setDc2 (.inl rfl) (.inl ⟨_, rfl⟩) (fun _ => dK_new) hu hc hN hy hyl hsw hi ok hg ht hi1 hg1 ht1 hk he hv hin hin1 hsub hs hs1
theorem ps_setDc2T {i : Nat} {y : Str} {py spos : Pos} {kx vx tgt iter tgt1 iter1 : Expr} {ifs ifs1 : List Expr} {scope : Scope} {own : List (Str × Nat)} (hu : X.A.units + 1 < cLine) (hc : X.calm = true) (hN : X.N.Nodup) (hy : X.N[i]? = some y) (hyl : X.env.scope.names.lookup y = some .local)
    (hsw : swapsWith (.DictComp kx vx [⟨tgt, iter, ifs, 0⟩, ⟨tgt1, iter1, ifs1, 0⟩] scope pos) (some (.Name y py)) spos.line X.env = pure true) (hi : PIX X Z tgt iter it) (ok : BlkOk X.N X.env.scope scope own) (hg : Blk X scope fun Y => PGX Y tgt t) (ht : Blk X scope fun Y => PTsX Y ifs tt)
    (hi1 : Blk X scope fun Y => PIX Y Z0 tgt1 iter1 it1) (hg1 : Blk X scope fun Y => PGX Y tgt1 t1) (ht1 : Blk X scope fun Y => PTsX Y ifs1 tt1) (hk : Blk X scope fun Y => PX Y Z0 kx fk) (he : Blk X scope fun Y => PX Y Z0 vx fv)
    (hv : own.map (·.2) = vs := by rfl) (hin : tgIn t vs = true := by rfl) (hin1 : tgIn t1 vs1 = true := by rfl) (hsub : ∀ i ∈ vs1, i ∈ vs := by decide) (hs : ∀ x, foldedSetIterable iter X.env x = pure x := by intro _; rfl) (hs1 : ∀ env x, foldedSetIterable iter1 env x = pure x := by intro _ _; rfl) :
    PSX X Z (.Assign [.Name y py] (.DictComp kx vx [⟨tgt, iter, ifs, 0⟩, ⟨tgt1, iter1, ifs1, 0⟩] scope pos) spos) (setS i (dc2O (.dT []) it t tt it1 t1 tt1 fk fv vs vs1)) :=
  ps_setDc2 (.inr rfl) (.inr ⟨_, rfl⟩) (fun _ => dT_new) hu hc hN hy hyl hsw hi ok hg ht hi1 hg1 ht1 hk he hv hin hin1 hsub hs hs1
end
end DR
set_option maxHeartbeats 4000000
/-! DR: len(set(xs)), xs a list of ints. -/
namespace DR
open PySem PySem.Spec PyProof.Rows L2
def dedL (ns : List Int) : List Int := ns.foldl step_dedup []
theorem firstMet_ded (ns : List Int) : firstMet (fun i => ns.getD i 0) ns.length = dedL ns := by
  unfold firstMet dedL
  congr 1
  refine List.ext_getElem (by simp) fun i h1 h2 => ?_
  simp [List.getD_eq_getElem?_getD, List.getElem?_eq_getElem h2]
section
variable {X : Cx} {Z : WX}
def tLenSetG (K : PySem.W.Frag) (ta : TE) : TE := fun σ H Q => ta σ H fun x H1 => ∃ (l : Addr) (ns : List Int), x = V.ref l ∧ SqL K H1 l (ns.map V.int) ∧ ns.length < 64 ∧ Q (.int (dedL ns).length) H1
theorem pe_lenSetG {a : Expr} {ta : TE} {p p2 q pos : Pos} (hc : X.calm = true) (hg : Gl X "len") (hm : X.mg "len" = none) (hg2 : Gl X "set") (hm2 : X.mg "set" = none) (ha : PE X a ta)
    (na : starEach [a] X.env = (false, eval a X.env) :: starEach [] X.env := by rfl) : PE X (.Call (.Name "len" p) [.Call (.Name "set" p2) [a] [] q] [] pos) (tLenSetG X.K ta) := by
  refine ⟨fun pins s σ H Q I h => ?_⟩
  refine Call_ (ld_blt I hg hm PySem.boot_len ?_)
  refine PyProof.Rows.callWith_builtin1 (PyProof.Rows.args_cons ?_ rfl) rfl rfl
  refine Call_ (ld_blt I hg2 hm2 PyProof.Rows.boot_set ?_)
  refine PyProof.Rows.callWith_type1 (PyProof.Rows.args_cons (thn (ha.run pins s σ H _ I h) fun v s1 ⟨x, H1, I1, r1, q1⟩ => PyProof.Rows.args_nil ?_) na) na rfl
  obtain ⟨l, ns, rfl, hq, h1, q1⟩ := q1
  cases r1
  obtain ⟨its, r, pl, hz⟩ := I1.list hq
  have hl : its.toArray.size = ns.length := by rw [List.size_toArray, ← r.length, List.length_map]
  refine call_set_list (I1.ok.hd hc) pl.isList (ns := ns) (by simpa using r.ints) (by unfold scanBound; omega) fun h' tk hS hk => ?_
  rw [hl, firstMet_ded] at hS
  refine PyProof.Rows.args_nil ?_
  obtain ⟨o, es, ep, t, ho, hex, hd, _, _, _, hf, hn⟩ := hS
  have I2 : Inv X pins σ H1 { s1 with heap := h', toks := tk } := I1.kept fun b o e => hk b o (Heap.lt_size e) e
  have hle : (dedL ns).length ≤ ns.length := by rw [← firstMet_ded]; exact firstMet_length_le _ _
  refine call_len_set ho hex hd hf (by rw [hn] <;> omega) ⟨.int (dedL ns).length, H1, I2.tok _, ⟨_, by rw [hn]⟩, q1⟩
def lenSetG : G1 := fun p => match p with
  | .lst ps => (match intsP ps with
    | some ns => if ns.length < 64 then some (.int (dedL ns).length) else none
    | none => none)
  | _ => none
theorem px_lenSet {e : Expr} {f : EM} {p p2 q pos : Pos} (hc : X.calm = true) (hg : Gl X "len") (hm : X.mg "len" = none) (hg2 : Gl X "set") (hm2 : X.mg "set" = none) (ha : PB X Z e f)
    (na : starEach [e] X.env = (false, eval e X.env) :: starEach [] X.env := by rfl) : PX X Z (.Call (.Name "len" p) [.Call (.Name "set" p2) [e] [] q] [] pos) (un1E lenSetG f) := by
  refine px_of ⟨PE_imp (pe_lenSetG hc hg hm hg2 hm2 ha.pe na) fun σ H Q ⟨W, s, R, h⟩ => ⟨W, s, R, Post.bind h fun q s1 v W1 H1 _ st R1 rx po => ?_⟩⟩
  cases q with
  | lst ps =>
    simp only [g1, lenSetG] at po
    cases e1 : intsP ps with
    | none => simp only [e1, Option.map_none] at po; exact po.elim
    | some ns =>
      simp only [e1] at po
      by_cases hz : ns.length < 64
      · simp only [if_pos hz, Option.map_some] at po
        obtain ⟨a, vs, rfl, h1, h2⟩ := bv_lst rx
        have hv := ints_vs e1 h2
        subst hv
        exact ⟨a, ns, rfl, SqL.of h1, hz, po _ W1 H1 (Step.refl _ _) R1 (show RV X.K W1 H1 (.int _) (.int _) from rv_int)⟩
      · simp only [if_neg hz, Option.map_none] at po; exact po.elim
  | _ => simp only [g1, lenSetG, Option.map_none] at po; exact po.elim
end
end DR
set_option maxHeartbeats 4000000
/-! DR: sorted(d), d a dict keyed by tuples of ints, texts. -/
namespace DR
open PySem PySem.Spec PyProof.Rows L2
def keyD : Key → PyData
  | .inl i => .int i
  | .inr x => .str x
def keyPV : Key → PV
  | .inl i => .int i
  | .inr x => .str x
def tupKD (k : List Key) : PyData := .tuple (k.map keyD)
def tupKP (k : List Key) : PV := .tup false (k.map keyPV)
theorem keys_read {h : Heap} : ∀ {k : List Key} {us : List Value}, Vals (k.map kV) us → ReadsAll h us (k.map keyD) []
  | [], us, r => by cases r; exact .nil
  | x :: k, us, r => by
    cases r with
    | cons h1 h2 =>
      have t := keys_read (h := h) h2
      cases x with
      | inl i => obtain ⟨t1, rfl⟩ := h1; exact .cons (as := []) (.int i t1) t
      | inr z => obtain ⟨t1, rfl⟩ := h1; exact .cons (as := []) (.str z t1) t
theorem toDs_keys : ∀ k : List Key, toDs (k.map keyPV) = some (k.map keyD)
  | [] => rfl
  | x :: k => by
    have e := toDs_keys k
    cases x <;> simp [toDs, keyPV, keyD, toD, e]
theorem datP_key (k : List Key) : toD (tupKP k) = some (tupKD k) ∧ datP (tupKP k) = tupKD k := by
  have e : toD (tupKP k) = some (tupKD k) := by simp [toD, tupKP, tupKD, toDs_keys]
  exact ⟨e, by unfold datP; rw [e]; rfl⟩
section
variable {X : Cx}
def encK (b : Addr × List Key) : PyData := tupKD b.2
def rSortKT : List V → Hp → VK → Prop := fun xs H Q => ∃ d kvs, xs = [V.ref d] ∧ Rd H d (.dT kvs) ∧ PySem.W.AllAlike (kvs.map fun p => tupKD p.1) ∧ PySem.W.Sortable (kvs.map fun p => tupKD p.1) ∧ (∀ p ∈ kvs, (tupKD p.1).depth ≤ 62) ∧
  ∀ (bs : List (Addr × List Key)) (p : Addr), H p = none → bs.map (·.2) = kvs.map (·.1) → (∀ b ∈ bs, H b.1 = some (.tup (b.2.map kV))) → Q (.ref p) (upd H p (.lst ((bs.mergeSort (PySem.W.dataLe false encK)).map fun b => V.ref b.1)))
theorem paired_map {α β γ : Type} {R : α → β → Prop} {f : α → γ} {g : β → γ} (h : ∀ a b, R a b → f a = g b) : ∀ {xs : List α} {ys : List β}, Paired R xs ys → ys.map g = xs.map f
  | _, _, .nil => rfl
  | _, _, .cons r t => by rw [List.map_cons, List.map_cons, paired_map h t, h _ _ r]
theorem paired_all {α β : Type} {R : α → β → Prop} : ∀ {xs : List α} {ys : List β}, Paired R xs ys → ∀ y ∈ ys, ∃ x ∈ xs, R x y
  | _, _, .nil, y, h => nomatch h
  | _, _, .cons r t, y, h => by
    rcases List.mem_cons.mp h with rfl | h
    · exact ⟨_, List.mem_cons_self, r⟩
    · obtain ⟨x, hx, q⟩ := paired_all t y h
      exact ⟨x, List.mem_cons_of_mem _ hx, q⟩
theorem cr_sortKT (hcalm : X.calm = true) (hu : X.A.units + 65 < cLine) : CallR X (.builtin "sorted") rSortKT := by
  intro pins s σ H xs us Q I r h
  obtain ⟨d, kvs, rfl, hd, hal, hso, hdep, q⟩ := h
  obtain ⟨u, rfl, rx⟩ := vals1 r
  cases rx
  obtain ⟨z, hs, ks, pr, o, es, ep, ho, hx, hdt, he, hn⟩ := (show ObjOk X.prog X.w H s.heap d (.dT kvs) from hd.ok I.hok)
  have l1 : es.size = ks.length := size_of_entries he
  have l2 : kvs.length = ks.length := Paired.length pr
  refine Calls.call_function_entry PyProof.Rows.kind_sorted PyProof.Rows.plain_sorted PyProof.Rows.entry_sorted (PyProof.Rows.args_sorted1 _) ?_
  unfold Builtin.«sorted»
  refine wpAny_bind (m := checkCount "sorted" 1 1 _) (wpAny_pure ?_)
  refine wpAny_bind (PySem.W.kdu_collect (A := X.A.in1) (kdl_raw (o := o) hs hx hdt) (I.ok.hd hcalm) ho (by omega) fun h' tk acc kp it => ?_)
  have ea : acc.toList = ks.map fun x => Value.ref x.2.1 := by
    have hl : acc.toList.length = ks.length := by rw [Array.length_toList, it.1]; exact l1
    apply List.ext_getElem?
    intro j
    rw [List.getElem?_map]
    cases hj : acc.toList[j]? with
    | none =>
      have h1 := List.getElem?_eq_none_iff.mp hj
      rw [List.getElem?_eq_none (by omega)]
      all_goals rfl
    | some v =>
      obtain ⟨en, hen, hv⟩ := it.2 j v (by rw [← Array.getElem?_toList]; exact hj)
      have qe := entry_at he j
      rw [hen] at qe
      cases hb : ks[j]? with
      | none =>
        rw [hb] at qe
        exact nomatch (show some en = none from qe)
      | some b =>
        rw [hb] at qe
        have e2 : en = entryOfKey (tupleKind (mixKind X.prog X.w)) b := Option.some.inj qe
        rw [hv, e2]
        all_goals rfl
  have hal2 : acc.toList.length = kvs.length := by rw [ea, List.length_map]; exact l2.symm
  -- the items: (address, key)
  generalize ebs : ks.map (fun x => (x.2.1, x.1)) = bs
  have k1 : bs.map (·.2) = kvs.map (·.1) := by
    rw [← ebs, List.map_map]
    exact paired_map (fun a b h => h.1) pr
  have k2 : ∀ b ∈ bs, H b.1 = some (.tup (b.2.map kV)) := fun b hb => by
    rw [← ebs] at hb
    obtain ⟨x, hx, rfl⟩ := List.mem_map.mp hb
    obtain ⟨p, hp, e⟩ := paired_all pr x hx
    have e1 := e.1
    have e2 := e.2.1
    rw [e1] at e2
    exact e2
  have I1 : Inv X pins σ H { s with heap := h', toks := tk } := I.kept kp
  have eR : PySem.W.EachIs (fun u (b : Addr × List Key) => RelV (V.ref b.1) u) acc.toList bs := by
    rw [ea, ← ebs]
    refine each_vals (vs := []) ?_
    rw [List.map_map]
    have : (ks.map fun x => Value.ref x.2.1) = (ks.map fun x => x.2.1).map Value.ref := by rw [List.map_map]; rfl
    rw [this]
    have : (ks.map ((fun b : Addr × List Key => V.ref b.1) ∘ fun x => (x.2.1, x.1))) = (ks.map fun x => x.2.1).map V.ref := by rw [List.map_map]; rfl
    rw [this]
    exact vals_refs _
  refine wpAny_bind (wpAny_newList ?_ (by rw [hal2]; exact z))
  have hoL : (h'.push (seqObj "list" acc.toList.toArray 0)).get? h'.objs.size = some (seqObj "list" acc.toList.toArray 0) := Heap.get?_push_size _ rfl
  show wpAny _ _ _ _ _ { s with heap := h'.push (seqObj "list" acc.toList.toArray 0), toks := tk }
  have hkD : bs.map encK = kvs.map fun p => tupKD p.1 := by
    have : bs.map encK = (bs.map (·.2)).map tupKD := by rw [List.map_map]; rfl
    rw [this, k1, List.map_map]
    rfl
  have hlen : bs.length = kvs.length := by have := congrArg List.length k1; simpa using this
  have er : PySem.W.EachIs (fun v (b : Addr × List Key) => ∃ as, Reads (h'.push (seqObj "list" acc.toList.toArray 0)) v (encK b) as ∧ h'.objs.size ∉ as) acc.toList bs := by
    refine each_and eR fun u b hb hr => ?_
    obtain rfl : u = Value.ref b.1 := hr
    obtain ⟨_, its, rv, hl⟩ := (show ObjOk X.prog X.w H h' b.1 (.tup (b.2.map kV)) from I1.hok b.1 _ (k2 b hb))
    obtain ⟨o1, g1, g2, n1, g3⟩ := hl
    exact ⟨[], .tuple (Heap.get?_push_of_some _ g1) g2 g3 (by simpa using keys_read rv), by simp⟩
  refine wpAny_bind (wpAny_holding (PySem.W.list_sort_data (R := fun u (b : Addr × List Key) => RelV (V.ref b.1) u) (enc := encK) hoL eR er (by rw [hkD]; exact hal) (by rw [hkD]; exact hso) (by rw [hlen]; exact z) (fun b hb => ?_) fun out g1 g2 => ?_))
  · have e3 : b.2 ∈ kvs.map (·.1) := by rw [← k1]; exact List.mem_map.mpr ⟨b, hb, rfl⟩
    obtain ⟨p, hp, e4⟩ := List.mem_map.mp e3
    have := hdep p hp
    rw [e4] at this
    show X.A.in1.units + 1 + (tupKD b.2).depth < cLine
    have e5 : X.A.in1.units ≤ X.A.units + 1 := by first | exact Nat.le_refl _ | exact Nat.le_succ _ | (show X.A.units + 1 ≤ X.A.units + 1; exact Nat.le_refl _)
    omega
  obtain ⟨e', he'⟩ := PyProof.Rows.sortedHeap_at (vs := acc.toList) (out := out.toArray) hoL
  have hlen2 : ((bs.mergeSort (PySem.W.dataLe false encK)).map fun b => V.ref b.1).length ≤ sizeLine := by
    rw [List.length_map, List.length_mergeSort, hlen]
    exact z
  refine wpAny_pure ⟨_, rfl, .ref h'.objs.size, upd H h'.objs.size (.lst ((bs.mergeSort (PySem.W.dataLe false encK)).map fun b => V.ref b.1)), I1.laid (t' := tk) (fun b u e => ?_) (Nat.le_refl _)
    (show ObjOk X.prog X.w _ _ _ (.lst ((bs.mergeSort (PySem.W.dataLe false encK)).map fun b => V.ref b.1)) from ⟨hlen2, out, e', vals_each g2, he'⟩), rfl, q bs _ (I1.hok.fresh (Nat.le_refl _)) k1 k2⟩
  have hb : b < h'.objs.size := Heap.lt_size e
  rw [PyProof.Rows.sortedHeap_old (Nat.ne_of_lt hb) (by rw [size_push']; exact Nat.lt_succ_of_lt hb)]
  exact Heap.get?_push_of_some _ e
end
/-- a tuple is kept by nobody -/
theorem RSt.tupL {K : PySem.W.Frag} {W : Wd} {H : Hp} {s : DS} {σ : L2.St} (R : RSt K W H s σ) {b : Addr} {vs : List V} (h : H b = some (.tup vs)) : b ∉ W.L := by
  refine Wd.notL.mpr ⟨fun z => ?_, fun z => ?_, fun z => ?_⟩
  · obtain ⟨o, e, n⟩ := R.t.ot b z
    rw [h] at e; cases e; exact n _ rfl
  · obtain ⟨k, hk, e⟩ := List.mem_iff_getElem.mp z
    have hk2 : k < s.t.length := by rw [R.t.len]; exact hk
    obtain ⟨o, e1, n⟩ := (R.t.at_ k s.t[k] b (List.getElem?_eq_getElem hk2) (by rw [List.getElem?_eq_getElem hk, e])).th
    rw [h] at e1; cases e1; exact n _ rfl
  · obtain ⟨o, e, n⟩ := R.t.pt b z
    rw [h] at e; cases e; exact n _ rfl
theorem reps_key {K : PySem.W.Frag} {cs : List Addr} {H : Hp} : ∀ k : List Key, Reps K cs H (k.map keyPV) (k.map kV)
  | [] => reps_nil
  | x :: k => by
    refine reps_cons ?_ (reps_key k)
    cases x <;> (unfold Rep; rfl)
def sortKG : O1 := fun p => match p with
  | .dT kvs => if okSort (kvs.map fun kv => tupKP kv.1) then some (.lst ((kvs.map fun kv => tupKP kv.1).mergeSort leP), true) else none
  | _ => none
theorem repT_keys {K : PySem.W.Frag} {cs : List Addr} {H : Hp} : ∀ {kvs : List (List Key × PV)} {ws : List (List Key × V)}, RepT K cs H kvs ws → ws.map (·.1) = kvs.map (·.1)
  | [], ws, r => by unfold RepT at r; rw [r]; rfl
  | (k, p) :: kvs, ws, r => by
    unfold RepT at r
    obtain ⟨v, w, rfl, _, r2⟩ := r
    rw [List.map_cons, List.map_cons, repT_keys r2]
section
variable {X : Cx}
theorem okSort_data {ks : List (List Key)} (h : okSort (ks.map tupKP) = true) : PySem.W.AllAlike (ks.map tupKD) ∧ PySem.W.Sortable (ks.map tupKD) ∧ ∀ k ∈ ks, (tupKD k).depth ≤ 62 := by
  unfold okSort at h
  rw [Bool.and_eq_true, Bool.and_eq_true, Bool.or_eq_true] at h
  obtain ⟨⟨k1, k2⟩, k3⟩ := h
  have dp : ∀ k, datP (tupKP k) = tupKD k := fun k => (datP_key k).2
  refine ⟨?_, ?_, fun k hk => ?_⟩
  · intro d hd d' hd'
    obtain ⟨k, hk, rfl⟩ := List.mem_map.mp hd
    obtain ⟨k', hk', rfl⟩ := List.mem_map.mp hd'
    have := List.all_eq_true.mp (List.all_eq_true.mp k2 (tupKP k) (List.mem_map.mpr ⟨k, hk, rfl⟩)) (tupKP k') (List.mem_map.mpr ⟨k', hk', rfl⟩)
    rw [dp, dp] at this
    exact this
  · rcases k3 with k3 | k3
    · refine .inl fun d hd => ?_
      obtain ⟨k, hk, rfl⟩ := List.mem_map.mp hd
      have := List.all_eq_true.mp k3 (tupKP k) (List.mem_map.mpr ⟨k, hk, rfl⟩)
      rw [dp] at this
      unfold tupKD at this ⊢
      cases hd2 : k.map keyD with
      | nil => rw [hd2] at this; cases this
      | cons y r => exact ⟨y, r, rfl⟩
    · refine .inl fun d hd => ?_
      obtain ⟨k, hk, rfl⟩ := List.mem_map.mp hd
      have := List.all_eq_true.mp k3 (tupKP k) (List.mem_map.mpr ⟨k, hk, rfl⟩)
      rw [dp] at this
      unfold tupKD at this
      cases this
  · have := List.all_eq_true.mp k1 (tupKP k) (List.mem_map.mpr ⟨k, hk, rfl⟩)
    rw [Bool.and_eq_true, decide_eq_true_eq, dp] at this
    exact this.2
theorem u_sortK (hc : X.calm = true) (hu : X.A.units + 65 < cLine) : Un1 X (.builtin "sorted") sortKG := fun Z => by
  refine ⟨_, cr_sortKT hc hu, fun W H s σ p x res Q R rx e po => ?_⟩
  cases p with
  | dT kvs =>
    simp only [sortKG] at e
    split at e
    · rename_i hok
      cases e
      obtain ⟨a, ws, rfl, h1, h2⟩ := bv_dT rx
      have hk := repT_keys h2
      have e1 : (kvs.map fun kv => tupKP kv.1) = (kvs.map (·.1)).map tupKP := by rw [List.map_map]; rfl
      rw [e1, ← hk] at hok po
      obtain ⟨d1, d2, d3⟩ := okSort_data hok
      have e2 : (ws.map fun p => tupKD p.1) = (ws.map (·.1)).map tupKD := by rw [List.map_map]; rfl
      refine ⟨a, ws, rfl, .inl h1, by rw [e2]; exact d1, by rw [e2]; exact d2, fun p hp => d3 p.1 (List.mem_map.mpr ⟨p, hp, rfl⟩), fun bs l hl hb1 hb2 => ?_⟩
      have m1 : ((ws.map (·.1)).map tupKP).mergeSort leP = (bs.mergeSort (PySem.W.dataLe false encK)).map fun b => tupKP b.2 := by
        rw [← hb1, List.map_map]
        refine (List.map_mergeSort (f := fun b : Addr × List Key => tupKP b.2) (r := PySem.W.dataLe false encK) (s := leP) fun b _ b' _ => ?_).symm
        show PySem.W.dataLe false encK b b' = PySem.W.dataLe false (fun p => datP p) (tupKP b.2) (tupKP b'.2)
        have e3 : (fun p => datP p) (tupKP b.2) = encK b := (datP_key b.2).2
        have e4 : (fun p => datP p) (tupKP b'.2) = encK b' := (datP_key b'.2).2
        unfold PySem.W.dataLe PySem.W.sortLe
        simp only [e3, e4]
      rw [m1] at po
      have st := Step.allocO (W := W) (o := .lst ((bs.mergeSort (PySem.W.dataLe false encK)).map fun b => V.ref b.1)) hl (R.nP hl)
      refine Post.newO R hl po ⟨_, upd_same, st.rvs ?_⟩
      have all : ∀ b ∈ bs.mergeSort (PySem.W.dataLe false encK), RV X.K W H (tupKP b.2) (V.ref b.1) := fun b hb => by
        have hb' := (List.mergeSort_perm _ _).mem_iff.mp hb
        have := hb2 b hb'
        exact rep_tup_mk (msk_some.mpr ⟨R.tupL this, this⟩) (reps_key b.2)
      generalize bs.mergeSort (PySem.W.dataLe false encK) = zs at all
      clear m1 po st hb1 hb2
      induction zs with
      | nil => exact reps_nil
      | cons z zs ih => exact reps_cons (all z List.mem_cons_self) (ih fun b hb => all b (List.mem_cons_of_mem _ hb))
    · cases e
  | _ => simp [sortKG] at e
def sortA : O1 := fun p => (sortG p).or (sortKG p)
theorem u_sortA (hc : X.calm = true) (hu : X.A.units + 65 < cLine) : Un1 X (.builtin "sorted") sortA := (u_sorted hu).or (u_sortK hc hu)
end
end DR
set_option maxHeartbeats 4000000
/-! typed mirrors: dict comprehensions of two clauses, len(set(xs)). -/
namespace TM
open PySem DR
noncomputable section
variable {α β κ γ : Type}
def dfold2 [DecidableEq κ] (c : α → Option (Option (List β))) (f : α → β → Option (Option (κ × γ))) : List α → List (κ × γ) → Option (List (κ × γ))
  | [], d => some d
  | x :: xs, d => (c x).bind fun o => match o with
    | none => dfold2 c f xs d
    | some ys => (dfold (f x) ys d).bind fun d1 => dfold2 c f xs d1
theorem dc2_sim [DecidableEq κ] {tg tg1 : Tg} {tt tt1 : DR.TM} {it1 : IM} {fk fv : EM} {vs vs1 : List Nat} {e0 : DE} {t : DT} {E : α → PV} {E1 : β → PV} {G : κ → PV} {F : γ → PV} {D : List (κ × γ) → PV} {c : α → Option (Option (List β))} {f : α → β → Option (Option (κ × γ))} (put : ∀ d k v d', dputO d k v = some d' → setU (G k) (F v) (D d) = some (D d', .non)) (hsub : ∀ i ∈ vs1, i ∈ vs)
    (hf : ∀ x o, c x = some o → ∃ e1, asgT tg (E x) e0 = some e1 ∧ match o with
      | none => ∃ d2, tt ⟨e1, t⟩ = .ok false d2 ∧ wipeE vs d2.e = e0 ∧ d2.t = t
      | some ys => ∃ d1 e2, tt ⟨e1, t⟩ = .ok true d1 ∧ it1 d1 = .ok (ys.map E1) ⟨e2, t⟩ ∧ wipeE vs e2 = e0 ∧ ∀ y o', f x y = some o' → ∃ e3, asgT tg1 (E1 y) (wipeE vs1 e2) = some e3 ∧ PairOk tt1 fk fv vs1 (wipeE vs1 e2) t G F ⟨e3, t⟩ o') :
    ∀ (xs : List α) (d : List (κ × γ)) (s : DS) (d' : List (κ × γ)), dfold2 c f xs d = some d' → wipeE vs s.e = e0 → s.t = t → ∃ s', dc2L tg tt it1 tg1 tt1 fk fv vs vs1 (xs.map E) (D d) s = .ok (D d') s' ∧ wipeE vs s'.e = e0 ∧ s'.t = t
  | [], d, s, d', h, h1, h2 => by
    cases h
    exact ⟨s, rfl, h1, h2⟩
  | x :: xs, d, s, d', h, h1, h2 => by
    unfold dfold2 at h
    obtain ⟨o, h3, h4⟩ := Option.bind_eq_some_iff.mp h
    obtain ⟨e1, g1, g2⟩ := hf x o h3
    rw [List.map_cons, dc2L_cons, h1, g1]
    simp only [h2]
    cases o with
    | none =>
      obtain ⟨d2, k1, k2, k3⟩ := g2
      obtain ⟨s3, m1, m2⟩ := dc2_sim put hsub hf xs d d2 d' h4 k2 k3
      refine ⟨s3, ?_, m2⟩
      simp only [k1, bind_ok]
      rw [if_neg (by decide), m1]
    | some ys =>
      obtain ⟨d1, e2, k0, k1, k2, k3⟩ := g2
      obtain ⟨dd, h5, h6⟩ := Option.bind_eq_some_iff.mp h4
      obtain ⟨s2, n1, n2, n3⟩ := dcL_sim (tg := tg1) (tt := tt1) (vs := vs1) (e0 := wipeE vs1 e2) (t := t) (E := E1) (G := G) (F := F) (D := D) (f := f x) put k3 ys d ⟨e2, t⟩ dd h5 rfl rfl
      obtain ⟨s3, m1, m2⟩ := dc2_sim put hsub hf xs dd s2 d' h6 ((wipeE_eq_of hsub n2).trans k2) n3
      refine ⟨s3, ?_, m2⟩
      simp only [k0, bind_ok, if_true, k1, n1, m1]
theorem dc2O_sim [DecidableEq κ] {it it1 : IM} {tg tg1 : Tg} {tt tt1 : DR.TM} {fk fv : EM} {vs vs1 : List Nat} {t : DT} {E : α → PV} {E1 : β → PV} {G : κ → PV} {F : γ → PV} {D : List (κ × γ) → PV} {c : α → Option (Option (List β))} {f : α → β → Option (Option (κ × γ))} {xs : List α} {d0 : DS} {e1 : DE} {d : List (κ × γ)} {p0 : PV} (hp : p0 = D []) (put : ∀ d k v d', dputO d k v = some d' → setU (G k) (F v) (D d) = some (D d', .non)) (hit : it d0 = .ok (xs.map E) ⟨e1, t⟩) (h : dfold2 c f xs [] = some d) (hsub : ∀ i ∈ vs1, i ∈ vs)
    (hf : ∀ x o, c x = some o → ∃ e2, asgT tg (E x) (wipeE vs e1) = some e2 ∧ match o with
      | none => ∃ d2, tt ⟨e2, t⟩ = .ok false d2 ∧ wipeE vs d2.e = wipeE vs e1 ∧ d2.t = t
      | some ys => ∃ d1 e3, tt ⟨e2, t⟩ = .ok true d1 ∧ it1 d1 = .ok (ys.map E1) ⟨e3, t⟩ ∧ wipeE vs e3 = wipeE vs e1 ∧ ∀ y o', f x y = some o' → ∃ e4, asgT tg1 (E1 y) (wipeE vs1 e3) = some e4 ∧ PairOk tt1 fk fv vs1 (wipeE vs1 e3) t G F ⟨e4, t⟩ o') :
    dc2O p0 it tg tt it1 tg1 tt1 fk fv vs vs1 d0 = .ok (D d, true) ⟨restE vs e1 e1, t⟩ := by
  obtain ⟨s', m1, m2, m3⟩ := dc2_sim (e0 := wipeE vs e1) put hsub hf xs [] ⟨e1, t⟩ d h rfl rfl
  subst hp
  unfold dc2O
  rw [hit, bind_ok, m1, noX_ok, bind_ok, m3, restE_eq m2]
/-- len(set(xs)) -/
def lenSetT (xs : List Int) : Option Int := if xs.length < 64 then some ((dedL xs).length : Int) else none
theorem lenSet_L (xs : List Int) : lenSetG (.lst (xs.map eI)) = (lenSetT xs).map .int := by
  have e : intsP (xs.map eI) = some xs := intsP_ok
  simp only [lenSetG, e, lenSetT]
  split <;> rfl
theorem sortA_L (E : α → PV) {n : Nat} [e : OrdOk E n] (xs : List α) (hn : n ≤ 62) : sortA (.lst (xs.map E)) = (srtO E xs).map fun z => (.lst (z.map E), true) := by
  have h := sortG_t E xs hn
  unfold sortA
  rw [h]
  cases srtO E xs <;> rfl
theorem sortKG_t (E : κ → PV) {n : Nat} [e : OrdOk E n] (kk : κ → List L2.Key) (hk : ∀ x, tupKP (kk x) = E x) (F : β → PV) (d : List (κ × β)) (hn : n ≤ 62) : sortA (.dT (d.map fun p => (kk p.1, F p.2))) = (srtO E (d.map (·.1))).map fun z => (.lst (z.map E), true) := by
  have h := sortG_t E (d.map (·.1)) hn
  have e1 : ((d.map fun p => (kk p.1, F p.2)).map fun kv : List L2.Key × PV => tupKP kv.1) = (d.map (·.1)).map E := by
    rw [List.map_map, List.map_map]
    refine List.map_congr_left fun x _ => hk x.1
  have e2 : sortKG (.dT (d.map fun p => (kk p.1, F p.2))) = sortG (.lst ((d.map (·.1)).map E)) := by
    simp only [sortKG, sortG]
    rw [e1]
  unfold sortA
  rw [e2, h]
  rfl
theorem sortD2 (F : β → PV) (d : List ((Int × Int) × β)) : sortA (eD2 F d) = (srtO (eP2 eI eI) (d.map (·.1))).map fun z => (.lst (z.map (eP2 eI eI)), true) := sortKG_t (eP2 eI eI) k2 (fun _ => rfl) F d (by decide)
theorem sortD3 (F : β → PV) (d : List ((Int × Int × Int) × β)) : sortA (eD3 F d) = (srtO (eP3 eI eI eI) (d.map (·.1))).map fun z => (.lst (z.map (eP3 eI eI eI)), true) := sortKG_t (eP3 eI eI eI) k3 (fun _ => rfl) F d (by decide)
theorem sortDU (F : β → PV) (d : List (List Int × β)) : sortA (eDU F d) = (srtO (eU eI) (d.map (·.1))).map fun z => (.lst (z.map (eU eI)), true) := sortKG_t (eU eI) kU (fun x => by simp [tupKP, kU, eU, List.map_map, Function.comp_def, keyPV, kI, eI]) F d (by decide)
end
end TM
set_option maxHeartbeats 4000000
/-! DR: t < u, t > u of tuples of ints. -/
namespace DR
open PySem PySem.Spec PyProof.Rows L2
theorem lexAt_gt : ∀ (ns ms : List Int) (i : Nat) (e r : Nat → Bool), (∀ j, e (i + j) = decide (ns.getD j 0 = ms.getD j 0)) → (∀ j, r (i + j) = decide (ms.getD j 0 < ns.getD j 0)) →
    Ob.lexAt e r (decide (ns.length > ms.length)) i (min ns.length ms.length) = HT.lexLt ms ns
  | [], [], i, e, r, _, _ => rfl
  | [], _ :: _, i, e, r, _, _ => by simp [Ob.lexAt_zero, HT.lexLt]
  | _ :: _, [], i, e, r, _, _ => by simp [Ob.lexAt_zero, HT.lexLt]
  | n :: ns, m :: ms, i, e, r, h1, h2 => by
    have l : min (n :: ns).length (m :: ms).length = min ns.length ms.length + 1 := by simp only [List.length_cons]; omega
    rw [l, Ob.lexAt_succ]
    have e0 := h1 0
    have r0 := h2 0
    rw [Nat.add_zero] at e0 r0
    rw [e0, r0]
    have z : (decide ((n :: ns).length > (m :: ms).length)) = decide (ns.length > ms.length) := by simp
    rw [z, lexAt_gt ns ms (i + 1) e r (fun j => by have := h1 (j + 1); rw [show i + (j + 1) = i + 1 + j by omega] at this; simpa using this) (fun j => by have := h2 (j + 1); rw [show i + (j + 1) = i + 1 + j by omega] at this; simpa using this)]
    simp only [HT.lexLt, List.getD_cons_zero, decide_eq_true_eq]
    by_cases q : n = m
    · subst q; simp
    · rw [if_neg q, if_neg (Ne.symm q)]
section
variable {X : Cx}
def rGtT (K : PySem.W.Frag) : R2 := fun x y H Q => ∃ (a b : Addr) (ns ms : List Int), x = .ref a ∧ y = .ref b ∧ SqT K H a (ns.map V.int) ∧ SqT K H b (ms.map V.int) ∧ Q (.bl (HT.lexLt ms ns)) H
theorem op_gtT (hu : X.A.units < cLine) : OpR X (compareOp .Gt) (rGtT X.K) := by
  intro pins s σ H x y v u Q I rx ry h
  obtain ⟨a, b, ns, ms, rfl, rfl, ha, hb, q⟩ := h
  cases rx
  cases ry
  obtain ⟨its, r1, p1, _⟩ := I.tuple ha
  obtain ⟨its2, r2, p2, _⟩ := I.tuple hb
  have i1 : IntsAre its ns := Vals.ints r1
  have i2 : IntsAre its2 ms := Vals.ints r2
  have e1 : its.toArray.size = ns.length := by rw [List.size_toArray]; exact i1.length
  have e2 : its2.toArray.size = ms.length := by rw [List.size_toArray]; exact i2.length
  have at1 : ∀ j (h1 : j < its.toArray.size), ∃ t, its.toArray[j] = .int (ns.getD j 0) t := fun j h1 => PyProof.Rows.IntsAre.int_at i1 _ _ (by simp at h1; simp [h1])
  have at2 : ∀ j (h1 : j < its2.toArray.size), ∃ t, its2.toArray[j] = .int (ms.getD j 0) t := fun j h1 => PyProof.Rows.IntsAre.int_at i2 _ _ (by simp at h1; simp [h1])
  have R := Ob.RcOp.tuples_gt (A := X.A) (s := s) (e := fun j => decide (ns.getD j 0 = ms.getD j 0)) (r := fun j => decide (ms.getD j 0 < ns.getD j 0)) p1 p2 hu (fun j h1 h2 => by
    obtain ⟨t, et⟩ := at1 j h1
    obtain ⟨t', et'⟩ := at2 j h2
    rw [et, et']
    have z : (ns.getD j 0 == ms.getD j 0) = decide (ns.getD j 0 = ms.getD j 0) := by
      by_cases q : ns.getD j 0 = ms.getD j 0
      · rw [decide_eq_true q]; exact beq_iff_eq.mpr q
      · rw [decide_eq_false q]; exact beq_eq_false_iff_ne.mpr q
    rw [← z]
    exact SeqAt.EqAt.int_int _ _ _ _) (fun j h1 h2 _ => by
    obtain ⟨t, et⟩ := at1 j h1
    obtain ⟨t', et'⟩ := at2 j h2
    rw [et, et']
    exact Ob.RcOp.gt_int _ _ _ _)
  rw [e1, e2, lexAt_gt ns ms 0 _ _ (fun j => by simp) (fun j => by simp)] at R
  have z : wpAny (model X.prog X.w) X.A (compareOp .Gt (.ref a) (.ref b)) (EP X pins σ Q) X.xe s := R X.prog X.w X.xe (EP X pins σ Q) ⟨.bl _, H, I, rfl, q⟩
  exact z
def ltT : P2 := fun p q => match p, q with
  | .tup _ ps, .tup _ qs => (match intsP ps, intsP qs with
    | some a, some b => some (.bl (HT.lexLt a b))
    | _, _ => none)
  | _, _ => none
def gtT : P2 := fun p q => ltT q p
theorem br_ltT (hu : X.A.units + 64 < cLine) : BinR X (compareOp .Lt) (p2 ltT) := BinR.plain (op_ltT (by omega)) fun W H p q x y res Q rx ry e k => by
  unfold ltT at e
  split at e
  · rename_i c1 ps c2 qs
    split at e
    · rename_i a b e1 e2
      cases e
      obtain ⟨a1, vs, rfl, h1, g1⟩ := rv_tup_inv rx
      obtain ⟨a2, ws, rfl, h2, g2⟩ := rv_tup_inv ry
      have v1 := ints_vs e1 g1
      have v2 := ints_vs e2 g2
      subst v1 v2
      exact ⟨a1, a2, a, b, rfl, rfl, h1, h2, k _ rv_bl⟩
    · cases e
  · cases e
theorem br_gtT (hu : X.A.units + 64 < cLine) : BinR X (compareOp .Gt) (p2 gtT) := BinR.plain (op_gtT (by omega)) fun W H p q x y res Q rx ry e k => by
  unfold gtT ltT at e
  split at e
  · rename_i c1 ps c2 qs
    split at e
    · rename_i a b e1 e2
      cases e
      obtain ⟨a1, vs, rfl, h1, g1⟩ := rv_tup_inv rx
      obtain ⟨a2, ws, rfl, h2, g2⟩ := rv_tup_inv ry
      have v1 := ints_vs e2 g1
      have v2 := ints_vs e1 g2
      subst v1 v2
      exact ⟨a1, a2, b, a, rfl, rfl, h1, h2, k _ rv_bl⟩
    · cases e
  · cases e
end
end DR
namespace TM
open PySem DR
theorem ltT_U (xs ys : List Int) : ltT (.tup false (xs.map eI)) (.tup false (ys.map eI)) = some (.bl (HT.lexLt xs ys)) := by
  have e1 : intsP (xs.map eI) = some xs := intsP_ok
  have e2 : intsP (ys.map eI) = some ys := intsP_ok
  simp only [ltT, e1, e2]
theorem gtT_U (xs ys : List Int) : gtT (.tup false (xs.map eI)) (.tup false (ys.map eI)) = some (.bl (HT.lexLt ys xs)) := ltT_U ys xs
end TM
set_option maxHeartbeats 4000000
/-! DR: sorted(t), t a tuple. -/
namespace DR
open PySem PySem.Spec PyProof.Rows L2
mutual
theorem reads_in {h : Heap} : ∀ {v : Value} {d : PyData} {as : List Addr}, Reads h v d as → ∀ a ∈ as, ∃ o, h.get? a = some o
  | _, _, _, .none, a, ha => nomatch ha
  | _, _, _, .bool _, a, ha => nomatch ha
  | _, _, _, .int _ _, a, ha => nomatch ha
  | _, _, _, .str _ _, a, ha => nomatch ha
  | _, _, _, .list h1 _ _ h4, a, ha => by
    rcases List.mem_cons.mp ha with rfl | ha
    · exact ⟨_, h1⟩
    · exact readsAll_in h4 a ha
  | _, _, _, .tuple _ _ _ h4, a, ha => readsAll_in h4 a ha
  | _, _, _, .dict h1 _ _ h4 h5, a, ha => by
    rcases List.mem_cons.mp ha with rfl | ha
    · exact ⟨_, h1⟩
    · rcases List.mem_append.mp ha with ha | ha
      · exact readsAll_in h4 a ha
      · exact readsAll_in h5 a ha
theorem readsAll_in {h : Heap} : ∀ {vs : List Value} {ds : List PyData} {as : List Addr}, ReadsAll h vs ds as → ∀ a ∈ as, ∃ o, h.get? a = some o
  | _, _, _, .nil, a, ha => nomatch ha
  | _, _, _, .cons h1 h2, a, ha => by
    rcases List.mem_append.mp ha with ha | ha
    · exact reads_in h1 a ha
    · exact readsAll_in h2 a ha
end
section
variable {X : Cx}
def rSortedU (K : PySem.W.Frag) : List V → Hp → VK → Prop := fun vs H Q => ∃ (a : Addr) (bs : List (V × PyData)), vs = [V.ref a] ∧ SqT K H a (bs.map (·.1)) ∧ (∀ b ∈ bs, Dp K H b.1 b.2) ∧ PySem.W.AllAlike (bs.map (·.2)) ∧ PySem.W.Sortable (bs.map (·.2)) ∧ (∀ b ∈ bs, b.2.depth ≤ 62) ∧
  ∀ (p : Addr), H p = none → Q (.ref p) (upd H p (.lst ((bs.mergeSort (PySem.W.dataLe false fun b => b.2)).map (·.1))))
theorem cr_sortedU (hu : X.A.units + 65 < cLine) : CallR X (.builtin "sorted") (rSortedU X.K) := by
  intro pins s σ H vs us Q I r h
  obtain ⟨a, bs, rfl, hs, hd, hal, hk, hdep, q⟩ := h
  obtain ⟨its, rv, hl, hz⟩ := I.tuple hs
  rw [Vals.ref1 r]
  have hz' : bs.length ≤ sizeLine := by rw [List.length_map] at hz; exact hz
  have hil : its.length = bs.length := by have := rv.length; rw [List.length_map] at this; exact this.symm
  obtain ⟨o, ho, hc, n, hdat⟩ := hl
  refine Calls.call_function_entry PyProof.Rows.kind_sorted PyProof.Rows.plain_sorted PyProof.Rows.entry_sorted (PyProof.Rows.args_sorted1 _) ?_
  unfold Builtin.«sorted»
  refine wpAny_bind (m := checkCount "sorted" 1 1 _) (wpAny_pure ?_)
  refine wpAny_bind (wpAny_collect_seq (A := X.A.in1) a (.inr rfl) ho hc hdat (fun h' kp => ?_) (by rw [List.size_toArray, hil]; exact hz'))
  have e0 : its.toArray.toList = its := by simp
  rw [e0]
  have I1 : Inv X pins σ H { s with heap := h' } := I.kept (t' := s.toks) kp
  refine wpAny_bind (wpAny_newList ?_ (by rw [hil]; exact hz'))
  have hoL : (h'.push (seqObj "list" its.toArray 0)).get? h'.objs.size = some (seqObj "list" its.toArray 0) := Heap.get?_push_size _ rfl
  show wpAny _ _ _ _ _ { s with heap := h'.push (seqObj "list" its.toArray 0) }
  have eR : PySem.W.EachIs (fun u (b : V × PyData) => RelV b.1 u) its bs := each_vals (vs := []) rv
  have er : PySem.W.EachIs (fun v (b : V × PyData) => ∃ as, Reads (h'.push (seqObj "list" its.toArray 0)) v b.2 as ∧ h'.objs.size ∉ as) its bs := by
    refine each_and eR fun u b hb hr => ?_
    obtain ⟨as, ra⟩ := Dp.reads I1 b.2 b.1 u (hd b hb) hr
    exact ⟨as, PyProof.Rows.Reads.keeps (fun _ _ e => Heap.get?_push_of_some _ e) ra, fun z => by
      obtain ⟨o', e⟩ := reads_in ra _ z
      exact Nat.lt_irrefl _ (Heap.lt_size e)⟩
  refine wpAny_bind (wpAny_holding (PySem.W.list_sort_data (R := fun u (b : V × PyData) => RelV b.1 u) (enc := fun b : V × PyData => b.2) hoL eR er hal hk hz' (fun b hb => ?_) fun out g1 g2 => ?_))
  · have := hdep b hb
    show X.A.in1.units + 1 + b.2.depth < cLine
    have e5 : X.A.in1.units ≤ X.A.units + 1 := by first | exact Nat.le_refl _ | exact Nat.le_succ _ | (show X.A.units + 1 ≤ X.A.units + 1; exact Nat.le_refl _)
    omega
  obtain ⟨e', he'⟩ := PyProof.Rows.sortedHeap_at (vs := its) (out := out.toArray) hoL
  have hlen2 : ((bs.mergeSort (PySem.W.dataLe false fun b : V × PyData => b.2)).map (·.1)).length ≤ sizeLine := by
    rw [List.length_map, List.length_mergeSort]
    exact hz'
  refine wpAny_pure ⟨_, rfl, .ref h'.objs.size, upd H h'.objs.size (.lst ((bs.mergeSort (PySem.W.dataLe false fun b : V × PyData => b.2)).map (·.1))), I1.laid (t' := s.toks) (fun b u e => ?_) (Nat.le_refl _)
    (show ObjOk X.prog X.w _ _ _ (.lst ((bs.mergeSort (PySem.W.dataLe false fun b : V × PyData => b.2)).map (·.1))) from ⟨hlen2, out, e', vals_each g2, he'⟩), rfl, q _ (I1.hok.fresh (Nat.le_refl _))⟩
  have hb : b < h'.objs.size := Heap.lt_size e
  rw [PyProof.Rows.sortedHeap_old (Nat.ne_of_lt hb) (by rw [size_push']; exact Nat.lt_succ_of_lt hb)]
  exact Heap.get?_push_of_some _ e
def sortUG : O1 := fun p => match p with
  | .tup _ ps => if okSort ps then some (.lst (ps.mergeSort leP), true) else none
  | _ => none
theorem u_sortU (hu : X.A.units + 65 < cLine) : Un1 X (.builtin "sorted") sortUG := fun Z => by
  refine ⟨_, cr_sortedU hu, fun W H s σ p x res Q R rx e po => ?_⟩
  cases p with
  | tup c ps =>
    simp only [sortUG] at e
    split at e
    · rename_i hok
      cases e
      obtain ⟨a, vs, rfl, h1, h2⟩ := bv_tup rx
      obtain ⟨zs, e1, e2, h3⟩ := reps_zip h2
      subst e1
      subst e2
      unfold okSort at hok
      rw [Bool.and_eq_true, Bool.and_eq_true, Bool.or_eq_true] at hok
      obtain ⟨⟨k1, k2⟩, k3⟩ := hok
      have hD : ∀ z ∈ zs, toD z.2 = some (datP z.2) ∧ (datP z.2).depth ≤ 62 := fun z hz => by
        have := List.all_eq_true.mp k1 z.2 (List.mem_map.mpr ⟨z, hz, rfl⟩)
        rw [Bool.and_eq_true, decide_eq_true_eq] at this
        obtain ⟨d, hd⟩ := Option.isSome_iff_exists.mp this.1
        exact ⟨by unfold datP; rw [hd]; rfl, this.2⟩
      have sub : Same (W.m H) H := msk_sub _ _
      refine ⟨a, zs.map fun z => (z.1, datP z.2), rfl, ?_, ?_, ?_, ?_, ?_, fun l hl => ?_⟩
      · rw [List.map_map]
        exact h1
      · intro b hb
        obtain ⟨z, hz, rfl⟩ := List.mem_map.mp hb
        exact rep_dp sub z.2 z.1 _ (h3 z hz) (hD z hz).1
      · intro d hd d' hd'
        rw [List.map_map] at hd hd'
        obtain ⟨z, hz, rfl⟩ := List.mem_map.mp hd
        obtain ⟨z', hz', rfl⟩ := List.mem_map.mp hd'
        exact List.all_eq_true.mp (List.all_eq_true.mp k2 z.2 (List.mem_map.mpr ⟨z, hz, rfl⟩)) z'.2 (List.mem_map.mpr ⟨z', hz', rfl⟩)
      · rw [List.map_map]
        rcases k3 with k3 | k3
        · refine .inl fun d hd => ?_
          obtain ⟨z, hz, rfl⟩ := List.mem_map.mp hd
          have := List.all_eq_true.mp k3 z.2 (List.mem_map.mpr ⟨z, hz, rfl⟩)
          show ∃ x r, datP z.2 = _
          cases hd2 : datP z.2 with
          | tuple ds =>
            cases ds with
            | nil => rw [hd2] at this; cases this
            | cons y r => exact ⟨y, r, rfl⟩
          | _ => rw [hd2] at this; cases this
        · refine .inr fun d hd => ?_
          obtain ⟨z, hz, rfl⟩ := List.mem_map.mp hd
          have := List.all_eq_true.mp k3 z.2 (List.mem_map.mpr ⟨z, hz, rfl⟩)
          show datP z.2 ≠ _ ∧ ∀ xs, datP z.2 ≠ _
          refine ⟨fun h => ?_, fun xs h => ?_⟩ <;> (rw [h] at this; cases this)
      · intro b hb
        obtain ⟨z, hz, rfl⟩ := List.mem_map.mp hb
        exact (hD z hz).2
      · have m1 : (zs.map fun z => (z.1, datP z.2)).mergeSort (PySem.W.dataLe false fun b => b.2) = (zs.mergeSort fun z z' => leP z.2 z'.2).map fun z => (z.1, datP z.2) := (List.map_mergeSort (f := fun z : V × PV => (z.1, datP z.2)) (r := fun z z' => leP z.2 z'.2) (s := PySem.W.dataLe false fun b : V × PyData => b.2) fun a _ b _ => rfl).symm
        have m2 : (zs.map (·.2)).mergeSort leP = (zs.mergeSort fun z z' => leP z.2 z'.2).map (·.2) := (List.map_mergeSort (f := fun z : V × PV => z.2) (r := fun z z' => leP z.2 z'.2) (s := leP) fun a _ b _ => rfl).symm
        rw [m2] at po
        rw [m1, List.map_map]
        refine Post.newO R hl po ⟨_, upd_same, (Step.allocO hl (R.nP hl)).rvs (zip_reps fun b hb => h3 b ?_)⟩
        exact (List.mergeSort_perm _ _).mem_iff.mp hb
    · cases e
  | _ => simp [sortUG] at e
def sortB : O1 := fun p => (sortA p).or (sortUG p)
theorem u_sortB (hc : X.calm = true) (hu : X.A.units + 65 < cLine) : Un1 X (.builtin "sorted") sortB := (u_sortA hc hu).or (u_sortU hu)
end
end DR
set_option maxHeartbeats 4000000
/-! DR: x.extend(t), t a tuple. -/
namespace PySem.AutoSeq1
open PySem
theorem list_extend_list_tupleG (l : Addr) (items : Array Value) (n : Nat) (b : Addr) (items2 : Array Value) (n2 : Nat) (dd : Option Addr) (sl : Array (Option Value)) (hs0 : ¬(!items.isEmpty && Builtin.List.listTooLong (items.size + items2.size)) = true) (hs1 : items.size ≤ sizeLine) (hs2 : items.size + items2.size ≤ sizeLine + 1) :
    Meets (Builtin.«list.extend» ⟨[.ref l, .ref b], []⟩) (fun _ R s => s.heap.get? l = some { cls := .type "list", dict := none, data := .seq items n, slots := #[] } ∧ s.heap.get? b = some { cls := .type "tuple", dict := dd, data := .seq items2 n2, slots := sl } ∧ R (.ok (.ret Value.none)) { s with heap := s.heap.update l (Obj.mapSeq fun x => x ++ items2), toks := s.toks }) :=
  .of_wp fun prog w A R s h => by
    obtain ⟨hp, g, d, tk, os⟩ := s; obtain ⟨hl, hb, h⟩ := h; have f1 := idx_int; have f2 := sub_tuple_tuple; have f3 := sub_list_list; have f4 := sub_tuple_list; have f5 := sub_list_tuple;
    have hz' : (items ++ items2).size ≤ sizeLine + 1 := by rw [Array.size_append]; exact hs2
    wp_walk using (wpAny_updateSeq hl rfl (hz := hs1) (_hz' := hz')), wpAny_loadPart' hl, wpAny_loadPart' hb; exact ⟨_, rfl, h⟩
end PySem.AutoSeq1
namespace DR
open PySem PySem.Spec PyProof.Rows L2
section
variable {X : Cx} {Z : WX} {x : Str} {pos p1 : Pos} {e : Expr} {g : EM}
def rExtT (K : PySem.W.Frag) : V → List V → Hp → VK → Prop := fun x vs H Q => ∃ l b xs zs, x = .ref l ∧ vs = [.ref b] ∧ H l = some (.lst xs) ∧ SqT K H b zs ∧ xs.length + zs.length ≤ sizeLine ∧ Q .non (upd H l (.lst (xs ++ zs)))
theorem mt_extT : MtM X "list.extend" (rExtT X.K) := by
  intro pins s σ H x vs v us Q I rx rv h
  obtain ⟨l, b, xs, zs, rfl, rfl, hH, hB, hz, q⟩ := h
  cases rx
  obtain ⟨u, rfl, ru⟩ := rv.one
  cases ru
  obtain ⟨z, its, n, r, hl, e⟩ := I.lstM hH
  obtain ⟨its2, r2, ⟨⟨oc, dd, od, sl⟩, e2, hc, n2, hd⟩, hl2⟩ := I.tuple hB
  simp only at hc hd
  subst hc hd
  have l1 := r.length
  have l2 := r2.length
  have hsz : its.toArray.size + its2.toArray.size ≤ sizeLine := by rw [List.size_toArray, List.size_toArray]; omega
  have hlong : ¬ (!its.toArray.isEmpty && Builtin.List.listTooLong (its.toArray.size + its2.toArray.size)) = true := by
    rw [notLongL hsz, Bool.and_false]
    exact Bool.false_ne_true
  refine call_meets F.slot_list_extend ⟨_, e, rfl⟩ F.entry_list_extend (F.args_list_extend_2 _ _)
    (AutoSeq1.list_extend_list_tupleG l its.toArray n b its2.toArray n2 dd sl hlong (by rw [List.size_toArray]; omega) (by omega)) ⟨e, e2, ?_⟩
  refine ⟨.non, _, I.lset (its' := its ++ its2) hH e (by simp) (r.append r2) ?_, rfl, q⟩
  rw [List.length_append]
  omega
theorem MtM_or {id : String} {r r' : V → List V → Hp → VK → Prop} (h : MtM X id r) (h' : MtM X id r') : MtM X id (fun x vs H Q => r x vs H Q ∨ r' x vs H Q) := fun pins s σ H x vs v us Q I rx rv q => q.elim (h pins s σ H x vs v us Q I rx rv) (h' pins s σ H x vs v us Q I rx rv)
/-- x.extend(list or tuple) -/
def extUT (q : PV) : PV → Option (PV × PV) := fun p => match p, q with
  | .lst ps, .tup _ qs => if lineOk (ps.length + qs.length) then some (.lst (ps ++ qs), .non) else none
  | _, _ => none
def extTE (i : Nat) (g : EM) : EM := fun s => (nameB i s).bind fun p _ => if (tyN p = some "list") then (g s).bind fun q s2 => modB i (extUT q) s2 else .bad
theorem px_extT (i : Nat) {apos cpos : Pos} (hN : X.N[i]? = some x := by rfl) (hb : PX X Z e g) (hv : Vis X.env.scope x := by first | exact Or.inl rfl | exact Or.inr (Or.inl rfl) | exact Or.inr (Or.inr rfl))
    (hd : (x == ("__debug__" : Str)) = false := by decide) (hcd : (x == ("__classdict__" : Str)) = false := by decide)
    (hbase : attributeBase (.Name x p1) "extend" X.env (eval (.Name x p1) X.env) = eval (.Name x p1) X.env := by rfl)
    (hfew : ((backTo cpos (starEach [e] X.env)).all (fun x => !x.1) && (backToKw cpos (keywordEach [] X.env)).all (fun x => x.1.isSome)
      && decide ([e].length + ([] : List Keyword).length + (if ([] : List Keyword).isEmpty then 0 else 1) < 30)) = true := by rfl)
    (hline : (apos.endLine == cpos.line) = true := by rfl) (hs : starEach [e] X.env = (false, eval e X.env) :: starEach [] X.env := by rfl) :
    PX X Z (.Call (.Attribute (.Name x p1) "extend" apos) [e] [] cpos) (extTE i g) := by
  refine ⟨PE_imp (L2.pe_bm PySem.F.plainAttrs_list PySem.F.slot_list_extend PySem.F.type_list_extend mt_extT (pe_var hN hv hd hcd) (L2.pa_cons hb.pe L2.pa_nil hs) hbase hfew hline hs rfl) fun σ H Q ⟨W, s, R, h⟩ => ?_⟩
  unfold extTE at h
  cases e0 : nameB i s with
  | bad => rw [e0] at h; exact h.elim
  | exc x s1 => exact (nameB_no e0).elim
  | ok p0 s0 =>
    rw [e0] at h
    simp only [Re.bind] at h
    obtain ⟨rfl, v, h1, hb0⟩ := nameB_bv R e0
    by_cases ht : tyN p0 = some "list"
    · rw [if_pos ht] at h
      obtain ⟨ps0, rfl⟩ : ∃ ps, p0 = .lst ps := by
        cases p0 <;> simp [tyN] at ht
        exact ⟨_, rfl⟩
      obtain ⟨a0, vs0, rfl, g1, g2⟩ := bv_lst hb0
      refine ⟨_, h1, .inl ⟨rfl, vs0, SqL.of g1⟩, W, s0, R, Post.bind h fun q s2 y W2 H2 _ st2 R2 ry k => ?_⟩
      cases em : modB i (extUT q) s2 with
      | bad => rw [em] at k; exact k.elim
      | exc x s1 => exact (modB_no em).elim
      | ok r s3 =>
        rw [em] at k
        obtain ⟨p, p', a, u1, u2, u3, u4, u5⟩ := modB_ok R2 em
        rw [h1] at u2
        cases u2
        cases p with
        | lst ps =>
          cases q with
          | tup c qs =>
            obtain ⟨vs, c1, c2⟩ := con_lst u4
            obtain ⟨b, ws, rfl, b2, b3⟩ := rv_tup_inv ry
            simp only [extUT] at u1
            split at u1
            · rename_i hz
              cases u1
              obtain ⟨st3, R3⟩ := u5 (.lst (vs ++ ws)) ⟨_, upd_same, rvs_upd u3 (c2.app b3)⟩
              exact ⟨a0, b, vs, ws, rfl, rfl, c1, b2, by rw [c2.len, b3.len]; exact of_decide_eq_true hz, k _ W2 _ st3 R3 rE_non⟩
            · cases u1
          | _ => simp [extUT] at u1
        | _ => simp [extUT] at u1
    · rw [if_neg ht] at h
      exact h.elim
end
end DR
set_option maxHeartbeats 4000000
/-! DR: list comprehensions over a list that a name owns: it stays owned. -/
namespace DR
open PySem PySem.Spec PyProof.Rows L2
/-- as Goes, what is in F being left as it is -/
structure GoesF (F : List Addr) (K : PySem.W.Frag) (J : It) (ps : List PV) (W : Wd) (H : Hp) : Prop where
  go : ∀ W1 H1 i, Vw W H W1 H1 → (∀ b ∈ F, H1 b = H b) → i < ps.length → J.go i H1
  stop : ∀ W1 H1, Vw W H W1 H1 → (∀ b ∈ F, H1 b = H b) → J.stop ps.length H1
  yld : ∀ (W1 : Wd) (H1 : Hp) (i : Nat) (x : V) (H2 : Hp) (p : PV) (s : DS) (σ : L2.St), Vw W H W1 H1 → (∀ b ∈ F, H1 b = H b) → ps[i]? = some p → RSt K W1 H1 s σ → J.yld i H1 x H2 → ∃ W2, Step W1 H1 W2 H2 ∧ RSt K W2 H2 s σ ∧ RV K W2 H2 p x
section
variable {K : PySem.W.Frag} {W : Wd} {H : Hp} {a : Addr} {ps : List PV} {vs : List V}
theorem goesF_list (h : H a = some (.lst vs)) (r : RVs K W H ps vs) : GoesF [a] K (Itl K a) ps W H := by
  have at_ : ∀ {H1 : Hp}, (∀ b ∈ [a], H1 b = H b) → SqL K H1 a vs := fun fz => SqL.of ((fz a (by simp)).trans h)
  refine ⟨fun W1 H1 i st fz hi => ?_, fun W1 H1 st fz => ⟨vs, at_ fz, by rw [r.len]; exact Nat.le_refl _⟩, fun W1 H1 i x H2 p s σ st fz hp R y => ?_⟩
  · have hi' : i < vs.length := by rw [r.len]; exact hi
    exact ⟨vs, vs[i], at_ fz, List.getElem?_eq_getElem hi'⟩
  · exact yldP R y.1 (atRep st r hp (y.2 _ (at_ fz)))
theorem goesF_enum (h : H a = some (.lst vs)) (r : RVs K W H ps vs) : GoesF [a] K (Ite K a) (enumP 0 ps) W H := by
  have at_ : ∀ {H1 : Hp}, (∀ b ∈ [a], H1 b = H b) → SqL K H1 a vs := fun fz => SqL.of ((fz a (by simp)).trans h)
  refine ⟨fun W1 H1 i st fz hi => ?_, fun W1 H1 st fz => ⟨vs, at_ fz, by rw [enumP_len, r.len]; exact Nat.le_refl _⟩, fun W1 H1 i x H2 p s σ st fz hp R y => ?_⟩
  · have hi' : i < vs.length := by rw [enumP_len] at hi; rw [r.len]; exact hi
    exact ⟨vs, vs[i], at_ fz, List.getElem?_eq_getElem hi'⟩
  · obtain ⟨T, z, e1, e2, e3, e4⟩ := y
    obtain ⟨q, h1, h2⟩ := enumP_get hp
    rw [h2]
    exact yldPair R e2 e3 e1 (by rw [Nat.zero_add]; exact rv_int) (atRep st r h1 (e4 _ (at_ fz)))
end
/-- a slot is not looked at -/
theorem RSt.hide {K : PySem.W.Frag} {W : Wd} {H : Hp} {s : DS} {σ : L2.St} (R : RSt K W H s σ) (i : Nat) : RSt K W H ⟨s.e.set i .no, s.t⟩ σ := by
  refine ⟨⟨by simp [R.e.len], fun j p e => ?_, fun j p e => ?_, fun j k p q b e1 e2 e3 e4 => ?_⟩, R.t⟩
  · rcases get_set e with ⟨_, z⟩ | ⟨_, z⟩
    · cases z
    · exact R.e.at_ j p z
  · rcases get_set e with ⟨_, z⟩ | ⟨_, z⟩
    · cases z
    · exact R.e.ow j p z
  · rcases get_set e1 with ⟨_, z⟩ | ⟨_, z⟩
    · cases z
    · rcases get_set e2 with ⟨_, y⟩ | ⟨_, y⟩
      · cases y
      · exact R.e.inj j k p q b z y e3 e4
/-- a slot owns again -/
theorem RSt.show_ {K : PySem.W.Frag} {W : Wd} {H : Hp} {s : DS} {σ : L2.St} (R : RSt K W H s σ) {i : Nat} {p : PV} {a : Addr} (ea : σ[i]? = some (some (.ref a))) (ha : a ∈ W.O) (hc : Con K W H p a) (hn : ∀ (j : Nat) (q : PV), s.e[j]? = some (.own q) → σ[j]? ≠ some (some (.ref a))) : RSt K W H ⟨s.e.set i (.own p), s.t⟩ σ := by
  refine ⟨⟨by simp [R.e.len], fun j q e => ?_, fun j q e => ?_, fun j k q r b e1 e2 e3 e4 => ?_⟩, R.t⟩
  · rcases get_set e with ⟨_, z⟩ | ⟨_, z⟩
    · cases z
    · exact R.e.at_ j q z
  · rcases get_set e with ⟨rfl, z⟩ | ⟨_, z⟩
    · cases z; exact ⟨a, ea, ha, hc⟩
    · exact R.e.ow j q z
  · rcases get_set e1 with ⟨rfl, z⟩ | ⟨hj, z⟩
    · cases z
      rcases get_set e2 with ⟨rfl, y⟩ | ⟨hk, y⟩
      · rfl
      · rw [ea] at e3
        cases e3
        exact (hn k r y e4).elim
    · rcases get_set e2 with ⟨rfl, y⟩ | ⟨hk, y⟩
      · rw [ea] at e4
        cases e4
        exact (hn j q z e3).elim
      · exact R.e.inj j k q r b z y e3 e4
def lcBO (kind : List PV → List PV) (i : Nat) (t : Tg) (tt : TM) (f : EM) (vs : List Nat) : OM := fun s => match s.e[i]? with
  | some (.own (.lst ps)) => (noX (lcL t tt f vs (kind ps) [] ⟨s.e.set i .no, s.t⟩)).bind fun acc s2 => .ok (.lst acc, true) ⟨(restE vs (s.e.set i .no) s2.e).set i (.own (.lst ps)), s2.t⟩
  | _ => .bad
section
variable {X : Cx} {Z : WX} {t : Tg} {tt : TM} {vs : List Nat} {f : EM}
theorem tLcB_core {Q : VK} {σ : L2.St} {H : Hp} {K : PySem.W.Frag} (ht : tgIn t vs = true) {W : Wd} {s : DS} {i : Nat} {ps qs : List PV} {a : Addr} {ws : List V} (R : RSt K W H s σ) (e : s.e[i]? = some (.own (.lst ps))) (ea : σ[i]? = some (some (.ref a))) (haO : a ∈ W.O) (hc : Con K W H (.lst ps) a) (hiv : i ∉ vs)
    {J : It} (G : GoesF [a] K J qs (W.hold a) H) (q : Post rO K Z σ W H ((noX (lcL t tt f vs qs [] ⟨s.e.set i .no, s.t⟩)).bind fun acc s2 => .ok (.lst acc, true) ⟨(restE vs (s.e.set i .no) s2.e).set i (.own (.lst ps)), s2.t⟩) Q) :
    tLc (fun σ H R => R J H) (gX K t) (tT K Z0 tt) (tE K Z0 f) vs σ H Q := by
  intro D hD
  have hsa : ∃ o, H a = some o := hc.there
  have hDa : D ≠ a := fun z => by obtain ⟨o, ho⟩ := hsa; rw [← z, hD] at ho; cases ho
  generalize es1 : (⟨s.e.set i .no, s.t⟩ : DS) = s1 at q
  have R0 : RSt K (W.hold a) H s1 σ := by
    rw [← es1]
    refine (R.hide i).hold haO fun j p hj z => ?_
    rcases get_set hj with ⟨_, y⟩ | ⟨hj2, y⟩
    · cases y
    · exact hj2 (R.e.inj j i p _ a y e z ea)
  obtain ⟨W1', stN, R1', hL⟩ := R0.newL hD
  obtain ⟨nO, nS, nP⟩ := Wd.notL.mp hL
  have aP : a ∈ W1'.P := by rw [stN.prv]; exact List.mem_cons_self
  obtain ⟨Rk, vk⟩ := R1'.keep (o := .lst []) hD nO
  refine ⟨fun i m H2 => m = qs.length - i ∧ i ≤ qs.length ∧ ∃ W2 s2 acc av, LSt W1' H D W2 H2 ∧ RSt K W2 H2 ⟨wipeE vs s2.e, s2.t⟩ (L2.wipe σ vs) ∧ H2 D = some (.lst av) ∧ RVs K W2 H2 acc av ∧ lcL t tt f vs qs [] s1 = lcL t tt f vs (qs.drop i) acc s2,
    ⟨qs.length, by simp, Nat.zero_le _, W1'.keep D, s1, [], [], LSt.start hD nP, Rk.wipe vs, upd_same, reps_nil, rfl⟩, ?_⟩
  rintro k m H2 ⟨rfl, hi, W2, s2, acc, av, l, R2, hA, rA, eq⟩
  have vw : Vw (W.hold a) H W2 H2 := stN.vw.trans l.vw
  have fz : ∀ b ∈ [a], H2 b = H b := fun b hb => by
    rw [List.mem_singleton.mp hb]
    exact l.st.pk a aP
  by_cases hlt : k < qs.length
  · refine .inr ⟨G.go W2 H2 k vw fz hlt, fun H2 => k + 1 ≤ qs.length ∧ ∃ W2 s2 acc av, LSt W1' H D W2 H2 ∧ RSt K W2 H2 ⟨wipeE vs s2.e, s2.t⟩ (L2.wipe σ vs) ∧ H2 D = some (.lst av) ∧ RVs K W2 H2 acc av ∧ lcL t tt f vs qs [] s1 = lcL t tt f vs (qs.drop (k + 1)) acc s2, fun H' z => ⟨qs.length - (k + 1), by omega, rfl, z⟩, fun x H3 y => ?_⟩
    obtain ⟨W3, st3, R3, rv⟩ := G.yld W2 H2 k x H3 qs[k] ⟨wipeE vs s2.e, s2.t⟩ (L2.wipe σ vs) vw fz (List.getElem?_eq_getElem hlt) R2 y
    have l3 := l.step st3
    have eq2 := eq
    rw [List.drop_eq_getElem_cons hlt, lcL_cons] at eq2
    have good : ∀ {P : Prop}, (lcL t tt f vs qs [] s1 = .bad ∨ ∃ x s', lcL t tt f vs qs [] s1 = .exc x s') → P := fun {P} z => by
      rcases z with z | ⟨x, s', z⟩ <;> (rw [z] at q; exact q.elim)
    cases e1 : asgT t qs[k] (wipeE vs s2.e) with
    | none => simp only [e1] at eq2; exact good (.inl eq2)
    | some e2 =>
      simp only [e1] at eq2
      refine ⟨W3, ⟨wipeE vs s2.e, s2.t⟩, qs[k], R3, rv, e2, e1, fun σ4 hw R4 => ⟨(hw vs ht).trans (wipe_wipe σ), W3, ⟨e2, s2.t⟩, R4, ?_⟩⟩
      have hw4 : L2.wipe σ4 vs = L2.wipe σ vs := (hw vs ht).trans (wipe_wipe σ)
      have inP : ∀ {W' : Wd}, W'.P = D :: W1'.P → D ∈ W'.P := fun z => by rw [z]; exact List.mem_cons_self
      cases e3 : tt ⟨e2, s2.t⟩ with
      | bad => rw [e3] at eq2; exact good (.inl eq2)
      | exc x s3 => rw [e3] at eq2; exact good (.inr ⟨x, s3, eq2⟩)
      | ok b s3 =>
        rw [e3] at eq2
        simp only [Re.bind] at eq2
        intro c W4 H4 st4 R5 rc
        obtain rfl : c = b := rc
        have l4 := l3.step st4
        have hA4 : H4 D = some (.lst av) := by
          rw [st4.pk D (inP l3.P), st3.pk D (inP l.P)]
          exact hA
        cases c with
        | false =>
          rw [if_neg (by decide)] at eq2 ⊢
          exact ⟨hlt, W4, s3, acc, av, l4, by rw [← hw4]; exact R5.wipe vs, hA4, (st3.trans st4).rvs rA, eq2⟩
        | true =>
          rw [if_pos rfl] at eq2 ⊢
          refine ⟨W4, s3, R5, ?_⟩
          cases e4 : f s3 with
          | bad => rw [e4] at eq2; exact good (.inl eq2)
          | exc x s4 => rw [e4] at eq2; exact good (.inr ⟨x, s4, eq2⟩)
          | ok y s4 =>
            rw [e4] at eq2
            simp only at eq2
            intro v W5 H5 st5 R6 rv5
            have l5 := l4.step st5
            have hA5 : H5 D = some (.lst av) := by
              rw [st5.pk D (inP l4.P)]
              exact hA4
            by_cases hz : acc.length < sizeLine
            · rw [if_pos hz] at eq2
              exact ⟨av, hA5, by rw [rA.len]; exact hz, hlt, W5, s4, acc ++ [y], av ++ [v], l5.poke, by rw [← hw4]; exact (R6.wipe vs).poke (inP l5.P), upd_same,
                rvs_poke (inP l5.P) ((((st3.trans st4).trans st5).rvs rA).app (reps_cons rv5 reps_nil)), eq2⟩
            · rw [if_neg hz] at eq2
              exact good (.inl eq2)
  · have ek : k = qs.length := by omega
    subst ek
    rw [List.drop_length] at eq
    refine .inl ⟨G.stop W2 H2 vw fz, ?_⟩
    rw [eq] at q
    have nt : ∀ vs, (HO.lst av) ≠ .tup vs := fun _ z => nomatch z
    have Rf := l.fin_R ⟨_, hA, nt⟩ R1'.e R2
    have stf : Step (W.hold a) H ⟨D :: W2.O, W2.S, W1'.P⟩ H2 := stN.trans l.fin
    have RF := RSt.free R haO stf Rf
    have SF := Step.free haO stf
    have ha2 : H2 a = H a := fz a (by simp)
    have naW2 : a ∉ W2.O := fun z => R2.t.pa a z (by rw [l.P]; exact List.mem_cons_of_mem _ aP)
    have own : ∀ (j : Nat) (p : PV), (restE vs s1.e s2.e)[j]? = some (.own p) → ∃ b, σ[j]? = some (some (.ref b)) ∧ b ∈ W2.O := fun j p hj => by
      obtain ⟨hj1, hj2⟩ := restE_own hj
      obtain ⟨b, g1, g2, _⟩ := R2.e.ow j p (by rw [wipeE_get, if_neg hj1]; exact hj2)
      rw [wipe_get, if_neg hj1] at g1
      exact ⟨b, g1, g2⟩
    have RO := RF.show_ (i := i) (p := .lst ps) ea (show a ∈ a :: (D :: W2.O) from List.mem_cons_self) (hc.step SF ha2) fun j p hj z => by
      obtain ⟨b, g1, g2⟩ := own j p hj
      rw [g1] at z
      cases z
      exact naW2 g2
    have ee : s1.e = s.e.set i .no := by rw [← es1]
    rw [ee] at RO own
    refine q (.ref D) _ H2 SF RO ⟨D, rfl, List.mem_cons_of_mem _ List.mem_cons_self, ⟨av, hA, ?_⟩, fun j p hj z => ?_⟩
    · have hm1 := free_m (W := W) (H' := H2) (show (Wd.mk (D :: W2.O) W2.S W1'.P).P = a :: W.P from stN.prv)
      show Reps K W2.S ((Wd.free ⟨D :: W2.O, W2.S, W1'.P⟩ W a).m H2) acc av
      rw [hm1, l.fin_m]
      exact rA
    · rcases get_set hj with ⟨rfl, _⟩ | ⟨_, y⟩
      · rw [ea] at z
        cases z
        exact hDa rfl
      · obtain ⟨b, g1, g2⟩ := own j p y
        rw [g1] at z
        cases z
        exact R2.t.pa D g2 (by rw [l.P]; exact List.mem_cons_self)
/-- the start: the slot's list -/
theorem own_at {K : PySem.W.Frag} {W : Wd} {H : Hp} {s : DS} {σ : L2.St} {kind : List PV → List PV} {i : Nat} {Q : VK} (R : RSt K W H s σ) (h : Post rO K Z σ W H (lcBO kind i t tt f vs s) Q) :
    ∃ ps a ws, s.e[i]? = some (.own (.lst ps)) ∧ σ[i]? = some (some (.ref a)) ∧ a ∈ W.O ∧ H a = some (.lst ws) ∧ RVs K W H ps ws ∧ Post rO K Z σ W H ((noX (lcL t tt f vs (kind ps) [] ⟨s.e.set i .no, s.t⟩)).bind fun acc s2 => .ok (.lst acc, true) ⟨(restE vs (s.e.set i .no) s2.e).set i (.own (.lst ps)), s2.t⟩) Q := by
  unfold lcBO at h
  split at h
  · rename_i ps e
    obtain ⟨a, h1, h2, ws, h3, h4⟩ := R.e.ow i _ e
    exact ⟨ps, a, ws, e, h1, h2, h3, h4, h⟩
  · exact h.elim
theorem rvs_hold {K : PySem.W.Frag} {W : Wd} {H : Hp} {a : Addr} {ps : List PV} {ws : List V} (ha : a ∈ W.O) (r : RVs K W H ps ws) : RVs K (W.hold a) H ps ws := by
  show Reps K W.S ((W.hold a).m H) ps ws
  rw [hold_m ha]
  exact r
theorem lcB_list {Q : VK} {σ : L2.St} {H : Hp} {K : PySem.W.Frag} {i : Nat} (ht : tgIn t vs = true) (hiv : i ∉ vs) (h : tO K Z (lcBO (fun ps => ps) i t tt f vs) σ H Q) : tLc (iList K fun σ H Q => ∃ v, σ[i]? = some (some v) ∧ Q v H) (gX K t) (tT K Z0 tt) (tE K Z0 f) vs σ H Q := by
  obtain ⟨W, s, R, h⟩ := h
  obtain ⟨ps, a, ws, e, ea, ha, h1, h2, q⟩ := own_at R h
  exact ⟨.ref a, ea, a, rfl, ⟨ws, SqL.of h1⟩, tLcB_core (ws := ws) ht R e ea ha ⟨ws, h1, h2⟩ hiv (goesF_list h1 (rvs_hold ha h2)) q⟩
theorem lcB_enum {Q : VK} {σ : L2.St} {H : Hp} {K : PySem.W.Frag} {i : Nat} (ht : tgIn t vs = true) (hiv : i ∉ vs) (h : tO K Z (lcBO (enumP 0) i t tt f vs) σ H Q) : tLc (iEnum K (tCons (fun σ H Q => ∃ v, σ[i]? = some (some v) ∧ Q v H) tNil)) (gX K t) (tT K Z0 tt) (tE K Z0 f) vs σ H Q := by
  obtain ⟨W, s, R, h⟩ := h
  obtain ⟨ps, a, ws, e, ea, ha, h1, h2, q⟩ := own_at R h
  exact ⟨.ref a, ea, a, ws, rfl, SqL.of h1, tLcB_core (ws := ws) ht R e ea ha ⟨ws, h1, h2⟩ hiv (goesF_enum h1 (rvs_hold ha h2)) q⟩
end
section
variable {X : Cx} {Z : WX} {t : Tg} {tt : TM} {vs : List Nat} {f : EM} {pos : Pos}
/-- what is walked: a name's own list, plain or counted -/
structure PIB (X : Cx) (i : Nat) (tg e : Expr) (kind : List PV → List PV) : Prop where
  pi : ∃ wi : TI, PI X tg e wi ∧ ∀ (Z : WX) (t : Tg) (tt : TM) (f : EM) (vs : List Nat) (σ : L2.St) (H : Hp) (Q : VK), tgIn t vs = true → i ∉ vs → tO X.K Z (lcBO kind i t tt f vs) σ H Q → tLc wi (gX X.K t) (tT X.K Z0 tt) (tE X.K Z0 f) vs σ H Q
theorem ib_seq {tg : Expr} {x : Str} {p : Pos} (i : Nat) (hN : X.N[i]? = some x := by rfl) (hv : Vis X.env.scope x := by first | exact Or.inl rfl | exact Or.inr (Or.inl rfl) | exact Or.inr (Or.inr rfl)) (hd : (x == ("__debug__" : Str)) = false := by decide)
    (hcd : (x == ("__classdict__" : Str)) = false := by decide) : PIB X i tg (.Name x p) (fun ps => ps) :=
  ⟨_, L2.pi_list (pe_var hN hv hd hcd), fun Z t tt f vs σ H Q h1 h2 h => lcB_list h1 h2 h⟩
theorem ib_enum {x : Str} {p p1 epos tpos : Pos} {elts : List Expr} {kk : Nat} (i : Nat) (hg : Gl X "enumerate") (hm : X.mg "enumerate" = none) (hN : X.N[i]? = some x := by rfl) (hv : Vis X.env.scope x := by first | exact Or.inl rfl | exact Or.inr (Or.inl rfl) | exact Or.inr (Or.inr rfl)) (hd : (x == ("__debug__" : Str)) = false := by decide)
    (hcd : (x == ("__classdict__" : Str)) = false := by decide) (hs : starEach [.Name x p1] X.env = [(false, eval (.Name x p1) X.env)] := by rfl) : PIB X i (.Tuple elts kk tpos) (.Call (.Name "enumerate" p) [.Name x p1] [] epos) (enumP 0) :=
  ⟨_, L2.pi_enum hg hm (L2.pa_cons (pe_var hN hv hd hcd) L2.pa_nil hs) hs, fun Z t tt f vs σ H Q h1 h2 h => lcB_enum h1 h2 h⟩
theorem po_lcB {elt tgt iter : Expr} {ifs : List Expr} {scope : Scope} {own : List (Str × Nat)} {i : Nat} {kind : List PV → List PV} (hc : X.calm = true) (hN : X.N.Nodup) (hi : PIB X i tgt iter kind) (ok : BlkOk X.N X.env.scope scope own) (hg : Blk X scope fun Y => PGX Y tgt t) (ht : Blk X scope fun Y => PTsX Y ifs tt) (he : Blk X scope fun Y => PX Y Z0 elt f)
    (hv : own.map (·.2) = vs := by rfl) (hin : tgIn t vs = true := by rfl) (hiv : i ∉ vs := by decide) (hs : ∀ x, foldedSetIterable iter X.env x = pure x := by intro _; rfl) : PO X Z (.ListComp elt [⟨tgt, iter, ifs, 0⟩] scope pos) (lcBO kind i t tt f vs) := by
  subst hv
  obtain ⟨wi, p1, p2⟩ := hi.pi
  exact ⟨PE_imp (L2.pe_lc (wi := wi) (g := gX X.K t) (tt := tT X.K Z0 tt) (te := tE X.K Z0 f) hc hN p1 ok (fun s H L cl fp => (hg s H L cl fp).pg) (fun s H L cl fp => (ht s H L cl fp).pts) (fun s H L cl fp => (he s H L cl fp).pe) hs) fun σ H Q h => p2 _ _ _ _ _ _ _ _ hin hiv h⟩
theorem ps_setLcB {k : Nat} {y : Str} {py spos : Pos} {elt tgt iter : Expr} {ifs : List Expr} {scope : Scope} {own : List (Str × Nat)} {i : Nat} {kind : List PV → List PV} (hc : X.calm = true) (hN : X.N.Nodup) (hy : X.N[k]? = some y) (hyl : X.env.scope.names.lookup y = some .local)
    (hsw : swapsWith (.ListComp elt [⟨tgt, iter, ifs, 0⟩] scope pos) (some (.Name y py)) spos.line X.env = pure true) (hi : PIB X i tgt iter kind) (ok : BlkOk X.N X.env.scope scope own) (hg : Blk X scope fun Y => PGX Y tgt t) (ht : Blk X scope fun Y => PTsX Y ifs tt) (he : Blk X scope fun Y => PX Y Z0 elt f)
    (hv : own.map (·.2) = vs := by rfl) (hin : tgIn t vs = true := by rfl) (hiv : i ∉ vs := by decide) (hs : ∀ x, foldedSetIterable iter X.env x = pure x := by intro _; rfl) : PSX X Z (.Assign [.Name y py] (.ListComp elt [⟨tgt, iter, ifs, 0⟩] scope pos) spos) (setS k (lcBO kind i t tt f vs)) := by
  subst hv
  obtain ⟨wi, p1, p2⟩ := hi.pi
  refine ⟨PS_imp (L2.ps_setLc (wi := wi) (g := gX X.K t) (tt := tT X.K Z0 tt) (te := tE X.K Z0 f) hc hN hy hyl hsw p1 ok (fun s H L cl fp => (hg s H L cl fp).pg) (fun s H L cl fp => (ht s H L cl fp).pts) (fun s H L cl fp => (he s H L cl fp).pe) hs) fun D σ H ⟨W, s, R, h⟩ => ?_⟩
  exact p2 _ _ _ _ _ _ _ _ hin hiv ⟨W, s, R, PostS.bindE h fun p s1 y W1 H1 _ st R1 ry q => q _ W1 H1 (Step.refl _ _) (R1.put ry)⟩
end
end DR
/-! typed mirrors: sorted of lists, tuples, dicts. -/
namespace DR
section
variable {s s2 : DS} {i : Nat} {f : EM} {p q : PV} {ps : List PV}
def kXt2 (i : Nat) (q : PV) (s : DS) : Re PV := modB i (extUT q) s
def kXt (i : Nat) (f : EM) (s : DS) (p : PV) (_ : DS) : Re PV := if tyN p = some "list" then (f s).bind (kXt2 i) else .bad
theorem extTE_ap : extTE i f s = (nameB i s).bind (kXt i f s) := (rfl)
theorem kXt_ap : kXt i f s (.lst ps) s2 = (f s).bind (kXt2 i) := by simp [kXt, tyN]
theorem kXt2_ap : kXt2 i q s = kMod i (extUT q) s.e[i]? s := modB_ap
end
end DR
namespace TM
open PySem DR
noncomputable section
variable {α β κ γ : Type}
theorem sortB_L (E : α → PV) {n : Nat} [e : OrdOk E n] (xs : List α) (hn : n ≤ 62) : sortB (.lst (xs.map E)) = (srtO E xs).map fun z => (.lst (z.map E), true) := by
  have h := sortA_L E xs hn
  unfold sortB
  rw [h]
  cases srtO E xs <;> rfl
theorem sortB_U (E : α → PV) {n : Nat} [e : OrdOk E n] (xs : List α) (hn : n ≤ 62) : sortB (.tup false (xs.map E)) = (srtO E xs).map fun z => (.lst (z.map E), true) := by
  have h := sortG_t E xs hn
  have e2 : sortUG (.tup false (xs.map E)) = sortG (.lst (xs.map E)) := rfl
  have e3 : sortA (.tup false (xs.map E)) = none := rfl
  unfold sortB
  rw [e3, e2, h]
  rfl
theorem sortB_A {p : PV} {o : Option (PV × Bool)} (h : sortA p = o) (hd : ∃ l, p = .dT l) : sortB p = o := by
  obtain ⟨l, rfl⟩ := hd
  unfold sortB
  rw [h]
  cases o <;> rfl
theorem sortB_D2 (F : β → PV) (d : List ((Int × Int) × β)) : sortB (eD2 F d) = (srtO (eP2 eI eI) (d.map (·.1))).map fun z => (.lst (z.map (eP2 eI eI)), true) := sortB_A (sortD2 F d) ⟨_, rfl⟩
theorem sortB_D3 (F : β → PV) (d : List ((Int × Int × Int) × β)) : sortB (eD3 F d) = (srtO (eP3 eI eI eI) (d.map (·.1))).map fun z => (.lst (z.map (eP3 eI eI eI)), true) := sortB_A (sortD3 F d) ⟨_, rfl⟩
theorem sortB_DU (F : β → PV) (d : List (List Int × β)) : sortB (eDU F d) = (srtO (eU eI) (d.map (·.1))).map fun z => (.lst (z.map (eU eI)), true) := sortB_A (sortDU F d) ⟨_, rfl⟩
theorem extUT_U (E : α → PV) (xs ys : List α) : extUT (.tup false (ys.map E)) (.lst (xs.map E)) = (appO xs ys).map fun z => (.lst (z.map E), .non) := by
  have h := extU_L E xs ys
  exact h
end
end TM
namespace DR
section
variable {s s2 : DS} {i : Nat} {f : EM} {t : Tg} {tt : DR.TM} {vs : List Nat} {kind : List PV → List PV} {ps qs : List PV} {r : PV × Bool}
def constI (ps : List PV) : IM := fun s => .ok ps s
theorem lcBO_ap (h : s.e[i]? = some (.own (.lst ps))) (hk : kind ps = qs) (k : lcO (constI qs) t tt f vs ⟨s.e.set i .no, s.t⟩ = .ok r s2) : lcBO kind i t tt f vs s = .ok r ⟨s2.e.set i (.own (.lst ps)), s2.t⟩ := by
  unfold lcBO
  rw [h]
  simp only [hk]
  unfold lcO constI at k
  rw [bind_ok] at k
  cases e : noX (lcL t tt f vs qs [] ⟨s.e.set i .no, s.t⟩) with
  | bad => rw [e] at k; cases k
  | exc x s1 => rw [e] at k; cases k
  | ok a s1 =>
    rw [e] at k
    cases k
    rfl
end
end DR
/-! typed laws: sorted lists, tuples by order, dicts as lots. -/
namespace TL
open PySem DR TM
section
variable {α β γ σ : Type}
/-! ### sorted -/
theorem leT_total (E : α → PV) {n : Nat} [e : OrdOk E n] : PySem.W.TotalLe (leT E) := PySem.W.sortLe_total _ false _
theorem leT_U (x y : List Int) : leT (eU eI) x y = decide (x ≤ y) := by
  have h := congrFun (congrFun (PySem.W.dataLe_rows (fun b : List Int => b)) x) y
  exact h
theorem leT_2 (p q : Int × Int) : leT (eP2 eI eI) p q = decide (p.1 < q.1 ∨ (p.1 = q.1 ∧ p.2 ≤ q.2)) := by
  have h := congrFun (congrFun (PySem.W.dataLe_ii (fun b : Int × Int => b.1) (fun b : Int × Int => b.2)) p) q
  exact h
theorem srt_pair (E : α → PV) {n : Nat} [e : OrdOk E n] (l : List α) : (l.mergeSort (leT E)).Pairwise fun x y => leT E x y = true := by
  have t := leT_total E
  exact List.pairwise_mergeSort (fun a b c h1 h2 => t.trans a b c h1 h2) (fun a b => by rcases t.total a b with h | h <;> simp [h]) l
theorem srt_id (E : α → PV) {n : Nat} [e : OrdOk E n] {l : List α} (h : l.Pairwise fun x y => leT E x y = true) : l.mergeSort (leT E) = l := List.mergeSort_of_pairwise h
theorem srtO_2 (l : List (Int × Int)) : srtO (eP2 eI eI) l = some (l.mergeSort (leT (eP2 eI eI))) := by
  unfold srtO
  rw [if_pos]
  unfold srtOk
  rw [Bool.or_eq_true]
  exact .inl (List.all_eq_true.mpr fun x _ => rfl)
theorem srtO_U {l : List (List Int)} (h : ∀ x ∈ l, x ≠ []) : srtO (eU eI) l = some (l.mergeSort (leT (eU eI))) := by
  unfold srtO
  rw [if_pos]
  unfold srtOk
  rw [Bool.or_eq_true]
  refine .inl (List.all_eq_true.mpr fun x hx => ?_)
  cases x with
  | nil => exact absurd rfl (h _ hx)
  | cons a x => rfl
theorem lexLt_lt : ∀ (x y : List Int), HT.lexLt x y = decide (x < y)
  | [], [] => by simp [HT.lexLt]
  | [], _ :: _ => by simp [HT.lexLt]
  | _ :: _, [] => by simp [HT.lexLt]
  | a :: x, b :: y => by
    rw [HT.lexLt_cons, lexLt_lt x y]
    by_cases h : a = b
    · subst h; simp [List.cons_lt_cons_iff]
    · simp [h, List.cons_lt_cons_iff]
/-- sorted, none twice: each less than the next -/
theorem srtU_next {l : List (List Int)} (hn : l.Nodup) : ∀ q ∈ List.zip (l.mergeSort (leT (eU eI))) ((l.mergeSort (leT (eU eI))).drop 1), HT.lexLt q.1 q.2 = true := by
  have h1 := srt_pair (eU eI) l
  have h2 : (l.mergeSort (leT (eU eI))).Nodup := (List.mergeSort_perm l _).nodup_iff.mpr hn
  generalize l.mergeSort (leT (eU eI)) = m at h1 h2
  have h3 : m.Pairwise fun x y => x < y := (h1.and h2).imp fun {x y} h => by
    obtain ⟨a, b⟩ := h
    rw [leT_U, decide_eq_true_eq] at a
    exact Classical.byContradiction fun c => b (List.le_antisymm a (List.not_lt.mp c))
  clear h1 h2
  induction m with
  | nil => intro q hq; simp at hq
  | cons a m ih =>
    rw [List.pairwise_cons] at h3
    cases m with
    | nil => intro q hq; simp at hq
    | cons b m =>
      intro q hq
      simp only [List.drop_succ_cons, List.drop_zero, List.zip_cons_cons, List.mem_cons] at hq
      rcases hq with rfl | hq
      · rw [lexLt_lt]; exact decide_eq_true (h3.1 b (List.mem_cons_self ..))
      · exact ih h3.2 q (by simpa using hq)
/-! ### numbers, ascending -/
theorem asc_next {l : List Int} (h : l.Pairwise (· < ·)) : ∀ q ∈ List.zip l (l.drop 1), q.1 < q.2 := by
  induction l with
  | nil => intro q hq; simp at hq
  | cons a m ih =>
    rw [List.pairwise_cons] at h
    cases m with
    | nil => intro q hq; simp at hq
    | cons b m =>
      intro q hq
      simp only [List.drop_succ_cons, List.drop_zero, List.zip_cons_cons, List.mem_cons] at hq
      rcases hq with rfl | hq
      · exact h.1 b (List.mem_cons_self ..)
      · exact ih h.2 q (by simpa using hq)
theorem rng_asc (n : Nat) : ((List.range n).map fun (i : Nat) => (i : Int)).Pairwise (· < ·) := by
  rw [List.pairwise_map]
  exact List.pairwise_lt_range.imp fun {a b} h => by omega
theorem asc_nodup {l : List Int} (h : l.Pairwise (· < ·)) : l.Nodup := h.imp fun {a b} q e => by omega
theorem nodup_le [DecidableEq α] : ∀ {l D : List α}, l.Nodup → (∀ x ∈ l, x ∈ D) → l.length ≤ D.length
  | [], _, _, _ => Nat.zero_le _
  | a :: l, D, h, hs => by
    rw [List.nodup_cons] at h
    have ha := hs a (List.mem_cons_self ..)
    have := nodup_le (l := l) (D := D.erase a) h.2 fun x hx => (List.mem_erase_of_ne (fun e => h.1 (by rw [← e]; exact hx))).mpr (hs x (List.mem_cons_of_mem _ hx))
    rw [List.length_erase_of_mem ha] at this
    have p := List.length_pos_of_mem ha
    rw [List.length_cons]
    omega
/-- so many unlike numbers below n -/
theorem nodup_len {l : List Int} {n : Nat} (hn : l.Nodup) (hb : ∀ x ∈ l, 0 ≤ x ∧ x < n) : l.length ≤ n := by
  have := nodup_le (D := (List.range n).map fun (i : Nat) => (i : Int)) hn fun x hx => by
    have := hb x hx
    exact List.mem_map.mpr ⟨x.toNat, List.mem_range.mpr (by omega), by omega⟩
  simpa using this
/-! ### dicts as lots -/
theorem dch_keys [DecidableEq α] : ∀ (d : List (α × β)) (k : α) (v : β), (dch d k v).map (·.1) = d.map (·.1)
  | [], _, _ => rfl
  | p :: d, k, v => by
    unfold dch
    split
    · simp [dch_keys d k v]
    · simp [dch_keys d k v]
theorem dput_keys [DecidableEq α] (d : List (α × β)) (k : α) (v : β) : (dput d k v).map (·.1) = if k ∈ d.map (·.1) then d.map (·.1) else d.map (·.1) ++ [k] := by
  unfold dput
  by_cases h : k ∈ d.map (·.1)
  · rw [if_pos h, if_pos, dch_keys]
    cases e : dlook d k with
    | none => exact absurd h (dlook_none.mp e)
    | some v => rfl
  · rw [if_neg h, dlook_none.mpr h, if_neg (by simp)]
    simp
theorem dlook_isSome [DecidableEq α] (d : List (α × β)) (k : α) : (dlook d k).isSome = decide (k ∈ d.map (·.1)) := by
  cases e : dlook d k with
  | none => exact (decide_eq_false (dlook_none.mp e)).symm
  | some v =>
    refine (decide_eq_true ?_).symm
    obtain ⟨i, h⟩ := dlook_some e
    exact List.mem_map.mpr ⟨(k, v), List.mem_of_getElem? h, rfl⟩
/-- the keys in the order in which they are met -/
def metK [DecidableEq α] (ks : List α) : List α → List α
  | [] => ks
  | x :: xs => metK (if x ∈ ks then ks else ks ++ [x]) xs
theorem metK_mem [DecidableEq α] : ∀ (xs ks : List α) (k : α), k ∈ metK ks xs ↔ k ∈ ks ∨ k ∈ xs
  | [], ks, k => by simp [metK]
  | x :: xs, ks, k => by
    unfold metK
    rw [metK_mem xs]
    by_cases h : x ∈ ks
    · rw [if_pos h, List.mem_cons]
      constructor
      · rintro (h1 | h1); exact .inl h1; exact .inr (.inr h1)
      · rintro (h1 | h1 | h1); exact .inl h1; exact .inl (h1 ▸ h); exact .inr h1
    · rw [if_neg h, List.mem_append, List.mem_singleton, List.mem_cons, or_assoc]
theorem metK_nodup [DecidableEq α] : ∀ (xs ks : List α), ks.Nodup → (metK ks xs).Nodup
  | [], ks, h => h
  | x :: xs, ks, h => by
    unfold metK
    refine metK_nodup xs _ ?_
    split
    · exact h
    · rename_i hx
      rw [List.nodup_append]
      exact ⟨h, by simp, fun a ha b hb => by rw [List.mem_singleton.mp hb]; exact fun e => hx (e ▸ ha)⟩
theorem metK_len [DecidableEq α] : ∀ (xs ks : List α), ks.Nodup → (metK ks xs).length ≤ ks.length + xs.length ∧ ((metK ks xs).length = ks.length + xs.length ↔ (ks ++ xs).Nodup)
  | [], ks, h => by simp [metK, h]
  | x :: xs, ks, h => by
    unfold metK
    by_cases hx : x ∈ ks
    · rw [if_pos hx]
      obtain ⟨h1, _⟩ := metK_len xs ks h
      refine ⟨by rw [List.length_cons]; omega, ⟨fun e => by rw [List.length_cons] at e; omega, fun e => ?_⟩⟩
      rw [List.nodup_append] at e
      exact absurd rfl (e.2.2 x hx x (List.mem_cons_self ..))
    · rw [if_neg hx]
      obtain ⟨h1, h2⟩ := metK_len xs (ks ++ [x]) (by
        rw [List.nodup_append]
        exact ⟨h, by simp, fun a ha b hb => by rw [List.mem_singleton.mp hb]; exact fun e => hx (e ▸ ha)⟩)
      rw [List.length_append, List.length_singleton] at h1 h2
      rw [List.length_cons]
      refine ⟨by omega, ?_⟩
      rw [show ks ++ x :: xs = ks ++ [x] ++ xs by simp, ← h2]
      omega
theorem dfold_keys [DecidableEq κ] {f : α → Option (Option (κ × β))} (g : α → κ) (w : α → β) : ∀ {xs : List α} {d : List (κ × β)}, d.length + xs.length ≤ 10000000 → (∀ x ∈ xs, f x = some (some (g x, w x))) → ∃ d', dfold f xs d = some d' ∧ d'.map (·.1) = metK (d.map (·.1)) (xs.map g)
  | [], d, _, _ => ⟨d, rfl, rfl⟩
  | x :: xs, d, hl, h => by
    rw [List.length_cons] at hl
    have hk := dput_keys d (g x) (w x)
    have hle : (dput d (g x) (w x)).length ≤ d.length + 1 := by
      have := congrArg List.length hk
      rw [List.length_map] at this
      split at this <;> simp at this <;> omega
    obtain ⟨d', e, k⟩ := dfold_keys g w (xs := xs) (d := dput d (g x) (w x)) (by omega) fun y hy => h y (List.mem_cons_of_mem _ hy)
    refine ⟨d', ?_, ?_⟩
    · unfold dfold
      rw [h x (List.mem_cons_self ..), sb]
      simp only
      rw [dputO_ok (by omega), sb]
      exact e
    · rw [k, hk]; rfl
theorem dfold2_keys [DecidableEq κ] {c : α → Option (Option (List β))} {f : α → β → Option (Option (κ × γ))} (L : α → List β) (g : α → β → κ) (w : α → β → γ) : ∀ {xs : List α} {d : List (κ × γ)}, d.length + (xs.flatMap L).length ≤ 10000000 → (∀ x ∈ xs, c x = some (some (L x))) → (∀ x ∈ xs, ∀ y ∈ L x, f x y = some (some (g x y, w x y))) →
    ∃ d', dfold2 c f xs d = some d' ∧ d'.map (·.1) = metK (d.map (·.1)) (xs.flatMap fun x => (L x).map (g x))
  | [], d, _, _, _ => ⟨d, rfl, rfl⟩
  | x :: xs, d, hl, h1, h2 => by
    rw [List.flatMap_cons, List.length_append] at hl
    obtain ⟨d1, e1, k1⟩ := dfold_keys (g x) (w x) (xs := L x) (d := d) (by omega) (h2 x (List.mem_cons_self ..))
    have m : ∀ (a b c : List κ), metK (metK a b) c = metK a (b ++ c) := fun a b c => by
      induction b generalizing a with
      | nil => rfl
      | cons y b ih => show metK (metK _ b) c = metK _ (b ++ c); exact ih _
    have hl1 : d1.length ≤ d.length + (L x).length := by
      have := congrArg List.length k1
      rw [List.length_map] at this
      rw [this]
      have q : ∀ (b a : List κ), (metK a b).length ≤ a.length + b.length := fun b => by
        induction b with
        | nil => intro a; exact Nat.le_refl _
        | cons y b ih =>
          intro a
          unfold metK
          have := ih (if y ∈ a then a else a ++ [y])
          split at this
          · rename_i h; rw [if_pos h, List.length_cons]; omega
          · rename_i h; rw [if_neg h, List.length_cons]; simp at this; omega
      have := q ((L x).map (g x)) (d.map (·.1))
      simpa using this
    obtain ⟨d', e, k⟩ := dfold2_keys L g w (xs := xs) (d := d1) (by omega) (fun y hy => h1 y (List.mem_cons_of_mem _ hy)) fun y hy => h2 y (List.mem_cons_of_mem _ hy)
    refine ⟨d', ?_, ?_⟩
    · unfold dfold2
      rw [h1 x (List.mem_cons_self ..), sb]
      simp only
      rw [e1, sb]
      exact e
    · rw [k, k1, m]; rfl
/-! ### len(set(..)) -/
theorem dedL_met (xs : List Int) : dedL xs = metK [] xs := by
  have q : ∀ (b a : List Int), b.foldl PyProof.Rows.step_dedup a = metK a b := fun b => by
    induction b with
    | nil => intro a; rfl
    | cons y b ih =>
      intro a
      have e : PyProof.Rows.step_dedup a y = if y ∈ a then a else a ++ [y] := by
        unfold PyProof.Rows.step_dedup
        by_cases h : y ∈ a
        · rw [if_pos h, if_pos]
          exact List.any_eq_true.mpr ⟨y, h, beq_iff_eq.mpr rfl⟩
        · rw [if_neg h, if_neg]
          intro c
          obtain ⟨z, hz, e⟩ := List.any_eq_true.mp c
          exact h (by rw [← beq_iff_eq.mp e]; exact hz)
      rw [List.foldl_cons, e, ih]
      rfl
  exact q xs []
theorem lenSet_ok {xs : List Int} (h : xs.length < 64) : ∃ v, lenSetT xs = some v ∧ (v = (xs.length : Int) ↔ xs.Nodup) := by
  unfold lenSetT
  rw [if_pos h]
  refine ⟨_, rfl, ?_⟩
  have := (metK_len xs [] (by simp)).2
  rw [dedL_met]
  simp only [List.length_nil, Nat.zero_add, List.nil_append] at this
  rw [← this]
  omega
/-! ### loops that may end ahead -/
theorem for_or {f : σ → α → Option (Fw σ β)} (I : σ → Prop) (Q : β → Prop) : ∀ {l : List α} {s : σ}, I s → (∀ s x, x ∈ l → I s → ∃ o, f s x = some o ∧ match o with
    | .nx s' => I s'
    | .bk s' => I s'
    | .rt b => Q b) → ∃ o, forO f l s = some o ∧ match o with
    | .inl s' => I s'
    | .inr b => Q b
  | [], s, h, _ => ⟨.inl s, rfl, h⟩
  | x :: l, s, h, st => by
    obtain ⟨o, e, k⟩ := st s x (List.mem_cons_self ..) h
    unfold forO
    rw [e, sb]
    cases o with
    | nx s' => exact for_or I Q k fun s y hy => st s y (List.mem_cons_of_mem _ hy)
    | bk s' => exact ⟨_, rfl, k⟩
    | rt b => exact ⟨_, rfl, k⟩
/-- a fold over a list, an invariant of the state alone -/
theorem fold_or {f : σ → α → Option σ} (I : σ → Prop) : ∀ {l : List α} {s : σ}, I s → (∀ s x, x ∈ l → I s → ∃ s', f s x = some s' ∧ I s') → ∃ s', foldO f l s = some s' ∧ I s'
  | [], s, h, _ => ⟨s, rfl, h⟩
  | x :: l, s, h, st => by
    obtain ⟨s1, e, k⟩ := st s x (List.mem_cons_self ..) h
    obtain ⟨s2, e2, k2⟩ := fold_or I k fun s y hy => st s y (List.mem_cons_of_mem _ hy)
    exact ⟨s2, by unfold foldO; rw [e]; exact e2, k2⟩
theorem setX_ok {l : List α} {j : Int} (v : α) (h0 : 0 ≤ j) (h : j < l.length) : setX l j v = some (l.set j.toNat v) := by
  unfold setX L2.ixN
  rw [if_pos h0, if_pos h]
  rfl
theorem repO_ok (x : α) {k : Int} (h0 : 0 ≤ k) (h : k ≤ 1000000) : repO [x] k = some (List.replicate k.toNat x) := by
  unfold repO
  rw [if_pos ⟨by omega, by rw [List.length_singleton, Nat.one_mul]; exact small (by omega)⟩]
  refine congrArg some ?_
  generalize k.toNat = m
  induction m with
  | zero => rfl
  | succ m ih => rw [List.replicate_succ, List.flatten_cons, ih, List.replicate_succ]; rfl
theorem getD_set {l : List α} {i j : Nat} {v d : α} (hj : j < l.length) : (l.set j v).getD i d = if i = j then v else l.getD i d := by
  rw [List.getD_eq_getElem?_getD, List.getElem?_set, List.getD_eq_getElem?_getD]
  by_cases h : j = i
  · subst h; rw [if_pos rfl, if_pos hj, if_pos rfl]; rfl
  · rw [if_neg h, if_neg (Ne.symm h)]
/-- the places of a list where something is so -/
theorem enum_filter (p : α → Bool) (d : α) {l : List α} {x : Int} : x ∈ ((enumT 0 l).filter fun q => p q.2).map (·.1) ↔ 0 ≤ x ∧ x < l.length ∧ p (l.getD x.toNat d) = true := by
  rw [enumT_eq d]
  simp only [List.mem_map, List.mem_filter, List.mem_range, Nat.zero_add]
  constructor
  · rintro ⟨q, ⟨⟨i, hi, rfl⟩, h⟩, rfl⟩
    exact ⟨by simp only; omega, by simp only; omega, by simpa using h⟩
  · rintro ⟨h1, h2, h3⟩
    exact ⟨(x, l.getD x.toNat d), ⟨⟨x.toNat, by omega, by simp only [Prod.mk.injEq, and_true]; omega⟩, h3⟩, rfl⟩
theorem smL {δ : Type} (s : σ) (f : σ → Option δ) (g : β → Option δ) : sumM (.inl s) f g = f s := Eq.trans rfl rfl
theorem smR {δ : Type} (b : β) (f : σ → Option δ) (g : β → Option δ) : sumM (.inr b) f g = g b := Eq.trans rfl rfl
theorem omS {δ : Type} (x : α) (f : Option δ) (g : α → Option δ) : optM (some x) f g = g x := Eq.trans rfl rfl
theorem omN {δ : Type} (f : Option δ) (g : α → Option δ) : optM (none : Option α) f g = f := Eq.trans rfl rfl
end
end TL
set_option maxHeartbeats 4000000
/-! DR: an own exception over ValueError is made: its maker says super().__init__(text), and perhaps keeps one argument. -/
namespace DR
open PySem PySem.Spec PyProof.Rows L2 PySem.W PySem.Calls
/-- the class at C, its maker at fI, the cell of its own name at cc, the maker's code at cda -/
structure XcK (prog : Program) (K : Frag) (C fI cc cda : Addr) (qual : Str) (params : Arguments) (body : List Stmt) (scope : Scope) : Prop extends OexC K C where
  iC : findIn K (.ref C) "__init__" = some (some (.ref fI))
  tI : typeIn K (.ref fI) = some (.type "function")
  fnc : ∃ oc od kV doc pm an ct osl, K.lookup fI = some ⟨oc, od, .func (ksFn "__init__" qual params body scope .none kV doc pm an (.ref cda) ct cc), osl⟩
  cdI : codeIn K (.ref cda) qual = true
  cod : ∃ ccl cdd vs ccs file tf, K.lookup cda = some ⟨ccl, cdd, .fields vs, ccs⟩ ∧ vs[2]? = some (.str file tf) ∧ ((prog.main.file : Str) == file) = true
  cel : ∃ cl cld csl, K.lookup cc = some ⟨cl, cld, .cell (some (.ref C)), csl⟩
  up : ks_superIn K C C "__init__" = some (some (.builtin "ValueError.__init__"))
  subV : subIn K (.ref C) (.type "ValueError") = some true
  me : mroIn K C (.ref C) = some true
  opq : nsIn K cStatics "thirdparty.any" = some none
  top : (prog.main.scope.names.lookup ("super" : Str)).isSome = false
/-- the maker's names -/
structure XcS (params : Arguments) (scope : Scope) (a : Arg) : Prop where
  co : scope.isCoroutine = false
  gen : scope.isGenerator = false
  kind : scope.kind = .function
  cell : ∀ y ∈ scope.names, y.2 ≠ .cell
  sup : scope.names.lookup ("super" : Str) = some .globalImplicit
  cls : scope.names.lookup ("__class__" : Str) = some .free
  slf : scope.names.lookup ("self" : Str) = some .local
  par : (params.posonlyargs ++ params.args).head? = some a
  nam : a.arg = "self"
/-- how the call is read -/
structure SupE (qual : Str) (scope : Scope) (nm : Str) (j : Nat) (p0 p1 p2 p3 p4 p5 : Pos) : Prop where
  ia : ∀ (L fI cda cc : Addr), interactive (ksEnv qual scope L fI (.ref cda) cc) = false
  sw : ∀ (L fI cda cc : Addr), swapsWith (.Call (.Attribute (.Call (.Name "super" p0) [] [] p1) "__init__" p2) [.Constant (.str nm) j p3] [] p4) none p5.line (ksEnv qual scope L fI (.ref cda) cc) = pure false
  ev : ∀ (L fI cda cc : Addr), eval (.Call (.Attribute (.Call (.Name "super" p0) [] [] p1) "__init__" p2) [.Constant (.str nm) j p3] [] p4) (ksEnv qual scope L fI (.ref cda) cc) = (do
    let o ← attributeBase (.Call (.Name "super" p0) [] [] p1) "__init__" (ksEnv qual scope L fI (.ref cda) cc) (eval (.Call (.Name "super" p0) [] [] p1) (ksEnv qual scope L fI (.ref cda) cc))
    standAt p2.atName
    let (f, fs) ← holding [o] (getMethod o "__init__" (plainOf (.Call (.Name "super" p0) [] [] p1) (ksEnv qual scope L fI (.ref cda) cc)))
    callWith p4 f fs (backTo p4 (starEach [.Constant (.str nm) j p3] (ksEnv qual scope L fI (.ref cda) cc))) [])
section
variable {prog : Program} {w : World} {A : Around} {E : Value → Shared → Prop} {g : Array GenState} {d : Drawn} {t : Nat} {os : OsState} {hp : Heap}
theorem mw_run {nm q : Str} {C N : Addr} {bs bm : List Value} {hdct : Bool} {sn : List Str} {sub : List Value} {ab : Bool} {col : Option Bool} {dd : Option Addr} {k0 k1 k2 k3 k5 : Option Value} {u e t0 : Addr} {rest : List Value} {Q : Value → Shared → Prop}
    (cC : hp.get? C = some (excClassObj nm q C N bs bm hdct sn sub ab col dd k0 k1 k2 k3 k5 "ValueError.__new__")) (ce : hp.get? e = some (PySem.HandSPX.excO C t0)) (cu : hp.get? u = some (kxs_mw "ValueError.__init__" e)) (few : rest.length ≤ sizeLine)
    (hq : ∀ h' t1, (∀ b o, b ≠ e → hp.get? b = some o → h'.get? b = some o) → h'.get? e = some (PySem.HandSPX.excO C t1) → Q .none ⟨h', g, d, t, os⟩) :
    wpAny (model prog w) A (call (.ref u) rest) Q E ⟨hp, g, d, t, os⟩ := by
  refine wpAny_call (codeAny_of_tree ?_)
  show wpAny (model prog w) A.in1 (callAny (.ref u) ⟨rest, []⟩) _ _ _
  simp only [callAny]
  refine wpAny_bind (wpAny_load cu ?_)
  simp only [kxs_mw, show (Value.type "method-wrapper" == Value.type "method" || Value.type "method-wrapper" == Value.type "builtin_function_or_method" || Value.type "method-wrapper" == Value.type "method-wrapper") = true by decide, if_true]
  refine KFB.if_so (by decide) (wpAny_bind (check_bound_init F.excBase_ValueError.toExcCallFacts cC ce rfl (wpAny_bind (wpAny_pure (wpAny_pure ?_)))))
  refine ⟨plainId_quiet F.excBase_ValueError.init.plain _, codeAny_builtin F.excBase_ValueError.initEntry ?_⟩
  exact exc_init_tree (cls := .ref C) (t0 := t0) (dv := none) (c2 := .none) (c3 := .none) (b4 := .bool false) ce few fun h' k' e' _ => hq h' _ k' e'
/-- super().__init__(text) -/
theorem xc_first {K : Frag} {mg : Str → Option Value} {base : Heap} {C fI cc cda L e t1 : Addr} {qual nm : Str} {params : Arguments} {body body' : List Stmt} {scope : Scope} {a : Arg} {m : Str → Option Value} {j : Nat} {p0 p1 p2 p3 p4 p5 : Pos} {Q : Flow → Shared → Prop}
    (T : XcK prog K C fI cc cda qual params body scope) (S : XcS params scope a) (G : L2.Mod K mg base) (kb : ∀ b o, base.get? b = some o → hp.get? b = some o) (hs : mg "super" = none) (hn : hp.Ns L m) (hv : m "self" = some (.ref e)) (ce : hp.get? e = some (PySem.HandSPX.excO C t1))
    (he : SupE qual scope nm j p0 p1 p2 p3 p4 p5)
    (hq : ∀ h' t2 tk, (∀ b o, b ≠ e → hp.get? b = some o → h'.get? b = some o) → h'.get? e = some (PySem.HandSPX.excO C t2) → Q .next ⟨h', g, d, tk, os⟩) :
    PySem.wpAt (model prog w) A (.func body' (ksEnv qual scope L fI (.ref cda) cc)) (exec (.Expr (.Call (.Attribute (.Call (.Name "super" p0) [] [] p1) "__init__" p2) [.Constant (.str nm) j p3] [] p4) p5) (ksEnv qual scope L fI (.ref cda) cc)) Q E ⟨hp, g, d, t, os⟩ := by
  obtain ⟨oc, od, kV, doc, pm, an, ct, osl, lk⟩ := T.fnc
  obtain ⟨ccl, cdd, vs, ccs, file, tf, lc, l2, l3⟩ := T.cod
  obtain ⟨cl, cld, csl, lcc⟩ := T.cel
  obtain ⟨nmC, qC, NC, bs, bm, sn, sub, ab, col, dd, k0, k1, k2, k3, k5, lC, hbm⟩ := T.cls
  obtain ⟨mb, b1, b2⟩ := G.blt
  have X : K.In hp := G.kin.keeps kb
  have cC := X _ _ lC
  have hcl : clsIn K C = some { name := nmC, bases := bs, mro := .ref C :: bm, ns := NC, qualname := qC, hasDict := true, slotNames := sn, subclasses := sub, abstract := ab, collection := col, hasDel := false } := by unfold clsIn; rw [lC] <;> rfl
  have I : InstAt hp e (PySem.HandSPX.excO C t1) C none := ⟨ce, rfl, rfl, trivial⟩
  refine ks_wpAt_Expr_any (ks_wpAt_MethodCall (env := ksEnv qual scope L fI (.ref cda) cc) ?_ (he.ev _ _ _ _)) (he.ia _ _ _ _) (he.sw _ _ _ _)
  refine ks_wpAt_super_base (env := ksEnv qual scope L fI (.ref cda) cc) S.sup S.cls rfl rfl (X _ _ lk) rfl S.par rfl (X _ _ lc) rfl l2 l3 T.top ?_
  refine ks_loadName_global S.kind S.sup (loadGlobal_builtin (env := ksEnv qual scope L fI (.ref cda) cc) (G.glob.keeps kb) hs (b1.keeps kb) ((b2 "super" (by decide)).trans (by kernel_rfl)) ⟨rfl, ?_⟩)
  refine wpAny_loadName_free S.kind S.cls rfl ⟨_, X _ _ lcc, rfl⟩ ?_
  rw [S.nam]
  refine wpAny_loadName_local S.kind S.slf hn hv ?_
  refine ks_wpAny_isType_cls cC rfl ⟨rfl, ?_⟩
  refine ks_wpAny_call_super cC rfl ce rfl (fun c z => by cases z) (looks_mroIn X T.me) (fun h1 e1 k1 => ?_)
  have X1 : K.In h1 := X.keeps k1
  have I1 : InstAt h1 e (PySem.HandSPX.excO C t1) C none := ⟨k1 _ _ ce, rfl, rfl, trivial⟩
  have up := T.up
  unfold ks_superIn at up
  rw [hcl, Option.bind_some] at up
  refine kxs_getMethod kxs_ValueError e1 (looks_opaque X1 T.opq) (l₀ := .ref C :: bm) ((looks_clsIn X1 hcl).andThen .now) rfl X1 up (I1.type.andThen (looks_subIn X1 T.subV)) (ks_ne X I hcl) rfl ?_
  refine kxs_callWith (i := "ValueError.__init__") (x := e) rfl ?_
  refine evalArgs_plain (show wpAny _ _ (spliced ((false, eval (.Constant (.str nm) j p3) (ksEnv qual scope L fI (.ref cda) cc)) :: backTo p4 (starEach [] (ksEnv qual scope L fI (.ref cda) cc)))) _ _ _ from ?_)
  refine spliced_cons (Constant_str (spliced_nil ⟨Heap.get?_push_size h1 rfl, ?_⟩))
  have k2 : ∀ b o, hp.get? b = some o → (h1.push (kxs_mw "ValueError.__init__" e)).get? b = some o := fun b o z => Heap.get?_push_of_some _ (k1 b o z)
  exact mw_run (k2 _ _ cC) (k2 _ _ ce) (Heap.get?_push_size h1 rfl) (show 1 ≤ sizeLine by decide) fun h' t2 k' e' => hq h' t2 _ (fun b o hb z => k' b o hb (k2 b o z)) e'
/-- self.f = f -/
theorem xc_second {K : Frag} {mg : Str → Option Value} {base : Heap} {C L e t1 : Addr} {env : PySem.Env} {c : Code} {f : Str} {v : Value} {m : Str → Option Value} {q1 q2 q3 q4 : Pos} {Q : Flow → Shared → Prop}
    (T : OexC K C) (G : L2.Mod K mg base) (kb : ∀ b o, base.get? b = some o → hp.get? b = some o) (hL : env.locals = L) (hk : env.scope.kind = .function) (hself : env.kindOf "self" = some .local) (hfl : env.kindOf f = some .local) (hn : hp.Ns L m) (hv : m "self" = some (.ref e)) (hf : m f = some v) (ce : hp.get? e = some (PySem.HandSPX.excO C t1))
    (hno : findIn K (.ref C) f = some none) (hsw : swapsWith (.Name f q3) (some (.Attribute (.Name "self" q1) f q2)) q4.line env = pure false) (hd : (f == ("__debug__" : Str)) = false)
    (hq : ∀ h' dx tk, (∀ b o, b ≠ e → hp.get? b = some o → h'.get? b = some o) → hp.objs.size ≤ dx → dx ≠ e → h'.get? e = some { cls := .ref C, dict := some dx, data := .fields #[.ref t1, .none, .none, .none, .bool false, .none] } → h'.Ns1 dx (fun y => if y = f then some v else none) → Q .next ⟨h', g, d, tk, os⟩) :
    PySem.wpAt (model prog w) A c (exec (.Assign [.Attribute (.Name "self" q1) f q2] (.Name f q3) q4) env) Q E ⟨hp, g, d, t, os⟩ := by
  obtain ⟨nmC, qC, NC, bs, bm, sn, sub, ab, col, dd, k0, k1, k2, k3, k5, lC, hbm⟩ := T.cls
  have X : K.In hp := G.kin.keeps kb
  have hcl : clsIn K C = some { name := nmC, bases := bs, mro := .ref C :: bm, ns := NC, qualname := qC, hasDict := true, slotNames := sn, subclasses := sub, abstract := ab, collection := col, hasDel := false } := by unfold clsIn; rw [lC] <;> rfl
  have I : InstAt hp e (PySem.HandSPX.excO C t1) C none := ⟨ce, rfl, rfl, trivial⟩
  subst hL
  refine ks_wpAt_Assign_Attr ?_ hsw
  refine wpAt_of_wpAny (wpAny_Name (wpAny_loadName_local hk hfl hn hf ?_) hd)
  refine wpAny_Name (wpAny_loadName_local hk hself hn hv ?_) (by decide)
  refine set_plain X I T.sa ?_
  refine PySem.HandSPX.exc_osa X ce hcl (show PySem.HandSPX.refsVE (.ref C :: bm) = true from hbm) rfl hno fun h' tk' dx k dn dne hx hn' => hq h' dx tk' k dn dne hx hn'
end
end DR
set_option maxHeartbeats 4000000
/-! DR: C() and C(e): the exception is made, as a rule. -/
namespace DR
open PySem PySem.Spec PyProof.Rows L2 PySem.W PySem.Calls
section
variable {X : Cx}
theorem base_keeps {pins : List (Addr × Obj)} {σ : L2.St} {H : Hp} {s : Shared} (I : Inv X pins σ H s) : ∀ b o, X.base.get? b = some o → s.heap.get? b = some o := I.bk
/-- C() -/
theorem pmk_xc0 {x nm : Str} {C fI cc cda : Addr} {k j : Nat} {qual : Str} {params : Arguments} {scope : Scope} {a : Arg} {p pos p0 p1 p2 p3 p4 p5 : Pos}
    (T : XcK X.prog X.K C fI cc cda qual params [.Expr (.Call (.Attribute (.Call (.Name "super" p0) [] [] p1) "__init__" p2) [.Constant (.str nm) j p3] [] p4) p5] scope) (S : XcS params scope a) (hs : X.mg "super" = none) (he : SupE qual scope nm j p0 p1 p2 p3 p4 p5)
    (hb : ∀ (kV doc pm : Value) (an : Option Addr) (ct v : Value), bindArgs (ksFn "__init__" qual params [.Expr (.Call (.Attribute (.Call (.Name "super" p0) [] [] p1) "__init__" p2) [.Constant (.str nm) j p3] [] p4) p5] scope .none kV doc pm an (.ref cda) ct cc) ⟨[v], []⟩ = pure [(("self" : Str), v)])
    (hr : Room (k + 1) X.A) (hg : Gl X x) (hm : X.mg x = some (.ref C)) (hdb : (x == ("__debug__" : Str)) = false := by decide) : PMk X (.Call (.Name x p) [] [] pos) (fun _ H Q => Q (.ref C) none H) := by
  intro pins s σ H Q I h
  obtain ⟨nmC, qC, NC, bs, bm, sn, sub, ab, col, dd, k0, k1, k2, k3, k5, hC, hbm⟩ := T.cls
  obtain ⟨oc, od, kV, doc, pm, an, ct, osl, lk⟩ := T.fnc
  refine wpAny_Call_Name_kw (ld_glob I hg hm ?_ hdb)
  refine callWith_K0 I.kIn T.kC ?_
  obtain ⟨hp, g, dr, tk, os⟩ := s
  show wpAny _ _ (call (.ref C) []) _ _ _
  have kk : ∀ b o, hp.get? b = some o → ((hp.push (kdv_tup [])).push (PySem.HandSPX.excO C hp.objs.size)).get? b = some o := fun b o e => Heap.get?_push_of_some _ (Heap.get?_push_of_some _ e)
  have hget : ((hp.push (kdv_tup [])).push (PySem.HandSPX.excO C hp.objs.size)).get? (hp.objs.size + 1) = some (PySem.HandSPX.excO C hp.objs.size) := by heap_get
  have X2 : Frag.In X.K ((hp.push (kdv_tup [])).push (PySem.HandSPX.excO C hp.objs.size)) := I.kIn.keeps kk
  have lim : ((hp.push (kdv_tup [])).push (PySem.HandSPX.excO C hp.objs.size)).NoLimit := (I.mod.nolimit.keeps I.bk).keeps kk
  refine wpAny_call (PySem.HandSPX.call_own F.excBase_ValueError (fun Y => PySem.HandSPX.refsVE_contains Y bm hbm) (I.kIn _ _ hC) (looks_findIn I.kIn T.iC) (fun self => bind_fn I.kIn self T.tI) (Nat.zero_le _) ?_)
  refine ks_codeAny_call_defAt (fd := ksFn "__init__" qual params _ scope .none kV doc pm an (.ref cda) ct cc) (binds := [("self", .ref (hp.objs.size + 1))]) (hr.make C [] []).depth (X2 _ _ lk) rfl lim (codeRec_of X2 T.cdI) rfl
    (fun M A E Q q => by rw [hb]; exact wpAny_pure q) S.cell (fun y hy => ?_) (fun h₀ hn kp => ?_) S.co S.gen S.kind
  · rcases List.mem_singleton.mp hy with rfl
    exact S.slf
  · refine ks_wpAt_execs_cons ?_
    refine xc_first T S I.mod (fun b o e => kp _ _ (kk _ _ (I.bk b o e))) hs hn rfl (kp _ _ hget) he fun h' t2 tk' k' e' => ?_
    refine wpAt_of_wpAny (wpAny_execs_nil ?_)
    have kf : ∀ b o, hp.get? b = some o → h'.get? b = some o := fun b o z => k' b o (Nat.ne_of_lt (Nat.lt_succ_of_lt (Heap.lt_size z))) (kp _ _ (kk _ _ z))
    have hz : hp.get? (hp.objs.size + 1) = none := by
      cases z : hp.get? (hp.objs.size + 1) with
      | none => rfl
      | some o => exact absurd (Heap.lt_size z) (Nat.not_lt.mpr (Nat.le_succ _))
    refine ⟨rfl, hp.objs.size + 1, _, _, ⟨hp, g, dr, tk, os⟩, H, .ref C, none, rfl, I, kf, hz, e', ⟨rfl, rfl⟩, rfl, rfl, I.hok.fresh (Nat.le_succ _), rfl, I.bare, raises_own T.exC T.tyC, h⟩
/-- C(e): one argument, kept under its own name f -/
theorem pmk_xc1 {x nm f : Str} {C fI cc cda : Addr} {k j : Nat} {qual : Str} {params : Arguments} {scope : Scope} {a : Arg} {e : Expr} {ta : TA} {p pos p0 p1 p2 p3 p4 p5 q1 q2 q3 q4 : Pos}
    (T : XcK X.prog X.K C fI cc cda qual params [.Expr (.Call (.Attribute (.Call (.Name "super" p0) [] [] p1) "__init__" p2) [.Constant (.str nm) j p3] [] p4) p5, .Assign [.Attribute (.Name "self" q1) f q2] (.Name f q3) q4] scope) (S : XcS params scope a) (hs : X.mg "super" = none) (he : SupE qual scope nm j p0 p1 p2 p3 p4 p5)
    (hb : ∀ (kV doc pm : Value) (an : Option Addr) (ct v u : Value), bindArgs (ksFn "__init__" qual params [.Expr (.Call (.Attribute (.Call (.Name "super" p0) [] [] p1) "__init__" p2) [.Constant (.str nm) j p3] [] p4) p5, .Assign [.Attribute (.Name "self" q1) f q2] (.Name f q3) q4] scope .none kV doc pm an (.ref cda) ct cc) ⟨[v, u], []⟩ = pure [(("self" : Str), v), (f, u)])
    (hfl : scope.names.lookup f = some .local) (hfs : f ≠ "self") (hno : findIn X.K (.ref C) f = some none) (hsw : ∀ (L fI cda cc : Addr), swapsWith (.Name f q3) (some (.Attribute (.Name "self" q1) f q2)) q4.line (ksEnv qual scope L fI (.ref cda) cc) = pure false) (hd : (f == ("__debug__" : Str)) = false)
    (hr : Room (k + 1) X.A) (hg : Gl X x) (hm : X.mg x = some (.ref C)) (ha : PA X [e] ta) (hdb : (x == ("__debug__" : Str)) = false := by decide) (hst : starEach [e] X.env = (false, eval e X.env) :: starEach [] X.env := by rfl) :
    PMk X (.Call (.Name x p) [e] [] pos) (fun σ H Q => ta σ H fun vs H1 => ∃ v, vs = [v] ∧ ∀ dx, H1 dx = none → Q (.ref C) (some dx) (upd H1 dx (.xd [(f, v)]))) := by
  intro pins s σ H Q I h
  obtain ⟨nmC, qC, NC, bs, bm, sn, sub, ab, col, dd, k0, k1, k2, k3, k5, hC, hbm⟩ := T.cls
  obtain ⟨oc, od, kV, doc, pm, an, ct, osl, lk⟩ := T.fnc
  refine wpAny_Call_Name_kw (ld_glob I hg hm ?_ hdb)
  refine callWith_K (h₀ := X.base) I.ok.mod.kin T.kC (thn (ha.run pos pins s σ H _ I h) fun us s1 ⟨vs, H1, I1, r1, v, ev, q1⟩ => ⟨I1.kIn, ?_⟩) hst rfl
  subst ev
  cases r1 with
  | @cons _ u _ _ ru rn =>
  cases rn
  show wpAny _ _ (call (.ref C) [u]) _ _ _
  obtain ⟨hp, g, dr, tk, os⟩ := s1
  have kk : ∀ b o, hp.get? b = some o → ((hp.push (kdv_tup [u])).push (PySem.HandSPX.excO C hp.objs.size)).get? b = some o := fun b o e => Heap.get?_push_of_some _ (Heap.get?_push_of_some _ e)
  have hget : ((hp.push (kdv_tup [u])).push (PySem.HandSPX.excO C hp.objs.size)).get? (hp.objs.size + 1) = some (PySem.HandSPX.excO C hp.objs.size) := by heap_get
  have X2 : Frag.In X.K ((hp.push (kdv_tup [u])).push (PySem.HandSPX.excO C hp.objs.size)) := I1.kIn.keeps kk
  have lim : ((hp.push (kdv_tup [u])).push (PySem.HandSPX.excO C hp.objs.size)).NoLimit := (I1.mod.nolimit.keeps I1.bk).keeps kk
  refine wpAny_call (PySem.HandSPX.call_own F.excBase_ValueError (fun Y => PySem.HandSPX.refsVE_contains Y bm hbm) (I1.kIn _ _ hC) (looks_findIn I1.kIn T.iC) (fun self => bind_fn I1.kIn self T.tI) (show 1 ≤ sizeLine by decide) ?_)
  refine ks_codeAny_call_defAt (fd := ksFn "__init__" qual params _ scope .none kV doc pm an (.ref cda) ct cc) (binds := [("self", .ref (hp.objs.size + 1)), (f, u)]) (hr.make C [u] []).depth (X2 _ _ lk) rfl lim (codeRec_of X2 T.cdI) rfl
    (fun M A E Q q => by rw [hb]; exact wpAny_pure q) S.cell (fun y hy => ?_) (fun h₀ hn kp => ?_) S.co S.gen S.kind
  · rcases List.mem_cons.mp hy with rfl | hy
    · exact S.slf
    · rcases List.mem_singleton.mp hy with rfl
      exact hfl
  · have m1 : ([(("self" : Str), Value.ref (hp.objs.size + 1)), (f, u)].reverse.lookup ("self" : Str)) = some (Value.ref (hp.objs.size + 1)) := by
      show List.lookup ("self" : Str) [(f, u), (("self" : Str), Value.ref (hp.objs.size + 1))] = _
      rw [List.lookup_cons, show (("self" : Str) == f) = false from beq_eq_false_iff_ne.mpr (Ne.symm hfs)]
      rfl
    have m2 : ([(("self" : Str), Value.ref (hp.objs.size + 1)), (f, u)].reverse.lookup f) = some u := by
      show List.lookup f [(f, u), (("self" : Str), Value.ref (hp.objs.size + 1))] = _
      rw [List.lookup_cons, show (f == f) = true from beq_self_eq_true f]
    have hlt : ∀ b o, hp.get? b = some o → b ≠ hp.objs.size + 1 := fun b o z => Nat.ne_of_lt (Nat.lt_succ_of_lt (Heap.lt_size z))
    refine ks_wpAt_execs_cons ?_
    refine xc_first T S I1.mod (fun b o e => kp _ _ (kk _ _ (I1.bk b o e))) hs hn m1 (kp _ _ hget) he fun h1 t2 tk1 ka e1 => ?_
    refine ks_wpAt_execs_cons ?_
    have neL : ∀ o, h₀.get? ((hp.push (kdv_tup [u])).push (PySem.HandSPX.excO C hp.objs.size)).objs.size = some o → ((hp.push (kdv_tup [u])).push (PySem.HandSPX.excO C hp.objs.size)).objs.size ≠ hp.objs.size + 1 := fun o _ z => by
      rw [Heap.size_push, Heap.size_push] at z
      omega
    obtain ⟨oL, esL, epL, hL, dL, rL⟩ := hn
    have hn1 : h1.Ns ((hp.push (kdv_tup [u])).push (PySem.HandSPX.excO C hp.objs.size)).objs.size (fun y => [(("self" : Str), Value.ref (hp.objs.size + 1)), (f, u)].reverse.lookup y) := ⟨oL, esL, epL, ka _ _ (neL _ hL) hL, dL, rL⟩
    refine xc_second (L := ((hp.push (kdv_tup [u])).push (PySem.HandSPX.excO C hp.objs.size)).objs.size) T.toOexC I1.mod (fun b o e => ka _ _ (hlt _ _ (I1.bk b o e)) (kp _ _ (kk _ _ (I1.bk b o e)))) rfl S.kind S.slf hfl hn1 m1 m2 e1 hno (hsw _ _ _ _) hd fun h2 dx tk2 kb hdx hne e2 hns => ?_
    refine wpAt_of_wpAny (wpAny_execs_nil ?_)
    have k1' : ∀ b o, hp.get? b = some o → h1.get? b = some o := fun b o z => ka _ _ (hlt _ _ z) (kp _ _ (kk _ _ z))
    obtain ⟨G, g1, g2⟩ := restrict h2 fun b => decide (b ≠ hp.objs.size + 1)
    have gk : ∀ b, b ≠ hp.objs.size + 1 → G.get? b = h2.get? b := fun b hb => g1 b (decide_eq_true hb)
    have ge : G.get? (hp.objs.size + 1) = none := g2 _ (by simp)
    have hd1 : hp.objs.size ≤ dx := Nat.le_trans (Nat.le_of_lt (Nat.lt_of_succ_lt (Heap.lt_size e1))) hdx
    obtain ⟨oD, esD, epD, hD, dD, rD⟩ := hns
    have hnsG : G.Ns1 dx (fun y => if y = f then some u else none) := ⟨oD, esD, epD, (gk dx hne).trans hD, dD, rD⟩
    have rl : ∀ y, RelO (([(f, v)] : List (Str × V)).lookup y) (if y = f then some u else none) := relO_put (fs := []) ru fun _ => True.intro
    have kG : ∀ b o, hp.get? b = some o → G.get? b = some o := fun b o z => by
      rw [gk b (hlt b o z)]
      exact kb _ _ (hlt b o z) (k1' b o z)
    have nD : H1 dx = none := I1.hok.fresh hd1
    have J : Inv X pins σ (upd H1 dx (.xd [(f, v)])) ⟨G, g, dr, tk2, os⟩ := I1.laid (t' := tk2) (a := dx) (o := .xd [(f, v)]) (h' := G) kG hd1 ⟨_, hnsG, rl⟩
    refine ⟨rfl, hp.objs.size + 1, _, _, ⟨G, g, dr, tk2, os⟩, _, .ref C, some dx, rfl, J, fun b o z => ?_, ge, e2, ⟨rfl, rfl⟩, rfl, rfl, ?_, rfl, I1.bare, raises_own T.exC T.tyC, q1 dx nD⟩
    · by_cases hb : b = hp.objs.size + 1
      · rw [hb] at z
        exact absurd (z.symm.trans ge) (by simp)
      · exact (gk b hb).symm.trans z
    · rw [upd_ne (Ne.symm hne)]
      exact I1.hok.fresh (Nat.le_succ _)
end
end DR
set_option maxHeartbeats 4000000
/-! DR: raise, try .. except C as n: suite. -/
namespace DR
open PySem PySem.Spec PyProof.Rows L2
/-! ### raise -/
def raiseS (f : DS → Re Exn) : SM := fun s => (f s).bind fun x s1 => .exc x s1
def exn0 (C : Addr) : DS → Re Exn := fun s => .ok ⟨C, none⟩ s
def exn1 (C : Addr) (n : Str) (g : EM) : DS → Re Exn := fun s => (g s).bind fun p s1 => .ok ⟨C, some [(n, p)]⟩ s1
section
variable {X : Cx} {Z : WX}
theorem ps_raise0 {C : Addr} {e : Expr} {pos : Pos} (hc : X.calm = true) (tk : Takes X Z) (h : PMk X e (fun _ H Q => Q (.ref C) none H)) : PSX X Z (.Raise (some e) none pos) (raiseS (exn0 C)) := by
  refine ⟨PS_imp (L2.ps_raise hc tk h) fun D σ H ⟨W, s, R, q⟩ => ?_⟩
  exact q σ none W H (Step.refl _ _) R rfl
theorem ps_raise1 {C : Addr} {n : Str} {e e0 : Expr} {g : EM} {pos : Pos} (hc : X.calm = true) (tk : Takes X Z) (he : PX X Z e0 g)
    (h : ∀ ta, PA X [e0] ta → PMk X e (fun σ H Q => ta σ H fun vs H1 => ∃ v, vs = [v] ∧ ∀ dx, H1 dx = none → Q (.ref C) (some dx) (upd H1 dx (.xd [(n, v)])))) (hs : starEach [e0] X.env = (false, eval e0 X.env) :: starEach [] X.env := by rfl) : PSX X Z (.Raise (some e) none pos) (raiseS (exn1 C n g)) := by
  refine ⟨PS_imp (L2.ps_raise hc tk (h _ (pa_consX he pa_nilX hs).pa)) fun D σ H ⟨W, s, R, q⟩ => ?_⟩
  have q : PostS X.K Z W H ((g s).bind fun p s1 => Re.exc ⟨C, some [(n, p)]⟩ s1) D := by
    unfold raiseS exn1 at q
    cases e1 : g s with
    | bad => rw [e1] at q; exact q.elim
    | exc x s1 => rw [e1] at q; exact q
    | ok p s1 => rw [e1] at q; exact q
  refine ⟨W, s, R, ?_⟩
  show Post rA X.K Z σ W H ((g s).bind fun p s1 => (nilA s1).bind fun ps s2 => .ok (p :: ps) s2) _
  cases e1 : g s with
  | bad => rw [e1] at q; exact q.elim
  | exc x s1 => rw [e1] at q; exact fun d W' H' st R' xr => q σ d W' H' st R' xr
  | ok p s1 =>
    rw [e1] at q
    intro vs W1 H1 st R1 rv
    have rv : Reps X.K W1.S (W1.m H1) [p] vs := rv
    unfold Reps at rv
    obtain ⟨v, r, rfl, rv1, rn⟩ := rv
    unfold Reps at rn
    subst rn
    refine ⟨v, rfl, fun dx hdx => ?_⟩
    obtain ⟨W2, st2, R2, hL⟩ := R1.newL hdx
    have st3 : Step W2 H1 W2 (upd H1 dx (.xd [(n, v)])) := Step.alloc hdx (R2.nP hdx)
    refine q σ (some dx) W2 _ (st.trans (st2.trans st3)) (R2.alloc hdx) ⟨dx, _, rfl, msk_some.mpr ⟨hL, upd_same⟩, ?_⟩
    unfold RepF
    refine ⟨v, [], rfl, (st2.trans st3).rv rv1, ?_⟩
    unfold RepF
    rfl
end
/-! ### an exception is held -/
section note
variable {X : Cx} {pins : List (Addr × Obj)} {σ : L2.St} {H : Hp} {s : Shared}
theorem exi_ne {b C : Addr} {d : Option Addr} {o : HO} (h : ∀ φ, o ≠ .ext φ) : exi b C d ≠ o := fun z => h _ z.symm
/-- the exception at a is looked at from now on -/
theorem Inv.note {a C : Addr} {d : Option Addr} {oe : Obj} {vs : Array Value} (I : L2.Inv X pins σ H s) (ha : s.heap.get? a = some oe) (hz : Zc (.ref C) d oe) (hd : oe.data = .fields vs) (na : H a = none) (n0 : X.s_0.heap.get? a = none)
    (nL : X.env.locals ≠ a) (nC : ∀ y c, X.env.cells.lookup y = some c → c ≠ a) (nP : ∀ p ∈ X.pn ++ pins, p.1 ≠ a) : L2.Inv X pins σ (upd H a (exi a C d)) s := by
  have ne : ∀ {b : Addr} {o : HO}, H b = some o → b ≠ a := fun e => ne_of_none e na
  have U := I.base
  refine ⟨I.ok, I.os, I.bare, ⟨U.keep, U.slot, fun b o q n hx => ?_, U.there, fun b xs q => ?_, fun b o u q => ?_, fun b ps q => ?_⟩, I.loc, I.cell, ?_, fun y c q => ?_, fun p hp => ?_, fun b o q => ?_, I.len⟩
  · rw [upd_ne (fun z => by rw [z, n0] at q; cases q)]
    exact U.free b o q n hx
  · have z := U.tups b xs q
    rw [upd_ne (ne z)]; exact z
  · have z := U.frzs b o u q
    rw [upd_ne (ne z)]; exact z
  · obtain ⟨m, z⟩ := U.tbls b ps q
    exact ⟨m, by rw [upd_ne (ne z)]; exact z⟩
  · rw [upd_ne nL]; exact I.free
  · rw [upd_ne (nC y c q)]; exact I.freeC y c q
  · obtain ⟨h1, h2, h3⟩ := I.pin p hp
    exact ⟨h1, by rw [upd_ne (nP p hp)]; exact h2, h3⟩
  · by_cases hb : b = a
    · subst hb
      rw [upd_same] at q
      cases q
      obtain ⟨oc, od, oda, osl⟩ := oe
      obtain ⟨z1, z2⟩ := hz
      dsimp only at z1 z2 hd
      subst z1 z2 hd
      exact ⟨⟨vs, osl, ha⟩, ⟨_, ha⟩, fun h1 h2 ⟨w1, w2, z⟩ k => ⟨w1, w2, k _ z⟩⟩
    · rw [upd_ne hb] at q
      exact (I.hok b o q).stay (fun c u _ z => z) (fun c z => by rw [upd_ne (ne z)]; exact z) fun c xs z => by rw [upd_ne (ne z)]; exact z
theorem Inv.insuite (I : L2.Inv X pins σ H s) (a : Addr) : L2.Inv (X.suite a (X.pn ++ pins)) [] σ H s :=
  ⟨I.ok.suite _ _, I.os, I.bare, I.base, I.loc, I.cell, I.free, I.freeC, fun p hp => I.pin p (by rw [List.append_nil] at hp; exact hp), I.hok, I.len⟩
theorem Inv.outsuite {a : Addr} {pn' : List (Addr × Obj)} (I : L2.Inv (X.suite a (X.pn ++ pins)) pn' σ H s) (ok : X.Ok) : L2.Inv X pins σ H s :=
  ⟨ok, I.os, I.bare, I.base, I.loc, I.cell, I.free, I.freeC, fun p hp => I.pin p (List.mem_append_left _ hp), I.hok, I.len⟩
end note
/-! ### try .. except -/
def xpv (x : Exn) : PV := .exn x.C x.fs.isSome (x.fs.getD [])
def clr (i : Nat) (s : DS) : DS := ⟨s.e.set i .no, s.t⟩
/-- the suite: the exception under the name i -/
def suiS (i : Nat) (u : SM) (x : Exn) : SM := fun s => match u ⟨s.e.set i (.val (xpv x)), s.t⟩ with
  | .ok fl s2 => .ok fl (clr i s2)
  | _ => .bad
/-- cs: the classes that are caught; ks: all classes -/
def tryS (cs ks : List Addr) (i : Nat) (b u : SM) : SM := fun s => match b s with
  | .exc x s1 => if x.C ∈ ks then (if x.C ∈ cs then suiS i u x s1 else .exc x s1) else .bad
  | r => r
theorem RSt.clr {K : PySem.W.Frag} {W : Wd} {H : Hp} {s : DS} {σ : L2.St} (R : RSt K W H s σ) (i : Nat) : RSt K W H (clr i s) (σ.set i none) := by
  refine ⟨⟨by simp [DR.clr, R.e.len], fun j p h => ?_, fun j p h => ?_, fun j k p q a h1 h2 h3 h4 => ?_⟩, R.t⟩
  · rcases get_set h with ⟨_, z⟩ | ⟨hj, h⟩
    · cases z
    · obtain ⟨v, e, r⟩ := R.e.at_ j p h
      exact ⟨v, by rw [List.getElem?_set_ne (Ne.symm hj)]; exact e, r⟩
  · rcases get_set h with ⟨_, z⟩ | ⟨hj, h⟩
    · cases z
    · obtain ⟨v, e, r⟩ := R.e.ow j p h
      exact ⟨v, by rw [List.getElem?_set_ne (Ne.symm hj)]; exact e, r⟩
  · rcases get_set h1 with ⟨_, z⟩ | ⟨hj, h1⟩
    · cases z
    · rcases get_set h2 with ⟨_, z⟩ | ⟨hk, h2⟩
      · cases z
      · rw [List.getElem?_set_ne (Ne.symm hj)] at h3
        rw [List.getElem?_set_ne (Ne.symm hk)] at h4
        exact R.e.inj j k p q a h1 h2 h3 h4
theorem rO_clr {K : PySem.W.Frag} {W : Wd} {H : Hp} {s : DS} {σ σ' : L2.St} {p : PV} {fr : Bool} {v : V} {i : Nat} (hσ : ∀ j, j ≠ i → σ'[j]? = σ[j]?) (r : rO K σ W H s (p, fr) v) : rO K σ' W H (clr i s) (p, fr) v := by
  cases fr with
  | false => exact r
  | true =>
    obtain ⟨a, e, ha, hc, hn⟩ := r
    refine ⟨a, e, ha, hc, fun j q h z => ?_⟩
    rcases get_set h with ⟨_, z⟩ | ⟨hj, h⟩
    · cases z
    · rw [hσ j hj] at z
      exact hn j q h z
/-- what stands in the way of nothing: the exception as a value -/
theorem xpv_rv {K : PySem.W.Frag} {W : Wd} {H : Hp} {x : Exn} {d : Option Addr} {a : Addr} (xr : XR K W H x d) (ha : W.m H a = some (exi a x.C d)) : RV K W H (xpv x) (.ref a) := by
  unfold XR at xr
  unfold xpv RV Rep
  cases e : x.fs with
  | none =>
    rw [e] at xr
    exact ⟨a, d, [], rfl, ha, by unfold RepF; rfl, by rw [Option.isSome_none, if_neg (by decide)]; exact xr⟩
  | some l =>
    rw [e] at xr
    obtain ⟨dd, ws, e1, e2, e3⟩ := xr
    exact ⟨a, d, ws, rfl, ha, e3, by rw [Option.isSome_some, if_pos rfl]; exact ⟨dd, e1, e2⟩⟩
theorem XR.step {K : PySem.W.Frag} {W W' : Wd} {H H' : Hp} {x : Exn} {d : Option Addr} (xr : XR K W H x d) (st : Step W H W' H') : XR K W' H' x d := by
  unfold XR at xr ⊢
  cases e : x.fs with
  | none => rw [e] at xr; exact xr
  | some l =>
    rw [e] at xr
    obtain ⟨dd, ws, e1, e2, e3⟩ := xr
    exact ⟨dd, ws, e1, st.same _ _ e2, e3.mono st.pre st.same⟩
section
variable {X : Cx} {Z : WX} {b u : SM}
theorem ps_tryX {x n : Str} {CT : Addr} {cs ks : List Addr} (i : Nat) {body suite : List Stmt} {b₀ : Stmt} {np pos pos' : Pos} (hs : X.stack = X.env :: X.outer) (hf : X.env.frame = some X.env.locals) (hN : X.N.Nodup) (hln : X.env.kindOf n = some .local) (hc : Names X x (.ref CT)) (tk : Takes X Z)
    (hk : ∀ C ∈ ks, PySem.W.exmOne X.K (.ref C) (.ref CT) = some (decide (C ∈ cs)))
    (hb : ∀ (W : WX) (pn : List (Addr × Obj)) (xe : Value → Shared → Prop), Takes (X.tr pn xe) W → PassesOwn (model X.prog X.w) X.A X.env xe → PSsX (X.tr pn xe) W body b)
    (hu : ∀ (a : Addr) (pn : List (Addr × Obj)), PSsX (X.suite a pn) (fun _ _ _ _ => False) (b₀ :: suite) u) (hi : X.N[i]? = some n := by rfl) (hex : X.ex = [] := by rfl) :
    PSX X Z (.Try body [.ExceptHandler (some (.Name x np)) (some n) (b₀ :: suite) pos'] [] [] pos) (tryS cs ks i b u) := by
  refine ⟨⟨fun pins s σ H D I h => ?_⟩⟩
  obtain ⟨W, st, R, h⟩ := h
  have ok := I.ok
  have fr : X.A.frames = some (X.env :: X.outer) := by rw [ok.frames, hs]
  have vis : Loc X.env.scope n := .inl hln
  -- what the clause wishes of the body
  let wish : WX := fun cls d σ' H' => ∃ W' x s1, cls = .ref x.C ∧ RSt X.K W' H' s1 σ' ∧ XR X.K W' H' x d ∧ x.C ∈ ks ∧ PostS X.K Z W' H' (if x.C ∈ cs then suiS i u x s1 else .exc x s1) D
  have hB : tS X.K wish b D σ H := by
    refine ⟨W, st, R, ?_⟩
    unfold tryS at h
    cases e : b st with
    | bad => rw [e] at h; exact h.elim
    | ok fl s1 =>
      rw [e] at h
      cases fl <;> exact h
    | exc x s1 =>
      rw [e] at h
      simp only at h
      by_cases hx : x.C ∈ ks
      · rw [if_pos hx] at h
        exact fun σ' d W' H' st' R' xr => ⟨W', x, s1, rfl, R', xr, hx, PostS.step h st'⟩
      · rw [if_neg hx] at h
        exact h.elim
  refine wpAny_Try_except (wpAny_mono ((hb wish (X.pn ++ pins) (fun e s₁ => wpAny (model X.prog X.w) X.A (noteFrame e X.env) (fun _ s₂ => wpAny (model X.prog X.w) X.A (setFlight e none) (fun _ s₃ =>
    wpAny (model X.prog X.w) X.A (handleBy e X.env [.ExceptHandler (some (.Name x np)) (some n) (b₀ :: suite) pos']) (SP X pins D) X.xe s₃) X.xe s₂) X.xe s₁) (fun y s' xx => ?_) PassesOwn.looking).ps.run [] s σ H D (I.toTry _) hB) (fun f s1 hsp => ?_) (fun e s1 he => he))
  · obtain ⟨a, B, sI, pins', σ', H', cls, d, rfl, J', nb, up, sky, na, os, ag, W', xx, s1, rfl, R', xr, xk, post⟩ := xx
    have J : L2.Inv X pins σ' H' sI := J'.ofTry ok
    have sky2 : Sky B (X.env :: X.outer) a (Zc (.ref xx.C) d) X.env.locals s'.heap := by rw [← hs]; exact sky
    show wpAny (model X.prog X.w) X.A (noteFrame (.ref a) X.env) _ _ _
    refine Sky.land Zc.steady fr hf sky2 fun h3 fl3 up3 => ?_
    have J3 : L2.Inv X pins σ' H' { s' with heap := h3 } := J.landed nb fl3.1 (up.trans up3) os ag
    obtain ⟨oe3, vs3, he3, hz3, hd3⟩ := fl3.there
    have notFr : ∀ {hh : Heap} {o : Obj} {vs : Array Value}, hh.FunFrames B (X.env :: X.outer) → hh.get? a = some o → o.data = .fields vs → a ∉ frs (X.env :: X.outer) := fun {hh o vs} ff e dd hm => by
      obtain ⟨_, o', e', hnf⟩ := ff.mem hm
      rw [e] at e'; cases e'
      exact hnf _ dd
    have nfr := notFr fl3.2.2.1 he3 hd3
    have fresh : ∀ c o, sI.heap.get? c = some o → c ≠ a := fun c o e z => by
      subst z
      have q := nb _ o e (by rw [hs]; exact nfr)
      rw [fl3.2.1] at q
      cases q
    have n0 : X.s_0.heap.get? a = none := by
      cases q : X.s_0.heap.get? a with
      | none => rfl
      | some o =>
        obtain ⟨o', q2⟩ := J.base.there a o q (by rw [hex]; simp)
        exact absurd rfl (fresh a o' q2)
    have nL : X.env.locals ≠ a := fun z => nfr (List.mem_filterMap.mpr ⟨X.env, List.mem_cons_self, by rw [hf, z]⟩)
    have nC : ∀ y c, X.env.cells.lookup y = some c → c ≠ a := fun y c e => by
      obtain ⟨_, o, q, _⟩ := J.cell y c e
      exact fresh c o q
    have nP : ∀ p ∈ X.pn ++ pins, p.1 ≠ a := fun p hp => fresh _ _ (J.pin p hp).1
    refine wpAny_handleBy_cons (codeAny_handlers_test ?_) (by intro q; cases q)
    have LT : PySem.W.Looks (model X.prog X.w) h3 (typeOf (.ref a)) (.ref xx.C) := fun A Q E s k q => wpAny_typeOf_ref (k _ _ he3) (by rw [hz3.1]; exact q)
    have LM := PySem.W.exm_one (M := model X.prog X.w) (J3.kIn) LT (hk _ xk)
    have J3s := Inv.insuite J3 a
    have test : ∀ {Q : Value → Shared → Prop} {E : Value → Shared → Prop}, Q (.ref CT) { s' with heap := h3 } → wpAny (model X.prog X.w) (X.A.mark (some (.ref a))) (eval (.Name x np) X.env) Q E { s' with heap := h3 } := fun {Q E} q => by
      obtain ⟨hg, hdbg, hm | ⟨hm, hv, hnn⟩⟩ := hc
      · exact ld_glob (X := X.suite a (X.pn ++ pins)) J3s hg hm q hdbg
      · exact ld_blt (X := X.suite a (X.pn ++ pins)) J3s hg hm hv q hnn hdbg
    refine test (LM.here ?_)
    by_cases hx : xx.C ∈ cs
    · rw [if_pos hx] at post
      rw [decide_eq_true hx]
      refine codeAny_handlers_suite_as ?_
      refine HandSPX.lands_againZ fl3 fun h4 fl4 up4 => ?_
      obtain ⟨oe4, vs4, he4, hz4, hd4⟩ := fl4.there
      have J4 : L2.Inv X pins σ' H' { s' with heap := h4 } := J.landed nb fl4.1 ((up.trans up3).trans up4) os ag
      have J5 := Inv.note J4 he4 hz4 hd4 na n0 nL nC nP
      obtain ⟨W1, st1, R1, hL⟩ := R'.newL na
      have st2 : Step W1 H' W1 (upd H' a (exi a xx.C d)) := Step.alloc na (R1.nP na)
      have R2 : RSt X.K W1 (upd H' a (exi a xx.C d)) s1 σ' := R1.alloc na
      have rv : RV X.K W1 (upd H' a (exi a xx.C d)) (xpv xx) (.ref a) := xpv_rv (xr.step (st1.trans st2)) (msk_some.mpr ⟨hL, upd_same⟩)
      have post2 := PostS.step post (st1.trans st2)
      refine store_ok (X := X.suite a (X.pn ++ pins)) (v := .ref a) (Inv.insuite J5 a) hN hi vis rfl (fun s5 S5 => ?_) (.inr hln)
      refine wpAny_mono ((hu a (X.pn ++ pins)).ps.run [] s5 _ _ { nx := fun σ6 H6 => D.nx (σ6.set i none) H6, rt := D.rt, bk := fun σ6 H6 => D.bk (σ6.set i none) H6, ct := fun σ6 H6 => D.ct (σ6.set i none) H6 } S5 ⟨W1, ⟨s1.e.set i (.val (xpv xx)), s1.t⟩, R2.setv rv, ?_⟩) (fun f s6 hsp => ?_) (fun _ _ z => False.elim z)
      · unfold suiS at post2
        cases e : u ⟨s1.e.set i (.val (xpv xx)), s1.t⟩ with
        | bad => rw [e] at post2; exact post2.elim
        | exc y s2 => rw [e] at post2; exact post2.elim
        | ok fl s2 =>
          rw [e] at post2
          cases fl with
          | nx => exact fun σ6 W6 H6 st6 R6 => post2 _ W6 H6 st6 (R6.clr i)
          | bk => exact fun σ6 W6 H6 st6 R6 => post2 _ W6 H6 st6 (R6.clr i)
          | ct => exact fun σ6 W6 H6 st6 R6 => post2 _ W6 H6 st6 (R6.clr i)
          | rt p fr => exact fun σ6 v W6 H6 st6 R6 ro => post2 _ v W6 H6 st6 (R6.clr i) (rO_clr (fun j hj => List.getElem?_set_ne (Ne.symm hj)) ro)
      · have fin : ∀ {σ6 : L2.St} {H6 : Hp} {Q : Shared → Prop}, L2.Inv (X.suite a (X.pn ++ pins)) [] σ6 H6 s6 → (∀ s7, L2.Inv X pins (σ6.set i none) H6 s7 → Q s7) →
            wpAny (model X.prog X.w) X.A (do bindName X.env n .none; unbindBehindTheSuite X.env n pos') (fun _ s7 => Q s7) X.xe s6 := fun {σ6 H6 Q} S6 hq => gone_ok (Inv.outsuite S6 ok) hN hi hln hq
        cases f with
        | next => obtain ⟨σ6, H6, S6, q6⟩ := hsp; exact fin S6 fun s7 J7 => ⟨_, _, J7, q6⟩
        | brk => obtain ⟨σ6, H6, S6, q6⟩ := hsp; exact fin S6 fun s7 J7 => ⟨_, _, J7, q6⟩
        | cont => obtain ⟨σ6, H6, S6, q6⟩ := hsp; exact fin S6 fun s7 J7 => ⟨_, _, J7, q6⟩
        | ret y => obtain ⟨v6, σ6, H6, S6, r6, q6⟩ := hsp; exact fin S6 fun s7 J7 => ⟨_, _, _, J7, r6, q6⟩
    · rw [if_neg hx] at post
      rw [decide_eq_false hx]
      show wpAny (model X.prog X.w) X.A (handleBy (.ref a) X.env []) _ _ _
      refine wpAny_handleBy_nil ?_
      obtain ⟨k1, k2, k3, oe, vs, T, oT, ts', he, hz, hd, h1, hr⟩ := id fl3
      unfold PySem.passOn
      refine wpAny_bind (wpAny_field he hd h1 ?_)
      rw [if_neg (show ¬ ((Value.ref T == Value.none) = true) from by simp)]
      have fin : wpAny (model X.prog X.w) X.A (setFlight (.ref a) X.env.frame) (fun _ s4 => wpAny (model X.prog X.w) X.A (throw (.ref a) : Sem Flow) (SP X pins D) X.xe s4) X.xe { s' with heap := h3 } := by
        rw [hf]
        refine HandSPX.setFlight_upZ fl3 fun h4 hh4 up4 => wpAny_throw (tk _ _ ?_)
        exact ⟨a, B, sI, pins, σ', H', .ref xx.C, d, rfl, J, nb, (up.trans up3).trans up4, .inr (.inr (by rw [hs]; exact hh4)), na, os, ag, post σ' d W' H' (Step.refl _ _) R' xr⟩
      first
        | exact wpAny_bind (wpAny_pure (wpAny_bind fin))
        | exact wpAny_bind fin
  · cases f with
    | next =>
      obtain ⟨σ', H', J', q⟩ := hsp
      exact wpAny_execs_nil ⟨σ', H', J'.ofTry ok, q⟩
    | brk =>
      obtain ⟨σ', H', J', q⟩ := hsp
      exact ⟨σ', H', J'.ofTry ok, q⟩
    | cont =>
      obtain ⟨σ', H', J', q⟩ := hsp
      exact ⟨σ', H', J'.ofTry ok, q⟩
    | ret y =>
      obtain ⟨v, σ', H', J', r, q⟩ := hsp
      exact ⟨v, σ', H', J'.ofTry ok, r, q⟩
end
end DR
set_option maxHeartbeats 4000000
/-! DR: an exception in hand: its class, its field. -/
namespace DR
open PySem PySem.Spec PyProof.Rows L2
/-- ks: all classes of exceptions; cs: those that are the class asked for -/
def isxE (ks cs : List Addr) (f : EM) : EM := fun s => (f s).bind fun p s1 => match p with
  | .exn C _ _ => if C ∈ ks then .ok (.bl (decide (C ∈ cs))) s1 else .bad
  | .non => .ok (.bl false) s1
  | _ => .bad
/-- isinstance(x, c), x an exception -/
def rIsX (K : PySem.W.Frag) (xs : List V) (H : Hp) (Q : VK) : Prop := ∃ (a C : Addr) (d : Option Addr) (c : V) (cv : Value) (b : Bool), xs = [.ref a, c] ∧ ClsV c cv ∧ H a = some (exi a C d) ∧ (∀ dd, d = some dd → ∃ ws, H dd = some (.xd ws)) ∧ ExcC K C ∧ PySem.W.kitOne K (.ref C) cv = some b ∧ Q (.bl b) H
theorem exi_inst {P : Program} {w : World} {H : Hp} {h : Heap} {a C : Addr} {d : Option Addr} (hok : HOk P w H h) (e : H a = some (exi a C d)) (hd : ∀ dd, d = some dd → ∃ ws, H dd = some (.xd ws)) : ∃ ox od, PySem.W.InstAt h a ox C od ∧ (d = none → od = none) ∧ ∀ dd, d = some dd → ∃ o, od = some o ∧ h.get? dd = some o := by
  have z : ObjOk P w H h a (.ext fun h => ∃ (vs : Array Value) (sl : Array (Option Value)), h.get? a = some { cls := .ref C, dict := d, data := .fields vs, slots := sl }) := hok a _ e
  obtain ⟨⟨vs, sl, ha⟩, _, _⟩ := z
  cases d with
  | none => exact ⟨_, none, ⟨ha, rfl, rfl, trivial⟩, fun _ => rfl, fun dd z => by cases z⟩
  | some dd =>
    obtain ⟨ws, ho⟩ := hd dd rfl
    have z : ObjOk P w H h dd (.xd ws) := hok dd _ ho
    obtain ⟨mA, ⟨od, es, ep, q, _⟩, _⟩ := z
    exact ⟨_, some od, ⟨ha, rfl, rfl, q⟩, (fun z => by cases z), fun d2 z => by cases z; exact ⟨od, rfl, q⟩⟩
theorem call_isx {X : Cx} : CallR X (.builtin "isinstance") (fun xs H Q => rIsi X.K xs H Q ∨ rIsX X.K xs H Q) := by
  intro pins s σ H xs us Q I r h
  rcases h with h | ⟨a, C, d, c, cv, b, rfl, hcv, he, hd, F, hk, q⟩
  · exact call_isi pins s σ H xs us Q I r h
  · cases r with
    | cons rx rr =>
      cases rr with
      | cons rt rr =>
        cases rr
        cases rx
        have ec := hcv.eq rt
        subst ec
        obtain ⟨ox, od, J, _, _⟩ := exi_inst I.hok he hd
        have hcl : (PySem.W.clsIn X.K C).isSome = true := by
          obtain ⟨cd, h1, _⟩ := PySem.W.any_some F.hd
          rw [h1] <;> rfl
        exact PySem.W.kia_one (PySem.W.kitx_exc hcl F.hg F.hk F.hs F.ha F.hn F.ht F.hm) I.kIn J hk (fun z => nomatch z) fun tk => ⟨.bl b, H, I.kept (t' := tk) fun _ _ z => z, rfl, q⟩
section
variable {X : Cx} {Z : WX} {f : EM} {e : Expr} {pos : Pos}
theorem rv_exn {K : PySem.W.Frag} {W : Wd} {H : Hp} {C : Addr} {b : Bool} {fs : List (Str × PV)} {v : V} (r : RV K W H (.exn C b fs) v) :
    ∃ (a : Addr) (d : Option Addr) (ws : List (Str × V)), v = .ref a ∧ H a = some (exi a C d) ∧ RepF K W.S (W.m H) fs ws ∧ (if b = true then ∃ dd, d = some dd ∧ H dd = some (.xd ws) else d = none) := by
  unfold RV Rep at r
  obtain ⟨a, d, ws, e, h, rf, z⟩ := r
  refine ⟨a, d, ws, e, (msk_some.mp h).2, rf, ?_⟩
  cases b with
  | false => exact z
  | true =>
    rw [if_pos rfl] at z ⊢
    obtain ⟨dd, e1, e2⟩ := z
    exact ⟨dd, e1, (msk_some.mp e2).2⟩
theorem px_isx {ks cs : List Addr} {c : V} {cv : Value} {eT : Expr} {p : Pos} (hg : Gl X "isinstance") (hm : X.mg "isinstance" = none) (ha : PX X Z e f) (hc : PE X eT (tC c)) (hcv : ClsV c cv) (hE : ∀ C ∈ ks, ExcC X.K C ∧ PySem.W.kitOne X.K (.ref C) cv = some (decide (C ∈ cs)))
    (hN : PySem.W.kitOne X.K (.type "NoneType") cv = some false) (hb : bootBuiltins "isinstance" = some (.builtin "isinstance") := by decide +kernel)
    (he : starEach [e, eT] X.env = (false, eval e X.env) :: starEach [eT] X.env := by rfl) (he2 : starEach [eT] X.env = (false, eval eT X.env) :: starEach [] X.env := by rfl) (hpl : (backTo pos (starEach [eT] X.env)).any (·.1) = false := by rfl) :
    PX X Z (.Call (.Name "isinstance" p) [e, eT] [] pos) (isxE ks cs f) := by
  refine ⟨PE_imp (L2.pe_callB call_isx hg hm hb (L2.pa_cons ha.pe (L2.pa_cons hc L2.pa_nil he2) he) (by decide) (by decide) he hpl) fun σ H Q ⟨W, s, R, h⟩ => ⟨W, s, R, Post.bind h fun q s1 v W1 H1 _ st R1 rx po => ?_⟩⟩
  have rx : RV X.K W1 H1 q v := rx
  have fin : ∀ b, Post rE X.K Z σ W1 H1 (.ok (.bl b) s1) Q → Q (.bl b) H1 := fun b po => po _ W1 H1 (Step.refl _ _) R1 (show RV X.K W1 H1 (.bl b) (.bl b) from rv_bl)
  cases q with
  | exn C b fs =>
    simp only at po
    by_cases hC : C ∈ ks
    · rw [if_pos hC] at po
      obtain ⟨a, d, ws, rfl, h1, _, h2⟩ := rv_exn rx
      obtain ⟨F, hk⟩ := hE C hC
      refine Or.inr ⟨a, C, d, c, cv, _, rfl, hcv, h1, fun dd e1 => ?_, F, hk, fin _ po⟩
      cases b with
      | false => rw [if_neg (by decide)] at h2; rw [h2] at e1; cases e1
      | true =>
        rw [if_pos rfl] at h2
        obtain ⟨d2, e2, e3⟩ := h2
        rw [e2] at e1
        cases e1
        exact ⟨_, e3⟩
    · rw [if_neg hC] at po
      exact po.elim
  | non =>
    simp only at po
    unfold RV Rep at rx
    subst rx
    exact Or.inl ⟨.non, c, .type "NoneType", cv, false, rfl, hcv, .base .non, hN, fin _ po⟩
  | _ => exact po.elim
/-- x.n, x an exception -/
def xfE (ks : List Addr) (n : Str) (f : EM) : EM := fun s => (f s).bind fun p s1 => match p with
  | .exn C b fs => if C ∈ ks ∧ b = true then (match fs.lookup n with
    | some q => .ok q s1
    | none => .bad) else .bad
  | _ => .bad
theorem repF_get {K : PySem.W.Frag} {cs : List Addr} {H : Hp} {n : Str} {q : PV} : ∀ {fs : List (Str × PV)} {ws : List (Str × V)}, RepF K cs H fs ws → fs.lookup n = some q → ∃ v, ws.lookup n = some v ∧ Rep K cs H q v
  | [], _, _, e => nomatch e
  | (m, p) :: fs, ws, r, e => by
    unfold RepF at r
    obtain ⟨v, r', rfl, rv, rf⟩ := r
    rw [List.lookup_cons] at e ⊢
    cases h : n == m with
    | true => rw [h] at e; cases e; exact ⟨v, rfl, rv⟩
    | false => rw [h] at e; exact repF_get rf e
theorem px_xf {ks : List Addr} {n : Str} (ha : PX X Z e f) (hT : ∀ C ∈ ks, XfC X.K C ∧ PySem.W.findIn X.K (.ref C) n = some none) (hb : attributeBase e n X.env (eval e X.env) = eval e X.env := by rfl) : PX X Z (.Attribute e n pos) (xfE ks n f) := by
  refine ⟨⟨fun pins s σ H Q I ⟨W, st, R, h⟩ => ?_⟩⟩
  refine attr_of hb (thn (ha.pe.run pins s σ H (fun v H1 => ∃ W1 p s1, RSt X.K W1 H1 s1 σ ∧ RV X.K W1 H1 p v ∧ Post rE X.K Z σ W1 H1 (match p with
    | .exn C b fs => if C ∈ ks ∧ b = true then (match fs.lookup n with
      | some q => .ok q s1
      | none => .bad) else .bad
    | _ => .bad) Q) I ⟨W, st, R, Post.bind h fun p s1 v W1 H1 _ st1 R1 rv po => ⟨W1, p, s1, R1, rv, po⟩⟩) fun u s1 hh => ?_)
  obtain ⟨v, H1, I1, ru, W1, p, s2, R1, rv, po⟩ := hh
  cases p with
  | exn C b fs =>
    simp only at po
    by_cases hC : C ∈ ks ∧ b = true
    · rw [if_pos hC] at po
      obtain ⟨hC, hb1⟩ := hC
      subst hb1
      obtain ⟨a, d, ws, rfl, h1, rf, h2⟩ := rv_exn rv
      rw [if_pos rfl] at h2
      obtain ⟨dd, e1, e2⟩ := h2
      cases e3 : fs.lookup n with
      | none => rw [e3] at po; exact po.elim
      | some q =>
        rw [e3] at po
        obtain ⟨v2, l2, r2⟩ := repF_get rf e3
        obtain rfl : u = Value.ref a := ru
        obtain ⟨T, hno⟩ := hT C hC
        have hx : ObjOk X.prog X.w H1 s1.heap dd (.xd ws) := I1.hok dd _ e2
        obtain ⟨mA, hns, hr⟩ := hx
        obtain ⟨od, ho, hl⟩ := lookIn_ns hns
        obtain ⟨u2, hu, ru2⟩ := RelO.some_of (v := v2) (o := mA n) (by rw [← l2]; exact hr n)
        obtain ⟨ox, od2, J, _, k2⟩ := exi_inst I1.hok h1 (fun d3 z => by rw [e1] at z; cases z; exact ⟨_, e2⟩)
        obtain ⟨o3, e4, e5⟩ := k2 dd e1
        rw [ho] at e5
        cases e5
        subst e4
        exact HandSPX.exc_get I1.kIn J T.ga T.gg T.exC (PySem.W.findObj_own T.hdC hno rfl (by rw [hl, hu])) (handed_of ru2) ⟨v2, H1, I1.tok _, ru2, po v2 W1 H1 (Step.refl _ _) R1 r2⟩
    · rw [if_neg hC] at po
      exact po.elim
  | _ => exact po.elim
end
end DR
set_option maxHeartbeats 4000000
/-! DR: a lambda is made: what becomes of the heap, to the letter. -/
namespace DR
open PySem PySem.Spec PyProof.Rows L2 LamX
/-- the heap behind: as it was, or the table at P grown by one code object -/
def Grew (H H1 : Hp) (P c : Addr) (q : Str) : Prop := (H1 = H ∧ ∃ ps pos, H P = some (.tbl ps) ∧ codeAmong pos ps.toList = some (.ref c)) ∨
  ∃ (ps : Array Value) (pos : Pos), H P = some (.tbl ps) ∧ H c = none ∧ H1 = upd (upd H P (.tbl (ps ++ #[rawInt pos.line, rawInt pos.col, .ref c]))) c (CodeO c q)
section
variable {X : Cx} {pins : List (Addr × Obj)} {σ : L2.St} {H : Hp} {s : Shared}
theorem lam_makeX {c P : Addr} {params : Arguments} {body : Expr} {scope : Scope} {pos : Pos} {E : Value → Shared → Prop} {Q : Value → Shared → Prop} (I : L2.Inv X pins σ H s) (TB : TabB X.base X.mg c P) (hcode : X.env.code = .ref c)
    (hT : TabS H P (X.env.qual ++ "<lambda>")) (hdef : defaultsOf params X.env = ([], [])) (hfree : ∀ y ∈ scope.names, y.2 = .free → ∃ c, X.env.cells.lookup y.1 = some c)
    (h : ∀ (f c' : Addr) (pm ctv : Value) (H1 : Hp) (s' : Shared), L2.Inv X pins σ H1 s' → Grew H H1 P c' (X.env.qual ++ "<lambda>") →
      s'.heap.get? f = some (PySem.W.kla_obj "<lambda>" (X.env.qual ++ "<lambda>") params body scope (cloFrom X.env.cells scope.names []) pm c' ctv) → H1 f = none → f ∉ frs X.stack → Q (.ref f) s') :
    wpAny (model X.prog X.w) X.A (eval (.Lambda params body scope pos) X.env) Q E s := by
  obtain ⟨ps, hP, ht, ha⟩ := id hT
  refine PySem.W.kla_eval hdef ?_
  have bP : s.heap.BuiltinsAt X.mg P := TB.bm.keeps I.bk
  have lies := I.hok P _ hP
  have lies' : s.heap.get? P = some { cls := .none, data := .fields ps } := lies
  have nofr : ∀ f, s.heap.objs.size ≤ f → f ∉ frs X.stack := fun f hf z => by
    rcases List.mem_cons.mp (I.stkSub _ z) with e | e
    · have h1 := I.lt
      rw [← e] at h1
      exact Nat.lt_irrefl _ (Nat.lt_of_lt_of_le h1 hf)
    · exact I.nofs hf e
  cases hc : codeAmong pos ps.toList with
  | some cv =>
    obtain ⟨c', e, hco⟩ := ha pos cv hc
    subst e
    refine PySem.W.kla_makeFunctionHit (mg := X.mg) (c := c) (P := P) (ps := ps) (closure_ok hfree) I.ok.glob (I.mod.glob.keeps I.bk) hcode (TB.code.keeps I.bk) lies' ht hc bP fun ctv h' tk hx hsz => ?_
    exact h h'.objs.size c' ((X.mg "__name__").getD .none) ctv H _ (I.kept (t' := tk) fun b o e => Heap.get?_push_of_some _ (hx b o e)) (.inl ⟨rfl, ps, pos, hP, hc⟩) (Heap.get?_push_size h' rfl) (I.hok.fresh hsz) (nofr _ hsz)
  | none =>
    refine PySem.W.kla_makeFunction (mg := X.mg) (c := c) (P := P) (ps := ps) (closure_ok hfree) I.ok.glob (I.mod.glob.keeps I.bk) hcode (TB.code.keeps I.bk) lies' ht hc TB.gP bP fun c' ctv h' tk hx hge hlt hrec htb => ?_
    obtain ⟨c2, oc, vs, t, e2, hoc, hd, hv⟩ := hrec
    cases e2
    have hsz : s.heap.objs.size ≤ h'.objs.size := Nat.le_trans hge (Nat.le_of_lt hlt)
    have nC : H c' = none := I.hok.fresh hge
    have I1 := inv_table (t' := tk) (more := #[rawInt pos.line, rawInt pos.col, .ref c']) (h' := h'.push (PySem.W.kla_obj "<lambda>" (X.env.qual ++ "<lambda>") params body scope (cloFrom X.env.cells scope.names []) ((X.mg "__name__").getD .none) c' ctv)) I hP
      (fun b o hb e => Heap.get?_push_of_some _ (hx b o hb e)) (Heap.get?_push_of_some _ htb) hge ⟨oc, vs, t, Heap.get?_push_of_some _ hoc, hd, hv⟩
    refine h h'.objs.size c' ((X.mg "__name__").getD .none) ctv _ _ I1 (.inr ⟨ps, pos, hP, nC, rfl⟩) (Heap.get?_push_size h' rfl) ?_ (nofr _ hsz)
    · have n1 : h'.objs.size ≠ c' := Nat.ne_of_gt hlt
      have n2 : h'.objs.size ≠ P := Nat.ne_of_gt (Nat.lt_of_lt_of_le (Heap.lt_size lies') hsz)
      rw [upd_ne n1, upd_ne n2]
      exact I.hok.fresh hsz
end
theorem grew_step {K : PySem.W.Frag} {W : Wd} {H H1 : Hp} {s : DS} {σ : L2.St} {k : Nat} {P c : Addr} {q : Str} (R : RSt K W H s σ) (hk : s.t[k]? = some (.tab P q)) (G : Grew H H1 P c q) : ∃ W1, Step W H W1 H1 ∧ RSt K W1 H1 s σ ∧ W1.m H1 c = some (CodeO c q) := by
  have hlt : k < W.S.length := by rw [← R.t.len]; exact (List.getElem?_eq_some_iff.mp hk).1
  obtain ⟨e0, ps0, h1, h2⟩ : W.S[k] = P ∧ ∃ ps, H W.S[k] = some (.tbl ps) ∧ TabOk (W.m H) q ps := R.t.at_ k _ W.S[k] hk (List.getElem?_eq_getElem hlt)
  rw [e0] at h1
  have PS : P ∈ W.S := e0 ▸ List.getElem_mem hlt
  rcases G with ⟨rfl, ps, pos, g1, g2⟩ | ⟨ps, pos, g1, g2, rfl⟩
  · rw [h1] at g1
    cases g1
    obtain ⟨c0, z1, z2⟩ := h2.2 pos _ g2
    cases z1
    exact ⟨W, Step.refl _ _, R, z2⟩
  · rw [h1] at g1
    cases g1
    obtain ⟨W1, st, R1, hL⟩ := R.newL g2
    have PS1 : P ∈ W1.S := by
      obtain ⟨kk, hkk, e⟩ := List.mem_iff_getElem.mp PS
      exact List.mem_of_getElem? (st.pre kk P (by rw [List.getElem?_eq_getElem hkk, e]))
    have PL : P ∈ W1.L := by unfold Wd.L; simp [PS1]
    have ncP : c ≠ P := fun z => by rw [z, h1] at g2; cases g2
    have nx : ∀ {b : Addr} {o : HO}, H b = some o → b ≠ c := fun e => ne_of_none e g2
    have off : ∀ b, b ≠ P → b ≠ c → upd (upd H P (.tbl (ps0 ++ #[rawInt pos.line, rawInt pos.col, .ref c]))) c (CodeO c q) b = H b := fun b z1 z2 => by rw [upd_ne z2, upd_ne z1]
    have st2 : Step W1 H W1 (upd (upd H P (.tbl (ps0 ++ #[rawInt pos.line, rawInt pos.col, .ref c]))) c (CodeO c q)) := by
      refine ⟨fun b u e => ?_, fun b h => ?_, fun _ h => .inl h, Pre.refl _, fun _ h => .inl h, rfl, fun b h => ?_⟩
      · obtain ⟨z1, z2⟩ := msk_some.mp e
        refine msk_some.mpr ⟨z1, ?_⟩
        rw [off b (fun z => z1 (z ▸ PL)) (nx z2)]
        exact z2
      · by_cases hb : b = c
        · rw [hb]; exact g2
        · rw [upd_ne hb] at h
          by_cases hb2 : b = P
          · rw [hb2, upd_same] at h
            cases h
          · rw [upd_ne hb2] at h
            exact h
      · obtain ⟨o, e⟩ := R1.t.pt b h
        exact off b (fun z => R1.t.ps P PS1 (z ▸ h)) (nx e.1)
    refine ⟨W1, st.trans st2, ?_, msk_some.mpr ⟨hL, upd_same⟩⟩
    have con : ∀ {p : PV} {b : Addr}, b ≠ P → Con K W1 H p b → Con K W1 (upd (upd H P (.tbl (ps0 ++ #[rawInt pos.line, rawInt pos.col, .ref c]))) c (CodeO c q)) p b := fun {p b} hb z => by
      obtain ⟨o, e⟩ := z.there
      exact z.step st2 (off b hb (nx e))
    refine ⟨⟨R1.e.len, fun i p e => ?_, fun i p e => ?_, R1.e.inj⟩, ⟨R1.t.len, fun j p b e1 e2 => ?_, R1.t.nd, R1.t.ap, fun b h => ?_, R1.t.pa, R1.t.ps, fun b h => ?_⟩⟩
    · obtain ⟨v, z1, z2⟩ := R1.e.at_ i p e
      exact ⟨v, z1, st2.rv z2⟩
    · obtain ⟨b, z1, z2, z3⟩ := R1.e.ow i p e
      exact ⟨b, z1, z2, con (fun z => R1.t.ap b z2 (z ▸ PS1)) z3⟩
    · have z := R1.t.at_ j p b e1 e2
      by_cases hb : b = P
      · subst hb
        have hj : j = k := by
          have e3 : W1.S[k]? = some b := st.pre k b (by rw [List.getElem?_eq_getElem hlt, e0])
          exact (List.getElem?_inj (List.getElem?_eq_some_iff.mp e2).1 R1.t.nd).mp (e2.trans e3.symm)
        subst hj
        rw [hk] at e1
        cases e1
        obtain ⟨_, ps1, y1, y2⟩ : b = b ∧ ∃ ps, H b = some (.tbl ps) ∧ TabOk (W1.m H) q ps := z
        rw [h1] at y1
        cases y1
        refine ⟨rfl, _, by rw [upd_ne (Ne.symm ncP), upd_same], ?_, fun pos' cv hcv => ?_⟩
        · rw [show (ps0 ++ #[rawInt pos.line, rawInt pos.col, Value.ref c]).toList = ps0.toList ++ [rawInt pos.line, rawInt pos.col, .ref c] by simp]
          exact PySem.TriplesOk_snoc _ _ _ _ y2.1
        · rw [show (ps0 ++ #[rawInt pos.line, rawInt pos.col, Value.ref c]).toList = ps0.toList ++ [rawInt pos.line, rawInt pos.col, .ref c] by simp] at hcv
          rcases among_app _ y2.1 hcv with z | z
          · obtain ⟨c0, x1, x2⟩ := y2.2 pos' cv z
            exact ⟨c0, x1, st2.same _ _ x2⟩
          · exact ⟨c, z, msk_some.mpr ⟨hL, upd_same⟩⟩
      · exact con hb z
    · obtain ⟨o, e⟩ := R1.t.pt b h
      exact ⟨o, by rw [off b (fun z => R1.t.ps P PS1 (z ▸ h)) (nx e.1)]; exact e⟩
    · obtain ⟨o, e⟩ := R1.t.ot b h
      exact ⟨o, by rw [off b (fun z => R1.t.ap b h (z ▸ PS1)) (nx e.1)]; exact e⟩
end DR
set_option maxHeartbeats 4000000
/-! DR: x(lambda: body), x a def that calls what it gets. -/
namespace DR
open PySem PySem.Spec PyProof.Rows L2 LamX
abbrev ActF := DT → FR
/-! ### what the lambda holds -/
def lamE (n : Nat) : List Nat → List PV → DE
  | d :: ds, p :: ps => (lamE n ds ps).set d (.val p)
  | _, _ => List.replicate n .no
def lamAct (b : EM) (n : Nat) (ds : List Nat) (ps : List PV) : ActF := fun t => match b ⟨lamE n ds ps, t⟩ with
  | .ok p s => .ok p false s.t
  | .exc x s => .exc x s.t
  | .bad => .bad
/-- the names' values; own ones are let go -/
def capS : List Nat → DS → Option (List PV × DS)
  | [], s => some ([], s)
  | d :: ds, s => match nameE d s with
    | .ok p s1 => (capS ds s1).map fun r => (p :: r.1, r.2)
    | _ => none
def Caps (σ : L2.St) : List Nat → List V → Prop
  | [], vs => vs = []
  | d :: ds, vs => ∃ v r, vs = v :: r ∧ σ[d]? = some (some v) ∧ Caps σ ds r
section
variable {K : PySem.W.Frag} {W : Wd} {H : Hp} {s s1 : DS} {σ : L2.St}
theorem nameE_ok {d : Nat} {p : PV} (R : RSt K W H s σ) (h : nameE d s = .ok p s1) : ∃ W1 v, Step W H W1 H ∧ RSt K W1 H s1 σ ∧ RV K W1 H p v ∧ σ[d]? = some (some v) := by
  unfold nameE at h
  split at h
  · rename_i q e
    cases h
    obtain ⟨v, h1, h2⟩ := R.e.at_ d p e
    exact ⟨W, v, Step.refl _ _, R, h2, h1⟩
  · rename_i q e
    cases h
    obtain ⟨v, W1, h1, st, R1, rv⟩ := R.demote e
    exact ⟨W1, v, st, R1, rv, h1⟩
  · cases h
theorem capS_ok : ∀ {ds : List Nat} {W : Wd} {s s1 : DS} {ps : List PV}, RSt K W H s σ → capS ds s = some (ps, s1) → ∃ W1 vs, Step W H W1 H ∧ RSt K W1 H s1 σ ∧ RVs K W1 H ps vs ∧ Caps σ ds vs
  | [], W, s, s1, ps, R, h => by
    unfold capS at h
    cases h
    exact ⟨W, [], Step.refl _ _, R, reps_nil, rfl⟩
  | d :: ds, W, s, s1, ps, R, h => by
    unfold capS at h
    cases e : nameE d s with
    | bad => rw [e] at h; cases h
    | exc x s2 => rw [e] at h; cases h
    | ok p s2 =>
      rw [e] at h
      obtain ⟨W1, v, st, R1, rv, hv⟩ := nameE_ok R e
      cases e2 : capS ds s2 with
      | none => simp only [e2] at h; cases h
      | some r =>
        simp only [e2, Option.map_some] at h
        cases h
        obtain ⟨W2, vs, st2, R2, rvs, hc⟩ := capS_ok R1 e2
        exact ⟨W2, v :: vs, st.trans st2, R2, reps_cons (st2.rv rv) rvs, v, vs, rfl, hv, hc⟩
theorem lamE_len (n : Nat) : ∀ (ds : List Nat) (ps : List PV), (lamE n ds ps).length = n
  | d :: ds, p :: ps => by unfold lamE; rw [List.length_set]; exact lamE_len n ds ps
  | [], ps => by unfold lamE; simp
  | d :: ds, [] => by unfold lamE; simp
theorem lamE_re {n : Nat} (hn : n = σ.length) : ∀ (ds : List Nat) (ps : List PV) (vs : List V), RVs K W H ps vs → Caps σ ds vs → RE K W H (lamE n ds ps) σ := by
  have nn : ∀ {i : Nat} {sl : Sl}, (List.replicate n Sl.no)[i]? = some sl → sl = .no := fun {i sl} h => by
    rw [List.getElem?_replicate] at h
    split at h
    · exact (Option.some.inj h).symm
    · cases h
  have no : RE K W H (List.replicate n .no) σ := ⟨by simp [hn], (fun i p h => by cases nn h), (fun i p h => by cases nn h), (fun i j p q a h => by cases nn h)⟩
  intro ds
  induction ds with
  | nil => intro ps vs _ _; unfold lamE; exact no
  | cons d ds ih =>
    intro ps vs r c
    cases ps with
    | nil => unfold lamE; exact no
    | cons p ps =>
      unfold RVs Reps at r
      obtain ⟨v, vr, rfl, rv, rr⟩ := r
      obtain ⟨v', r', e, hv, hc⟩ := c
      cases e
      have R := ih ps vr rr hc
      unfold lamE
      refine ⟨by rw [List.length_set]; exact R.len, fun i q h => ?_, fun i q h => ?_, fun i j q q' a h1 h2 h3 h4 => ?_⟩
      · rcases get_set h with ⟨rfl, z⟩ | ⟨_, h⟩
        · cases z; exact ⟨v, hv, rv⟩
        · exact R.at_ i q h
      · rcases get_set h with ⟨_, z⟩ | ⟨_, h⟩
        · cases z
        · exact R.ow i q h
      · rcases get_set h1 with ⟨_, z⟩ | ⟨_, h1⟩
        · cases z
        · rcases get_set h2 with ⟨_, z⟩ | ⟨_, h2⟩
          · cases z
          · exact R.inj i j q q' a h1 h2 h3 h4
end
def callA (act : ActF) (s : DS) : Re (PV × Bool) := match act s.t with
  | .ok p fr t' => .ok (p, fr) ⟨s.e, t'⟩
  | .exc x t' => .exc x ⟨s.e, t'⟩
  | .bad => .bad
/-- a(), a what the def got: L -/
noncomputable def actO (L : PV) (i : Nat) (act : ActF) : OM := fun s => open Classical in if s.e[i]? = some (.val L) then callA act s else .bad
/-- x(lambda: b): P, q the table of the maker's lambdas, at k of the store; ds the names that b uses -/
noncomputable def lamO (k : Nat) (P : Addr) (q : Str) (n : Nat) (ds : List Nat) (F : PV → ActF → DT → FR) (b : EM) : OM := fun s => match capS ds s with
  | none => .bad
  | some (ps, s1) => match s1.t[k]? with
    | some (.tab P' q') => if P' = P ∧ q' = q then (open Classical in if ∀ L, F L (lamAct b n ds ps) s1.t = F .non (lamAct b n ds ps) s1.t then (match F .non (lamAct b n ds ps) s1.t with
      | .ok p fr t' => .ok (p, fr) ⟨s1.e, t'⟩
      | _ => .bad) else .bad) else .bad
    | _ => .bad
/-- a def of one parameter, what it got called by act -/
def bodyA (n : Nat) (b : PV → ActF → SM) : PV → ActF → DT → FR := fun L act t => bodyF n (b L act) [L] t
end DR
set_option maxHeartbeats 4000000
/-! DR: x(lambda: body), the proof. -/
namespace DR
open PySem PySem.Spec PyProof.Rows L2 LamX
section
variable {X : Cx} {pins : List (Addr × Obj)} {σ : L2.St} {H : Hp} {s : Shared}
/-- a(), a what the def got: the body is read where the lambda was made -/
theorem pe_actX {Nd : List Str} {qd : Str} {sd : Scope} {gd f cA : Addr} {cd pmv ct : Value} {pr : Arguments} {bd : Expr} {scope : Scope} {k i : Nat} {a : Str} {pn : List (Addr × Obj)} {xe : Value → Shared → Prop} {W : WX} {b : EM} {pa pb : Pos}
    (I : L2.Inv X pins σ H s) (L : LamS X.env.scope scope)
    (hf : s.heap.get? f = some (PySem.W.kla_obj "<lambda>" (X.env.qual ++ "<lambda>") pr bd scope (cloFrom X.env.cells scope.names []) pmv cA ct)) (hfn : H f = none) (hfr : f ∉ frs X.stack)
    (hbind : bindArgs (PySem.W.kla_fn "<lambda>" (X.env.qual ++ "<lambda>") pr bd scope (cloFrom X.env.cells scope.names []) pmv (.ref cA) ct) ⟨[], []⟩ = pure [])
    (tk : Takes ((cxOf C8.CX0 X.prog X.w X.K X.mg X.base Nd qd sd gd cd X.A X.stack s H C8.E0).tr pn xe) W) (hr : RoomG (k + 1) (X.A.deeper (envOfC qd sd s.heap.objs.size gd cd)))
    (hb : ∀ (A : Around) (outer : List PySem.Env) (s' : Shared) (H' : Hp) (E : XK), RoomG k (A.deeper (lamEnv X scope s'.heap.objs.size f cA)) → PX (lamCx X A outer s' H' E scope f cA) (fun cls d _ H'' => E cls d H'') bd b)
    (hN : Nd[i]? = some a) (hv : Vis sd a) (h1 : (a == ("__debug__" : Str)) = false := by decide) (h2 : (a == ("__classdict__" : Str)) = false := by decide) :
    PE ((cxOf C8.CX0 X.prog X.w X.K X.mg X.base Nd qd sd gd cd X.A X.stack s H C8.E0).tr pn xe) (.Call (.Name a pa) [] [] pb)
      (fun τ G Q => τ[i]? = some (some (.ref f)) ∧ G cA = some (CodeO cA (X.env.qual ++ "<lambda>")) ∧ tE X.K (fun cls d _ G' => W cls d τ G') b σ G Q) := by
  refine ⟨fun pinsZ sZ τ G Q IZ ⟨e1, e2, run⟩ => ?_⟩
  refine wpAny_Call_Name_kw (thn ((pe_var (pos := pa) (i := i) hN hv h1 h2).run pinsZ sZ τ G (fun v G1 => v = .ref f ∧ G1 = G) IZ ⟨.ref f, e1, rfl, rfl⟩) fun u s1 ⟨v, G1, I1, rv, z1, z2⟩ => ?_)
  subst z1
  subst z2
  obtain rfl : u = Value.ref f := rv
  have lam := I1.base.keep f _ hf hfn hfr (fun z => nomatch (show f ∈ ([] : List Addr) from z))
  refine PySem.W.callWith_F0 ⟨_, _, _, _, lam⟩ ?_
  obtain ⟨⟨oc, vs, t, hoc, hdc, hvc⟩, _, _⟩ := I1.hok cA _ e2
  have called : codeAny (model X.prog X.w) (X.A.deeper (envOfC qd sd s.heap.objs.size gd cd)) (.call (.ref f) ⟨[], []⟩) (CR (L2.CX X.prog X.w) (envOfC qd sd s.heap.objs.size gd cd :: X.stack) X.prog X.w G1 s1 Q (fun cls d G' => W cls d τ G')) s1 := by
    refine PySem.W.kla_callFunE hr.depth lam rfl L.co L.gen rfl ⟨cA, oc, vs, t, rfl, hoc, hdc, hvc⟩ ?_
    rw [hbind]
    refine wpAny_pure (wpAny_newFunctionEnv (fun y hy => (L.own y hy).2) (fun y hy => absurd hy (by simp)) (fun hp ns sb => ⟨I1.nolimit.fresh _ sb, ?_⟩) L.kind)
    have J := lam_start2 (E := fun cls d G' => W cls d τ G') (tk := s1.toks + ([] : List (Str × Value)).length) (c' := cA) (f := f) I L I1.env0 hr.hd I1.base ns fun b' o e => sb.extBut b' o (Nat.ne_of_lt (Heap.lt_size e)) (Heap.get?_push_of_some _ e)
    refine PySem.W.kla_codeExpr (wpAny_mono ((hb _ _ s1 G1 _ (hr.deeper _)).pe.run [] _ _ G1 Q J run) (fun v s' ⟨w', G', J', r, q⟩ => ?_) fun e s' q => q)
    exact ⟨w', G', J'.os, J'.bare, J'.base, J'.hok, r, q⟩
  refine wpAny_call (codeAny_mono called fun r s' q => ?_)
  cases r with
  | error e => exact passAt tk τ pinsZ G1 s1 e s' I1 q
  | ok fl =>
    cases fl with
    | ret u => exact I1.after q
    | next => exact q.elim
    | brk => exact q.elim
    | cont => exact q.elim
end
/-! ### what a() tells -/
section
variable {K : PySem.W.Frag} {W : WX} {Wd0 : Wd} {G : Hp} {st : DS} {τ σ : L2.St} {Q : VK}
theorem act_post {L : PV} {f cA : Addr} {q : Str} {ps : List PV} {vs : List V} {i n : Nat} {ds : List Nat} {b : EM} (hL : L = .lam f cA q ps vs) (hn : n = σ.length) (hc : Caps σ ds vs) (R : RSt K Wd0 G st τ) (h : Post rO K W τ Wd0 G (actO L i (lamAct b n ds ps) st) Q) :
    τ[i]? = some (some (.ref f)) ∧ G cA = some (CodeO cA q) ∧ tE K (fun cls d _ G' => W cls d τ G') b σ G Q := by
  subst hL
  unfold actO at h
  split at h
  · rename_i e
    obtain ⟨v, e1, rv⟩ := R.e.at_ i _ e
    unfold RV Rep at rv
    obtain ⟨rfl, e2, rvs⟩ := rv
    refine ⟨e1, (msk_some.mp e2).2, Wd0.call, ⟨lamE n ds ps, st.t⟩, ⟨lamE_re hn ds ps vs ?_ hc, R.call⟩, ?_⟩
    · show Reps K Wd0.S (Wd0.call.m G) ps vs
      rw [call_m]
      exact rvs
    · unfold callA lamAct at h
      cases eb : b ⟨lamE n ds ps, st.t⟩ with
      | bad => rw [eb] at h; exact h.elim
      | exc x s1 =>
        rw [eb] at h
        intro d W' H' stp R' xr
        refine h d _ H' (stp.back R) (R.back stp R'.t) ?_
        unfold XR at xr ⊢
        cases hx : x.fs with
        | none => rw [hx] at xr; exact xr
        | some l =>
          rw [hx] at xr
          obtain ⟨dd, ws, h1, h2, h3⟩ := xr
          refine ⟨dd, ws, h1, ?_, ?_⟩
          · rw [back_m stp.prv]; exact h2
          · rw [back_m stp.prv]; exact h3
      | ok p s1 =>
        rw [eb] at h
        exact fun v W' H' stp R' rf => h v _ H' (stp.back R) (R.back stp R'.t) (rO_back R stp R'.t (fr := false) rf)
  · exact h.elim
end
section
variable {X : Cx} {Z : WX}
/-- x(lambda: body) -/
theorem po_lam {x a : Str} {g c P : Addr} {k j : Nat} {pg : Arguments} {bg : List Stmt} {sg : Scope} {dV kV doc pm cdv ct oc : Value} {an od : Option Addr} {osl : Array (Option Value)} {Ng : List Str} {params : Arguments} {body : Expr} {scope : Scope} {p lpos pos : Pos}
    {ds : List Nat} {b : EM} {bb : PV → ActF → SM} (hg : Gl X x) (hm : X.mg x = some (.ref g)) (hk : PySem.W.keepIn X.K (.ref g) = true)
    (lk : X.K.lookup g = some ⟨oc, od, .func (PySem.W.fnOf x x pg bg sg dV kV doc pm an cdv ct), osl⟩) (hcg : PySem.W.codeIn X.K cdv x = true) (hbi : L2.Binds X.K (PySem.W.fnOf x x pg bg sg dV kV doc pm an cdv ct) [a] []) (Sg : FnScope Ng [a] sg) (hNg : Ng[0]? = some a) (hva : Vis sg a)
    (hG : ∀ (L : PV) (act : ActF) (s : Shared) (H : Hp), RoomG (k + 1) (X.A.deeper (envOfC x sg s.heap.objs.size g cdv)) → (∀ (W : WX) (pn : List (Addr × Obj)) (xe : Value → Shared → Prop) (pa pb : Pos), Takes ((cxOf C8.CX0 X.prog X.w X.K X.mg X.base Ng x sg g cdv X.A X.stack s H C8.E0).tr pn xe) W → PO ((cxOf C8.CX0 X.prog X.w X.K X.mg X.base Ng x sg g cdv X.A X.stack s H C8.E0).tr pn xe) W (.Call (.Name a pa) [] [] pb) (actO L 0 act)) →
      PSsX (cxOf C8.CX0 X.prog X.w X.K X.mg X.base Ng x sg g cdv X.A X.stack s H C8.E0).nox (fun _ _ _ _ => False) bg (bb L act))
    (TB : TabB X.base X.mg c P) (hcode : X.env.code = .ref c) (hr : RoomG (k + 2) X.A) (L : LamS X.env.scope scope) (hdef : defaultsOf params X.env = ([], []))
    (hbind : ∀ (q : Str) (cl : List (Str × Addr)) (pm cv ctv : Value), bindArgs (PySem.W.kla_fn "<lambda>" q params body scope cl pm cv ctv) ⟨[], []⟩ = pure [])
    (hbody : ∀ (A : Around) (outer : List PySem.Env) (s : Shared) (H : Hp) (E : XK) (f c' : Addr), RoomG k (A.deeper (lamEnv X scope s.heap.objs.size f c')) → PX (lamCx X A outer s H E scope f c') (fun cls d _ H' => E cls d H') body b)
    (hdb : (x == ("__debug__" : Str)) = false := by decide) (hd : (a == ("__debug__" : Str)) = false := by decide) (hcd : (a == ("__classdict__" : Str)) = false := by decide) :
    PO X Z (.Call (.Name x p) [.Lambda params body scope lpos] [] pos) (lamO j P (X.env.qual ++ "<lambda>") X.N.length ds (bodyA Ng.length bb) b) := by
  refine ⟨⟨fun pins s σ H Q I ⟨W, st, R, h⟩ => ?_⟩⟩
  unfold lamO at h
  cases ec : capS ds st with
  | none => simp only [ec] at h; exact h.elim
  | some r =>
  obtain ⟨ps, s1⟩ := r
  simp only [ec] at h
  obtain ⟨W1, vs, st1, R1, rvs, caps⟩ := capS_ok R ec
  split at h
  case h_2 => exact h.elim
  rename_i P' q' et
  by_cases hPq : P' = P ∧ q' = X.env.qual ++ "<lambda>"
  case neg => rw [if_neg hPq] at h; exact h.elim
  rw [if_pos hPq] at h
  obtain ⟨rfl, rfl⟩ := hPq
  split at h
  case isFalse => exact h.elim
  rename_i all
  have hlt : j < W1.S.length := by rw [← R1.t.len]; exact (List.getElem?_eq_some_iff.mp et).1
  have tabS : TabS H P' (X.env.qual ++ "<lambda>") := by
    obtain ⟨e0, ps0, y1, y2⟩ : W1.S[j] = P' ∧ ∃ ps, H W1.S[j] = some (.tbl ps) ∧ TabOk (W1.m H) (X.env.qual ++ "<lambda>") ps := R1.t.at_ j _ W1.S[j] et (List.getElem?_eq_getElem hlt)
    rw [e0] at y1
    refine ⟨ps0, y1, y2.1, fun ps1 cv hcv => ?_⟩
    obtain ⟨c0, z1, z2⟩ := y2.2 ps1 cv hcv
    exact ⟨c0, z1, (msk_some.mp z2).2⟩
  refine wpAny_Call_Name_kw (ld_glob I hg hm ?_ hdb)
  refine PySem.W.callWith_K (h₀ := X.base) I.ok.mod.kin hk ?_ (by rfl) (by rfl)
  show wpAny _ _ (spliced ((false, eval (.Lambda params body scope lpos) X.env) :: backTo pos (starEach [] X.env))) _ _ s
  refine Calls.spliced_cons (lam_makeX I TB hcode tabS hdef (L.has I.ok) fun f cA pmv ctv H1 s' I1 grew hf hfn hfr => ?_)
  refine Calls.spliced_nil ⟨I1.kIn, ?_⟩
  obtain ⟨W2, st2, R2, hcA⟩ := grew_step R1 et grew
  have lv : RV X.K W2 H1 (.lam f cA (X.env.qual ++ "<lambda>") ps vs) (.ref f) := by
    unfold RV Rep
    exact ⟨rfl, hcA, st2.rvs rvs⟩
  have hlen : X.N.length = σ.length := I.len.symm
  have h := Post.step (Post.step h st1) st2
  have done : codeAny (model X.prog X.w) X.A (.call (.ref g) ⟨[.ref f], []⟩) (CR C8.CX0 X.stack X.prog X.w H1 s' Q C8.E0) s' := by
    refine run_ofS (N := Ng) (ps := [a]) (us := [.ref f]) (vs := [.ref f]) lk hcg Sg hr.r I1.env0 (hbi s' [.ref f] I1.kIn rfl) (.cons rfl .nil) rfl fun hr0 => ?_
    have hr' : RoomG (k + 1) (X.A.deeper (envOfC x sg s'.heap.objs.size g cdv)) := ⟨hr0, hr.g⟩
    have walk := hG (.lam f cA (X.env.qual ++ "<lambda>") ps vs) (lamAct b X.N.length ds ps) s' H1 hr' fun W pn xe pa pb tk => by
      refine ⟨PE_imp (pe_actX (b := b) (i := 0) (pa := pa) (pb := pb) I1 L hf hfn hfr (hbind _ _ _ _ _) tk hr' (fun A outer s2 H2 E hr2 => hbody A outer s2 H2 E f cA hr2) hNg hva hd hcd) fun τ G Q' ⟨Wd0, st0, R0, post⟩ => ?_⟩
      exact act_post rfl hlen caps R0 post
    refine ⟨_, walk.ps.nox, W2.call, ⟨frameE Ng.length [.lam f cA (X.env.qual ++ "<lambda>") ps vs], s1.t⟩, frame_start rfl R2.call (reps_cons ?_ reps_nil) ?_, ?_⟩
    · show Rep X.K W2.S (W2.call.m H1) _ _
      rw [call_m]
      exact lv
    · have := congrArg List.length Sg.pre
      rw [List.length_take] at this
      simp only [List.length_singleton] at this ⊢
      omega
    · have e0 := all (.lam f cA (X.env.qual ++ "<lambda>") ps vs)
      rw [← e0] at h
      unfold bodyA bodyF at h
      cases e : bb (.lam f cA (X.env.qual ++ "<lambda>") ps vs) (lamAct b X.N.length ds ps) ⟨frameE Ng.length [.lam f cA (X.env.qual ++ "<lambda>") ps vs], s1.t⟩ with
      | bad => rw [e] at h; exact h.elim
      | exc y s2 => rw [e] at h; exact h.elim
      | ok fl s2 =>
        rw [e] at h
        cases fl with
        | nx => exact fun σ' W' H' stp R' => h .non _ H' (stp.back R2) (R2.back stp R'.t) (show RV X.K (W2.back W') H' .non .non from rv_non)
        | bk => exact h.elim
        | ct => exact h.elim
        | rt p fr =>
          intro σ' v W' H' stp R' ro
          refine h v _ H' (stp.back R2) (R2.back stp R'.t) (rO_back R2 stp R'.t ?_)
          cases fr with
          | false => exact ro
          | true =>
            obtain ⟨a0, e1, e2, e3, _⟩ := ro
            exact ⟨a0, e1, e2, e3⟩
  refine wpAny_call (codeAny_mono done fun r s2 q => ?_)
  cases r with
  | error e => exact (show False from q).elim
  | ok fl =>
    cases fl with
    | ret u => exact I1.after q
    | next => exact q.elim
    | brk => exact q.elim
    | cont => exact q.elim
end
end DR
set_option maxHeartbeats 4000000
/-! DR: contexts of lambdas, of defs that get them. -/
namespace DR
open PySem PySem.Spec PyProof.Rows L2 LamX
section
variable {X : Cx} {A : Around} {outer : List PySem.Env} {s : Shared} {H : Hp} {E : XK} {scope : Scope} {f cA : Addr}
theorem takes_lam : Takes (lamCx X A outer s H E scope f cA) (fun cls d _ H' => E cls d H') :=
  L2.takes_of (X := lamCx X A outer s H E scope f cA) rfl rfl rfl rfl
theorem takes_nox : Takes X.nox (fun _ _ _ _ => False) := L2.takes0
end
end DR
set_option maxHeartbeats 4000000
/-! DR: defs by their code objects; defs that get lambdas, as facts by names. -/
namespace DR
open PySem PySem.Spec PyProof.Rows L2 LamX
section
variable {P : Program} {w : World} {K : PySem.W.Frag} {mg : Str → Option Value} {base : Heap}
/-- a def, its code object at c known within -/
theorem fn_okC {x qual : Str} {params : Arguments} {body : List Stmt} {scope : Scope} {kws : List (Str × V)} {f c : Addr} {fd : FuncData} {N ps : List Str} {k : Nat} {b : SM} (F : FunD K x qual params body scope [] kws f fd) (hc : fd.code = .ref c) (S : FnScope N ps scope)
    (hb : ∀ (A : Around) (outer : List PySem.Env) (s : Shared) (H : Hp) (E : XK), RoomG k (A.deeper (envOfC qual scope s.heap.objs.size f (.ref c))) →
      PSsX (cxOf (L2.CX P w) P w K mg base N qual scope f (.ref c) A outer s H E) (fun cls d _ H => E cls d H) body b) : FnG P w K mg base (L2.CX P w) (k + 1) f fd ps (spF K ps.length (bodyF N.length b)) := by
  obtain ⟨oc, od, dV, kV, doc, pm, an, cdv, ct, osl, rfl, lk, hcd, _, _⟩ := F.ex
  obtain rfl : cdv = .ref c := hc
  refine fn_ofG lk hcd S (fun vs H Q E h => h.1) fun A outer s H vs Q E hr h => ⟨_, (hb A outer s H E hr).ps, ?_⟩
  obtain ⟨hl, W, t, qs, hO, R, rv, post⟩ := h
  have hN : ps.length ≤ N.length := by
    have := congrArg List.length S.pre
    rw [List.length_take] at this
    omega
  refine ⟨W, ⟨frameE N.length qs, t⟩, frame_start hO R rv (by rw [hl]; exact hN), ?_⟩
  unfold bodyF at post
  cases e : b ⟨frameE N.length qs, t⟩ with
  | bad => rw [e] at post; exact post.elim
  | exc x s1 => rw [e] at post; exact fun σ' d W' H' st R' xr => post d W' H' st R'.t xr
  | ok fl s1 =>
    rw [e] at post
    cases fl with
    | nx => exact fun σ' W' H' st R' => post .non W' H' st R'.t (show RV K W' H' .non .non from rv_non)
    | bk => exact post.elim
    | ct => exact post.elim
    | rt p fr =>
      intro σ' v W' H' st R' ro
      refine post v W' H' st R'.t ?_
      cases fr with
      | false => exact ro
      | true =>
        obtain ⟨a, e1, e2, e3, _⟩ := ro
        exact ⟨a, e1, e2, e3⟩
/-- the context of a def that gets a lambda -/
abbrev actCx (P : Program) (w : World) (K : PySem.W.Frag) (mg : Str → Option Value) (base : Heap) (N : List Str) (x : Str) (sg : Scope) (g : Addr) (cdv : Value) (A : Around) (outer : List PySem.Env) (s : Shared) (H : Hp) : Cx := cxOf C8.CX0 P w K mg base N x sg g cdv A outer s H C8.E0
/-- what a() is within it -/
def Acts (Y : Cx) (a : Str) (L : PV) (act : ActF) : Prop := ∀ (W : WX) (pn : List (Addr × Obj)) (xe : Value → Shared → Prop) (pa pb : Pos), Takes (Y.tr pn xe) W → PO (Y.tr pn xe) W (.Call (.Name a pa) [] [] pb) (actO L 0 act)
/-- a def of one parameter, a, that it calls -/
structure LamDef (P : Program) (w : World) (K : PySem.W.Frag) (mg : Str → Option Value) (base : Heap) (x : Str) (k : Nat) (sem : PV → ActF → DT → FR) : Prop where
  ex : ∃ (a : Str) (N : List Str) (g : Addr) (pg : Arguments) (bg : List Stmt) (sg : Scope) (dV kV doc pm cdv ct oc : Value) (an od : Option Addr) (osl : Array (Option Value)) (bb : PV → ActF → SM), mg x = some (.ref g) ∧ PySem.W.keepIn K (.ref g) = true ∧
    K.lookup g = some ⟨oc, od, .func (PySem.W.fnOf x x pg bg sg dV kV doc pm an cdv ct), osl⟩ ∧ PySem.W.codeIn K cdv x = true ∧ Binds K (PySem.W.fnOf x x pg bg sg dV kV doc pm an cdv ct) [a] [] ∧ FnScope N [a] sg ∧ N[0]? = some a ∧ Vis sg a ∧ (a == ("__debug__" : Str)) = false ∧ (a == ("__classdict__" : Str)) = false ∧
    sem = bodyA N.length bb ∧ ∀ (A : Around) (outer : List PySem.Env) (s : Shared) (H : Hp) (L : PV) (act : ActF), RoomG k (A.deeper (envOfC x sg s.heap.objs.size g cdv)) → Acts (actCx P w K mg base N x sg g cdv A outer s H) a L act →
      PSsX (actCx P w K mg base N x sg g cdv A outer s H).nox (fun _ _ _ _ => False) bg (bb L act)
theorem LamDef.mk' {x a : Str} {params : Arguments} {body : List Stmt} {scope : Scope} {f : Addr} {fd : FuncData} {N : List Str} {k : Nat} {bb : PV → ActF → SM} (F : FunD K x x params body scope [] [] f fd) (hm : mg x = some (.ref f)) (S : FnScope N [a] scope) (hN : N[0]? = some a) (hv : Vis scope a)
    (h1 : (a == ("__debug__" : Str)) = false) (h2 : (a == ("__classdict__" : Str)) = false)
    (hb : ∀ (kV doc pm : Value) (an : Option Addr) (cdv ct : Value) (us : List Value), us.length = [a].length → bindArgs (PySem.W.fnOf x x params body scope .none kV doc pm an cdv ct) ⟨us, []⟩ = pure ([a].zip us))
    (hG : ∀ (cdv : Value) (A : Around) (outer : List PySem.Env) (s : Shared) (H : Hp) (L : PV) (act : ActF), RoomG k (A.deeper (envOfC x scope s.heap.objs.size f cdv)) → Acts (actCx P w K mg base N x scope f cdv A outer s H) a L act →
      PSsX (actCx P w K mg base N x scope f cdv A outer s H).nox (fun _ _ _ _ => False) body (bb L act)) : LamDef P w K mg base x k (bodyA N.length bb) := by
  have b := F.bindsN hb
  obtain ⟨oc, od, dV, kV, doc, pm, an, cdv, ct, osl, rfl, lk, hcd, _, _⟩ := F.ex
  exact ⟨a, N, f, params, body, scope, dV, kV, doc, pm, cdv, ct, oc, an, od, osl, bb, hm, F.kp, lk, hcd, b, S, hN, hv, h1, h2, rfl, fun A outer s H L act hr ac => hG cdv A outer s H L act hr ac⟩
end
section
variable {X : Cx} {Z : WX}
/-- x(lambda: body), by the def's name; c: the maker's code object, P its table -/
theorem po_lamD {x : Str} {c P : Addr} {k kk j : Nat} {params : Arguments} {body : Expr} {scope : Scope} {p lpos pos : Pos} {ds : List Nat} {b : EM} {sem : PV → ActF → DT → FR} {n : Nat} (D : LamDef X.prog X.w X.K X.mg X.base x kk sem) (hg : Gl X x)
    (TB : TabB X.base X.mg c P) (hcode : X.env.code = .ref c) (hr : RoomG (k + 2) X.A) (hk : kk ≤ k + 1) (L : LamS X.env.scope scope) (hdef : defaultsOf params X.env = ([], []))
    (hbind : ∀ (q : Str) (cl : List (Str × Addr)) (pm cv ctv : Value), bindArgs (PySem.W.kla_fn "<lambda>" q params body scope cl pm cv ctv) ⟨[], []⟩ = pure [])
    (hbody : ∀ (A : Around) (outer : List PySem.Env) (s : Shared) (H : Hp) (E : XK) (f c' : Addr), RoomG k (A.deeper (lamEnv X scope s.heap.objs.size f c')) → PX (lamCx X A outer s H E scope f c') (fun cls d _ H' => E cls d H') body b)
    (hn : X.N.length = n := by rfl) (hdb : (x == ("__debug__" : Str)) = false := by decide) :
    PO X Z (.Call (.Name x p) [.Lambda params body scope lpos] [] pos) (lamO j P (X.env.qual ++ "<lambda>") n ds sem b) := by
  obtain ⟨a, N, g, pg, bg, sg, dV, kV, doc, pm, cdv, ct, oc, an, od, osl, bb, hm, kp, lk, hcd, hbi, S, hN, hv, h1, h2, rfl, hG⟩ := D.ex
  subst hn
  exact po_lam hg hm kp lk hcd hbi S hN hv (fun L act s H hr' ac => hG X.A X.stack s H L act (hr'.mono hk) ac) TB hcode hr L hdef hbind hbody hdb h1 h2
end
end DR
set_option maxHeartbeats 4000000
/-! DR: x(lambda z=0: body): a lambda with one parameter that has a default and that its body does not use. -/
namespace DR
open PySem PySem.Spec PyProof.Rows L2 LamX
/-- one parameter z of its own, not a name of the maker: captured ones and globals else -/
structure LamF (N : List Str) (sc scope : Scope) (z : Str) : Prop where
  kind : scope.kind = .function
  co : scope.isCoroutine = false
  gen : scope.isGenerator = false
  own : ∀ y ∈ scope.names, (y.2 = .local → y.1 = z) ∧ y.2 ≠ .cell
  loc : scope.names.lookup z = some .local
  free : ∀ y ∈ scope.names, y.2 = .free → sc.names.lookup y.1 = some .cell ∨ sc.names.lookup y.1 = some .free
  no : z ∉ N
def lamFB (N : List Str) (sc scope : Scope) (z : Str) : Bool :=
  decide (scope.kind = .function) && !scope.isCoroutine && !scope.isGenerator && (scope.names.all fun y => (!decide (y.2 = .local) || decide (y.1 = z)) && !decide (y.2 = .cell) && (!decide (y.2 = .free) || decide (sc.names.lookup y.1 = some .cell) || decide (sc.names.lookup y.1 = some .free))) &&
    decide (scope.names.lookup z = some .local) && !decide (z ∈ N)
theorem lamF_by {N : List Str} {sc scope : Scope} {z : Str} (h : lamFB N sc scope z = true) : LamF N sc scope z := by
  unfold lamFB at h
  simp only [Bool.and_eq_true, Bool.or_eq_true, Bool.not_eq_true', decide_eq_true_eq, decide_eq_false_iff_not, List.all_eq_true] at h
  obtain ⟨⟨⟨⟨⟨h1, h2⟩, h3⟩, h4⟩, h5⟩, h6⟩ := h
  refine ⟨h1, h2, h3, fun y hy => ⟨fun e => ?_, (h4 y hy).1.2⟩, h5, fun y hy e => ?_, h6⟩
  · rcases (h4 y hy).1.1 with q | q
    · exact absurd e q
    · exact q
  · rcases (h4 y hy).2 with (q | q) | q
    · exact absurd e q
    · exact .inl q
    · exact .inr q
theorem LamF.has {X : Cx} {N : List Str} {scope : Scope} {z : Str} (L : LamF N X.env.scope scope z) (ok : X.Ok) : ∀ y ∈ scope.names, y.2 = .free → ∃ c, X.env.cells.lookup y.1 = some c := fun y hy e => by
  rcases L.free y hy e with k | k
  · exact ok.has _ (.inl k)
  · exact ok.has _ (.inr k)
section
variable {X : Cx} {pins : List (Addr × Obj)} {σ : L2.St} {H : Hp} {s : Shared}
theorem lam_makeF {c P : Addr} {params : Arguments} {body : Expr} {scope : Scope} {pos : Pos} {d : Expr} {E : Value → Shared → Prop} {Q : Value → Shared → Prop} (I : L2.Inv X pins σ H s) (TB : TabB X.base X.mg c P) (hcode : X.env.code = .ref c)
    (hT : TabS H P (X.env.qual ++ "<lambda>")) (hk0 : params.kw_defaults = []) (hdd : params.defaults = [d]) (hev : ∀ (M : Model) (A : Around) (Q : Value → Shared → Prop) (E : Value → Shared → Prop) (s : Shared), (∀ dv t, Q dv { s with toks := t }) → wpAny M A (eval d X.env) Q E s)
    (hfree : ∀ y ∈ scope.names, y.2 = .free → ∃ c, X.env.cells.lookup y.1 = some c)
    (h : ∀ (f c' T0 : Addr) (pm ctv doc dv : Value) (H1 : Hp) (s' : Shared), L2.Inv X pins σ H1 s' → Grew H H1 P c' (X.env.qual ++ "<lambda>") →
      s'.heap.get? f = some (PySem.W.kdv_obj "<lambda>" (X.env.qual ++ "<lambda>") params (.expr body) scope (cloFrom X.env.cells scope.names []) (.ref T0) doc pm c' ctv) → H1 f = none → f ∉ frs X.stack →
      s'.heap.get? T0 = some (PySem.W.kdv_tup [dv]) → H1 T0 = none → T0 ∉ frs X.stack → Q (.ref f) s') :
    wpAny (model X.prog X.w) X.A (eval (.Lambda params body scope pos) X.env) Q E s := by
  refine PySem.W.kdv_lam (by rw [hdd]; rfl) hk0 ?_
  rw [hdd]
  have I00 := I
  clear I
  refine PySem.W.kdv_all1 (hev _ _ _ _ _ fun dv tk0 => PySem.W.kdv_all0 ?_)
  have I0 : L2.Inv X pins σ H { s with toks := tk0 } := I00.kept (t' := tk0) fun b o e => e
  clear I00
  generalize ({ s with toks := tk0 } : Shared) = s at I0
  rw [makeFunction_eq]
  simp only [List.zip_nil_right, List.filterMap_nil, List.isEmpty_nil, List.isEmpty_cons, Bool.false_eq_true, if_true, if_false, pure_bind]
  refine wpAny_bind (wpAny_newTextTuple ?_)
  have I : L2.Inv X pins σ H { s with heap := s.heap.push (PySem.W.kdv_tup [dv]) } := I0.kept (t' := s.toks) fun b o e => Heap.get?_push_of_some _ e
  have t0 : (s.heap.push (PySem.W.kdv_tup [dv])).get? s.heap.objs.size = some (PySem.W.kdv_tup [dv]) := Heap.get?_push_size _ rfl
  have nT : H s.heap.objs.size = none := I0.hok.fresh (Nat.le_refl _)
  have nofr0 : ∀ f, s.heap.objs.size ≤ f → f ∉ frs X.stack := fun f hf z => by
    rcases List.mem_cons.mp (I0.stkSub _ z) with e | e
    · have h1 := I0.lt
      rw [← e] at h1
      exact Nat.lt_irrefl _ (Nat.lt_of_lt_of_le h1 hf)
    · exact I0.nofs hf e
  have nTf := nofr0 _ (Nat.le_refl _)
  generalize hT0 : s.heap.objs.size = T0 at t0 nT nTf
  generalize hs0 : s.heap.push (PySem.W.kdv_tup [dv]) = hp at I t0
  show wpAny (model X.prog X.w) X.A (makeTail "<lambda>" (X.env.qual ++ "<lambda>") params (.expr body) scope X.env (.ref T0) .none none pos pos.line) Q E { s with heap := hp }
  generalize hs1 : ({ s with heap := hp } : Shared) = s1 at I
  have t0 : s1.heap.get? T0 = some (PySem.W.kdv_tup [dv]) := by rw [← hs1]; exact t0
  clear nofr0 I0
  obtain ⟨ps, hP, ht, ha⟩ := id hT
  have bP : s1.heap.BuiltinsAt X.mg P := TB.bm.keeps I.bk
  have lies := I.hok P _ hP
  have lies' : s1.heap.get? P = some { cls := .none, data := .fields ps } := lies
  have nofr : ∀ f, s1.heap.objs.size ≤ f → f ∉ frs X.stack := fun f hf z => by
    rcases List.mem_cons.mp (I.stkSub _ z) with e | e
    · have h1 := I.lt
      rw [← e] at h1
      exact Nat.lt_irrefl _ (Nat.lt_of_lt_of_le h1 hf)
    · exact I.nofs hf e
  have TP : T0 ≠ P := fun z => by rw [z] at nT; rw [nT] at hP; cases hP
  cases hc : codeAmong pos ps.toList with
  | some cv =>
    obtain ⟨c', e, hco⟩ := ha pos cv hc
    subst e
    refine PySem.W.kdv_makeTailHit (mg := X.mg) (c := c) (P := P) (ps := ps) (closure_ok hfree) I.ok.glob (I.mod.glob.keeps I.bk) hcode (TB.code.keeps I.bk) lies' ht hc bP fun ctv doc h' tk hx hsz => ?_
    exact h h'.objs.size c' T0 ((X.mg "__name__").getD .none) ctv doc dv H _ (I.kept (t' := tk) fun b o e => Heap.get?_push_of_some _ (hx b o e)) (.inl ⟨rfl, ps, pos, hP, hc⟩) (Heap.get?_push_size h' rfl) (I.hok.fresh hsz) (nofr _ hsz)
      (Heap.get?_push_of_some _ (hx _ _ t0)) nT nTf
  | none =>
    refine PySem.W.kdv_makeTail (mg := X.mg) (c := c) (P := P) (ps := ps) (closure_ok hfree) I.ok.glob (I.mod.glob.keeps I.bk) hcode (TB.code.keeps I.bk) lies' ht hc TB.gP bP fun c' ctv doc h' tk hx hge hlt hrec htb => ?_
    obtain ⟨c2, oc, vs, t, e2, hoc, hd, hv⟩ := hrec
    cases e2
    have hsz : s1.heap.objs.size ≤ h'.objs.size := Nat.le_trans hge (Nat.le_of_lt hlt)
    have nC : H c' = none := I.hok.fresh hge
    have I1 := inv_table (t' := tk) (more := #[rawInt pos.line, rawInt pos.col, .ref c']) (h' := h'.push (PySem.W.kdv_obj "<lambda>" (X.env.qual ++ "<lambda>") params (.expr body) scope (cloFrom X.env.cells scope.names []) (.ref T0) doc ((X.mg "__name__").getD .none) c' ctv)) I hP
      (fun b o hb e => Heap.get?_push_of_some _ (hx b o hb e)) (Heap.get?_push_of_some _ htb) hge ⟨oc, vs, t, Heap.get?_push_of_some _ hoc, hd, hv⟩
    have TC : T0 ≠ c' := fun z => by
      have := Heap.lt_size t0
      rw [z] at this
      exact Nat.lt_irrefl _ (Nat.lt_of_lt_of_le this hge)
    refine h h'.objs.size c' T0 ((X.mg "__name__").getD .none) ctv doc dv _ _ I1 (.inr ⟨ps, pos, hP, nC, rfl⟩) (Heap.get?_push_size h' rfl) ?_ (nofr _ hsz) (Heap.get?_push_of_some _ (hx _ _ TP t0)) ?_ nTf
    · have n1 : h'.objs.size ≠ c' := Nat.ne_of_gt hlt
      have n2 : h'.objs.size ≠ P := Nat.ne_of_gt (Nat.lt_of_lt_of_le (Heap.lt_size lies') hsz)
      rw [upd_ne n1, upd_ne n2]
      exact I.hok.fresh hsz
    · rw [upd_ne TC, upd_ne TP]
      exact nT
end
section
variable {X : Cx} {pins : List (Addr × Obj)} {σ : L2.St} {H HZ : Hp} {s s1 : Shared}
theorem lam_startF {A : Around} {outer : List PySem.Env} {E : XK} {scope : Scope} {z : Str} {f c' : Addr} {h₁ : Heap} {tk : Nat} {m : Str → Option Value} (I : L2.Inv X pins σ H s) (L : LamF X.N X.env.scope scope z) (e0 : Env0 X.prog X.w X.K X.mg X.base A outer s1 HZ) (hd : A.handled = none)
    (un : Un (frs X.stack) [] H HZ s.heap s1.heap) (hns : h₁.Ns s1.heap.objs.size m) (kp : ∀ b o, s1.heap.get? b = some o → h₁.get? b = some o) :
    L2.Inv (lamCx X A outer s1 HZ E scope f c') [] σ HZ { s1 with heap := h₁, toks := tk } := by
  have hfree := L.has I.ok
  have cm : ∀ {y c}, (cloFrom X.env.cells scope.names []).lookup y = some c → X.env.cells.lookup y = some c := fun {y c} e => by
    rcases cloFrom_mem (PySem.mem_of_lookup e) with hm | ⟨h1, h2⟩
    · cases hm
    · obtain ⟨c1, hc⟩ := hfree _ h1 rfl
      have hc : X.env.cells.lookup y = some c1 := hc
      have e2 : c = c1 := by
        rw [h2, hc] <;> rfl
      rw [e2]
      exact hc
  have look : ∀ {y}, scope.names.lookup y = some .free → ∃ c, (cloFrom X.env.cells scope.names []).lookup y = some c := fun {y} hl => by
    have hy : (y, NameKind.free) ∈ scope.names := PySem.mem_of_lookup hl
    exact mem_lookup (cloFrom_has (cells := X.env.cells) (acc := []) hy)
  have cellK : ∀ {c : Addr} {v : Option Value}, H c = none → s.heap.IsCell c v → h₁.IsCell c v := fun {c v} n ⟨o, ho, hd⟩ => by
    obtain ⟨sl, q⟩ := un.any ho n (by simp)
    exact ⟨_, kp _ _ q, hd⟩
  have noA : ∀ b : Addr, b ∉ (lamCx X A outer s1 HZ E scope f c').ex := fun b z => absurd (show b ∈ ([] : List Addr) from z) (by simp)
  refine ⟨⟨e0.mod, L.kind, rfl, rfl, Nat.le_refl _, fun y z c e1 e2 => I.ok.inj y z c (cm e1) (cm e2), fun y hy => ?_, fun y c z _ => ?_, fun _ => hd, Around.frames_deeper e0.frames, .inr ⟨rfl, rfl⟩, fun b z => absurd z (noA b), e0.bs, e0.bsz, fun b _ _ => noA b,
      fun b z => absurd z (noA b), e0.funs, e0.frf⟩,
    rfl, e0.bare, Un.kept kp, ⟨_, hns, fun i y v e1 e2 e3 => ?_⟩, fun y c e => ?_, e0.hok.fresh (Nat.le_refl _), fun y c e => ?_, fun q hq => absurd (show q ∈ ([] : List (Addr × Obj)) ++ [] from hq) (by simp), e0.hok.kept kp, I.len⟩
  · have hy : scope.names.lookup y = some .cell ∨ scope.names.lookup y = some .free := hy
    rcases hy with hy | hy
    · exact absurd rfl (L.own _ (PySem.mem_of_lookup hy)).2
    · exact look hy
  · have z : false = true := z
    cases z
  · have e3 : Vis scope y := e3
    rcases e3 with k | k | k
    · have q := (L.own _ (PySem.mem_of_lookup k)).1 rfl
      have q : y = z := q
      subst q
      exact absurd (List.mem_of_getElem? e1) L.no
    · exact absurd rfl (L.own _ (PySem.mem_of_lookup k)).2
    · obtain ⟨m, hn, hl⟩ := I.loc
      have hvis : Vis X.env.scope y := (L.free _ (PySem.mem_of_lookup k) rfl).elim (fun k => .inr (.inl k)) (fun k => .inr (.inr k))
      obtain ⟨w', r, q⟩ := hl i y v e1 e2 hvis
      obtain ⟨c2, h2⟩ := look k
      refine ⟨w', r, .inr ⟨.inr k, c2, h2, ?_⟩⟩
      have c1 := cm h2
      rcases q with ⟨k', _⟩ | ⟨_, c3, e', z⟩
      · have k' : X.env.scope.names.lookup y = some .local := k'
        rcases L.free _ (PySem.mem_of_lookup k) rfl with k2 | k2 <;> rw [show X.env.scope.names.lookup y = _ from k2] at k' <;> cases k'
      · rw [c1] at e'
        cases e'
        exact cellK (I.freeC y _ c1) z
  · obtain ⟨w', z⟩ := I.cell y c (cm e)
    exact ⟨w', cellK (I.freeC y c (cm e)) z⟩
  · obtain ⟨v, o, ho, hd⟩ := I.cell y c (cm e)
    exact un.free c o ho (I.freeC y c (cm e)) (by simp)
end
section
variable {X : Cx} {pins : List (Addr × Obj)} {σ : L2.St} {H : Hp} {s : Shared}
/-- a(), a what the def got -/
theorem pe_actF {Nd : List Str} {qd : Str} {sd : Scope} {gd f cA T0 : Addr} {cd pmv ct doc dv : Value} {pr : Arguments} {bd : Expr} {scope : Scope} {k i : Nat} {a z : Str} {pn : List (Addr × Obj)} {xe : Value → Shared → Prop} {W : WX} {b : EM} {pa pb : Pos}
    (I : L2.Inv X pins σ H s) (L : LamF X.N X.env.scope scope z)
    (hf : s.heap.get? f = some (PySem.W.kdv_obj "<lambda>" (X.env.qual ++ "<lambda>") pr (.expr bd) scope (cloFrom X.env.cells scope.names []) (.ref T0) doc pmv cA ct)) (hfn : H f = none) (hfr : f ∉ frs X.stack)
    (hT : s.heap.get? T0 = some (PySem.W.kdv_tup [dv])) (hTn : H T0 = none) (hTf : T0 ∉ frs X.stack)
    (hbind : ∀ s' : Shared, s'.heap.get? T0 = some (PySem.W.kdv_tup [dv]) → BindsTo s' (PySem.W.kdv_fn "<lambda>" (X.env.qual ++ "<lambda>") pr (.expr bd) scope (cloFrom X.env.cells scope.names []) (.ref T0) doc pmv (.ref cA) ct) ⟨[], []⟩ [(z, dv)])
    (tk : Takes ((cxOf C8.CX0 X.prog X.w X.K X.mg X.base Nd qd sd gd cd X.A X.stack s H C8.E0).tr pn xe) W) (hr : RoomG (k + 1) (X.A.deeper (envOfC qd sd s.heap.objs.size gd cd)))
    (hb : ∀ (A : Around) (outer : List PySem.Env) (s' : Shared) (H' : Hp) (E : XK), RoomG k (A.deeper (lamEnv X scope s'.heap.objs.size f cA)) → PX (lamCx X A outer s' H' E scope f cA) (fun cls d _ H'' => E cls d H'') bd b)
    (hN : Nd[i]? = some a) (hv : Vis sd a) (h1 : (a == ("__debug__" : Str)) = false := by decide) (h2 : (a == ("__classdict__" : Str)) = false := by decide) :
    PE ((cxOf C8.CX0 X.prog X.w X.K X.mg X.base Nd qd sd gd cd X.A X.stack s H C8.E0).tr pn xe) (.Call (.Name a pa) [] [] pb)
      (fun τ G Q => τ[i]? = some (some (.ref f)) ∧ G cA = some (CodeO cA (X.env.qual ++ "<lambda>")) ∧ tE X.K (fun cls d _ G' => W cls d τ G') b σ G Q) := by
  refine ⟨fun pinsZ sZ τ G Q IZ ⟨e1, e2, run⟩ => ?_⟩
  refine wpAny_Call_Name_kw (thn ((pe_var (pos := pa) (i := i) hN hv h1 h2).run pinsZ sZ τ G (fun v G1 => v = .ref f ∧ G1 = G) IZ ⟨.ref f, e1, rfl, rfl⟩) fun u s1 ⟨v, G1, I1, rv, z1, z2⟩ => ?_)
  subst z1
  subst z2
  obtain rfl : u = Value.ref f := rv
  have lam := I1.base.keep f _ hf hfn hfr (fun z => nomatch (show f ∈ ([] : List Addr) from z))
  have tup := I1.base.keep T0 _ hT hTn hTf (fun z => nomatch (show T0 ∈ ([] : List Addr) from z))
  refine PySem.W.callWith_F0 ⟨_, _, _, _, lam⟩ ?_
  obtain ⟨⟨oc, vs, t, hoc, hdc, hvc⟩, _, _⟩ := I1.hok cA _ e2
  have called : codeAny (model X.prog X.w) (X.A.deeper (envOfC qd sd s.heap.objs.size gd cd)) (.call (.ref f) ⟨[], []⟩) (CR (L2.CX X.prog X.w) (envOfC qd sd s.heap.objs.size gd cd :: X.stack) X.prog X.w G1 s1 Q (fun cls d G' => W cls d τ G')) s1 := by
    refine PySem.W.kla_callFunE hr.depth lam rfl L.co L.gen rfl ⟨cA, oc, vs, t, rfl, hoc, hdc, hvc⟩ ?_
    refine hbind _ tup _ _ _ _ ?_
    refine wpAny_newFunctionEnv (fun y hy => (L.own y hy).2) (fun y hy => by rw [List.mem_singleton.mp hy]; exact L.loc) (fun hp ns sb => ⟨I1.nolimit.fresh _ sb, ?_⟩) L.kind
    have J := lam_startF (E := fun cls d G' => W cls d τ G') (tk := s1.toks + ([(z, dv)] : List (Str × Value)).length) (c' := cA) (f := f) I L I1.env0 hr.hd I1.base ns fun b' o e => sb.extBut b' o (Nat.ne_of_lt (Heap.lt_size e)) (Heap.get?_push_of_some _ e)
    refine PySem.W.kla_codeExpr (wpAny_mono ((hb _ _ s1 G1 _ (hr.deeper _)).pe.run [] _ _ G1 Q J run) (fun v s' ⟨w', G', J', r, q⟩ => ?_) fun e s' q => q)
    exact ⟨w', G', J'.os, J'.bare, J'.base, J'.hok, r, q⟩
  refine wpAny_call (codeAny_mono called fun r s' q => ?_)
  cases r with
  | error e => exact passAt tk τ pinsZ G1 s1 e s' I1 q
  | ok fl =>
    cases fl with
    | ret u => exact I1.after q
    | next => exact q.elim
    | brk => exact q.elim
    | cont => exact q.elim
end
section
variable {X : Cx} {Z : WX}
/-- x(lambda z=d: body) -/
theorem po_lamF0 {x a z : Str} {g c P : Addr} {k j : Nat} {pg : Arguments} {bg : List Stmt} {sg : Scope} {dV kV doc pm cdv ct oc : Value} {an od : Option Addr} {osl : Array (Option Value)} {Ng : List Str} {params : Arguments} {body : Expr} {scope : Scope} {p lpos pos : Pos} {d : Expr}
    {ds : List Nat} {b : EM} {bb : PV → ActF → SM} (hg : Gl X x) (hm : X.mg x = some (.ref g)) (hk : PySem.W.keepIn X.K (.ref g) = true)
    (lk : X.K.lookup g = some ⟨oc, od, .func (PySem.W.fnOf x x pg bg sg dV kV doc pm an cdv ct), osl⟩) (hcg : PySem.W.codeIn X.K cdv x = true) (hbi : L2.Binds X.K (PySem.W.fnOf x x pg bg sg dV kV doc pm an cdv ct) [a] []) (Sg : FnScope Ng [a] sg) (hNg : Ng[0]? = some a) (hva : Vis sg a)
    (hG : ∀ (L : PV) (act : ActF) (s : Shared) (H : Hp), RoomG (k + 1) (X.A.deeper (envOfC x sg s.heap.objs.size g cdv)) → (∀ (W : WX) (pn : List (Addr × Obj)) (xe : Value → Shared → Prop) (pa pb : Pos), Takes ((cxOf C8.CX0 X.prog X.w X.K X.mg X.base Ng x sg g cdv X.A X.stack s H C8.E0).tr pn xe) W → PO ((cxOf C8.CX0 X.prog X.w X.K X.mg X.base Ng x sg g cdv X.A X.stack s H C8.E0).tr pn xe) W (.Call (.Name a pa) [] [] pb) (actO L 0 act)) →
      PSsX (cxOf C8.CX0 X.prog X.w X.K X.mg X.base Ng x sg g cdv X.A X.stack s H C8.E0).nox (fun _ _ _ _ => False) bg (bb L act))
    (TB : TabB X.base X.mg c P) (hcode : X.env.code = .ref c) (hr : RoomG (k + 2) X.A) (L : LamF X.N X.env.scope scope z) (hk0 : params.kw_defaults = []) (hdd : params.defaults = [d]) (hev : ∀ (M : Model) (A : Around) (Q : Value → Shared → Prop) (E : Value → Shared → Prop) (s : Shared), (∀ dv t, Q dv { s with toks := t }) → wpAny M A (eval d X.env) Q E s)
    (hbind : ∀ (q : Str) (cl : List (Str × Addr)) (T0 : Addr) (dv doc pm cv ctv : Value) (s' : Shared), s'.heap.get? T0 = some (PySem.W.kdv_tup [dv]) → BindsTo s' (PySem.W.kdv_fn "<lambda>" q params (.expr body) scope cl (.ref T0) doc pm cv ctv) ⟨[], []⟩ [(z, dv)])
    (hbody : ∀ (A : Around) (outer : List PySem.Env) (s : Shared) (H : Hp) (E : XK) (f c' : Addr), RoomG k (A.deeper (lamEnv X scope s.heap.objs.size f c')) → PX (lamCx X A outer s H E scope f c') (fun cls d _ H' => E cls d H') body b)
    (hdb : (x == ("__debug__" : Str)) = false := by decide) (hd : (a == ("__debug__" : Str)) = false := by decide) (hcd : (a == ("__classdict__" : Str)) = false := by decide) :
    PO X Z (.Call (.Name x p) [.Lambda params body scope lpos] [] pos) (lamO j P (X.env.qual ++ "<lambda>") X.N.length ds (bodyA Ng.length bb) b) := by
  refine ⟨⟨fun pins s σ H Q I ⟨W, st, R, h⟩ => ?_⟩⟩
  unfold lamO at h
  cases ec : capS ds st with
  | none => simp only [ec] at h; exact h.elim
  | some r =>
  obtain ⟨ps, s1⟩ := r
  simp only [ec] at h
  obtain ⟨W1, vs, st1, R1, rvs, caps⟩ := capS_ok R ec
  split at h
  case h_2 => exact h.elim
  rename_i P' q' et
  by_cases hPq : P' = P ∧ q' = X.env.qual ++ "<lambda>"
  case neg => rw [if_neg hPq] at h; exact h.elim
  rw [if_pos hPq] at h
  obtain ⟨rfl, rfl⟩ := hPq
  split at h
  case isFalse => exact h.elim
  rename_i all
  have hlt : j < W1.S.length := by rw [← R1.t.len]; exact (List.getElem?_eq_some_iff.mp et).1
  have tabS : TabS H P' (X.env.qual ++ "<lambda>") := by
    obtain ⟨e0, ps0, y1, y2⟩ : W1.S[j] = P' ∧ ∃ ps, H W1.S[j] = some (.tbl ps) ∧ TabOk (W1.m H) (X.env.qual ++ "<lambda>") ps := R1.t.at_ j _ W1.S[j] et (List.getElem?_eq_getElem hlt)
    rw [e0] at y1
    refine ⟨ps0, y1, y2.1, fun ps1 cv hcv => ?_⟩
    obtain ⟨c0, z1, z2⟩ := y2.2 ps1 cv hcv
    exact ⟨c0, z1, (msk_some.mp z2).2⟩
  refine wpAny_Call_Name_kw (ld_glob I hg hm ?_ hdb)
  refine PySem.W.callWith_K (h₀ := X.base) I.ok.mod.kin hk ?_ (by rfl) (by rfl)
  show wpAny _ _ (spliced ((false, eval (.Lambda params body scope lpos) X.env) :: backTo pos (starEach [] X.env))) _ _ s
  refine Calls.spliced_cons (lam_makeF I TB hcode tabS hk0 hdd hev (L.has I.ok) fun f cA T0 pmv ctv doc dv H1 s' I1 grew hf hfn hfr hT hTn hTf => ?_)
  refine Calls.spliced_nil ⟨I1.kIn, ?_⟩
  obtain ⟨W2, st2, R2, hcA⟩ := grew_step R1 et grew
  have lv : RV X.K W2 H1 (.lam f cA (X.env.qual ++ "<lambda>") ps vs) (.ref f) := by
    unfold RV Rep
    exact ⟨rfl, hcA, st2.rvs rvs⟩
  have hlen : X.N.length = σ.length := I.len.symm
  have h := Post.step (Post.step h st1) st2
  have done : codeAny (model X.prog X.w) X.A (.call (.ref g) ⟨[.ref f], []⟩) (CR C8.CX0 X.stack X.prog X.w H1 s' Q C8.E0) s' := by
    refine run_ofS (N := Ng) (ps := [a]) (us := [.ref f]) (vs := [.ref f]) lk hcg Sg hr.r I1.env0 (hbi s' [.ref f] I1.kIn rfl) (.cons rfl .nil) rfl fun hr0 => ?_
    have hr' : RoomG (k + 1) (X.A.deeper (envOfC x sg s'.heap.objs.size g cdv)) := ⟨hr0, hr.g⟩
    have walk := hG (.lam f cA (X.env.qual ++ "<lambda>") ps vs) (lamAct b X.N.length ds ps) s' H1 hr' fun W pn xe pa pb tk => by
      refine ⟨PE_imp (pe_actF (b := b) (i := 0) (pa := pa) (pb := pb) I1 L hf hfn hfr hT hTn hTf (fun s3 h3 => hbind _ _ _ _ _ _ _ _ s3 h3) tk hr' (fun A outer s2 H2 E hr2 => hbody A outer s2 H2 E f cA hr2) hNg hva hd hcd) fun τ G Q' ⟨Wd0, st0, R0, post⟩ => ?_⟩
      exact act_post rfl hlen caps R0 post
    refine ⟨_, walk.ps.nox, W2.call, ⟨frameE Ng.length [.lam f cA (X.env.qual ++ "<lambda>") ps vs], s1.t⟩, frame_start rfl R2.call (reps_cons ?_ reps_nil) ?_, ?_⟩
    · show Rep X.K W2.S (W2.call.m H1) _ _
      rw [call_m]
      exact lv
    · have := congrArg List.length Sg.pre
      rw [List.length_take] at this
      simp only [List.length_singleton] at this ⊢
      omega
    · have e0 := all (.lam f cA (X.env.qual ++ "<lambda>") ps vs)
      rw [← e0] at h
      unfold bodyA bodyF at h
      cases e : bb (.lam f cA (X.env.qual ++ "<lambda>") ps vs) (lamAct b X.N.length ds ps) ⟨frameE Ng.length [.lam f cA (X.env.qual ++ "<lambda>") ps vs], s1.t⟩ with
      | bad => rw [e] at h; exact h.elim
      | exc y s2 => rw [e] at h; exact h.elim
      | ok fl s2 =>
        rw [e] at h
        cases fl with
        | nx => exact fun σ' W' H' stp R' => h .non _ H' (stp.back R2) (R2.back stp R'.t) (show RV X.K (W2.back W') H' .non .non from rv_non)
        | bk => exact h.elim
        | ct => exact h.elim
        | rt p fr =>
          intro σ' v W' H' stp R' ro
          refine h v _ H' (stp.back R2) (R2.back stp R'.t) (rO_back R2 stp R'.t ?_)
          cases fr with
          | false => exact ro
          | true =>
            obtain ⟨a0, e1, e2, e3, _⟩ := ro
            exact ⟨a0, e1, e2, e3⟩
  refine wpAny_call (codeAny_mono done fun r s2 q => ?_)
  cases r with
  | error e => exact (show False from q).elim
  | ok fl =>
    cases fl with
    | ret u => exact I1.after q
    | next => exact q.elim
    | brk => exact q.elim
    | cont => exact q.elim
/-- the defaults' tuple is found: the parameter is bound -/
theorem bindF {q : Str} {cl : List (Str × Addr)} {T0 : Addr} {z : Str} {dv doc pm cv ctv : Value} {params : Arguments} {body : Expr} {scope : Scope} {s' : Shared} {k : Option (Array Value) → Sem (List (Str × Value))} (h : s'.heap.get? T0 = some (PySem.W.kdv_tup [dv]))
    (h1 : bindArgs (PySem.W.kdv_fn "<lambda>" q params (.expr body) scope cl (.ref T0) doc pm cv ctv) ⟨[], []⟩ = seqItems? (.ref T0) >>= k) (h2 : k (some #[dv]) = pure [(z, dv)]) :
    BindsTo s' (PySem.W.kdv_fn "<lambda>" q params (.expr body) scope cl (.ref T0) doc pm cv ctv) ⟨[], []⟩ [(z, dv)] := BindsTo.of_defaults rfl h rfl h1 h2
/-- x(lambda z=i: body), by the def's name -/
theorem po_lamFD {x z : Str} {c P : Addr} {k kk j : Nat} {params : Arguments} {body : Expr} {scope : Scope} {p lpos pos pd : Pos} {i : Int} {jj : _} {ds : List Nat} {b : EM} {sem : PV → ActF → DT → FR} {n : Nat} (D : LamDef X.prog X.w X.K X.mg X.base x kk sem) (hg : Gl X x)
    (TB : TabB X.base X.mg c P) (hcode : X.env.code = .ref c) (hr : RoomG (k + 2) X.A) (hk : kk ≤ k + 1) (L : LamF X.N X.env.scope scope z) (hk0 : params.kw_defaults = []) (hdd : params.defaults = [.Constant (.int i) jj pd])
    (hbind : ∀ (q : Str) (cl : List (Str × Addr)) (T0 : Addr) (dv doc pm cv ctv : Value) (s' : Shared), s'.heap.get? T0 = some (PySem.W.kdv_tup [dv]) → BindsTo s' (PySem.W.kdv_fn "<lambda>" q params (.expr body) scope cl (.ref T0) doc pm cv ctv) ⟨[], []⟩ [(z, dv)])
    (hbody : ∀ (A : Around) (outer : List PySem.Env) (s : Shared) (H : Hp) (E : XK) (f c' : Addr), RoomG k (A.deeper (lamEnv X scope s.heap.objs.size f c')) → PX (lamCx X A outer s H E scope f c') (fun cls d _ H' => E cls d H') body b)
    (hn : X.N.length = n := by rfl) (hdb : (x == ("__debug__" : Str)) = false := by decide) :
    PO X Z (.Call (.Name x p) [.Lambda params body scope lpos] [] pos) (lamO j P (X.env.qual ++ "<lambda>") n ds sem b) := by
  obtain ⟨a, N, g, pg, bg, sg, dV, kV, doc, pm, cdv, ct, oc, an, od, osl, bb, hm, kp, lk, hcd, hbi, S, hN, hv, h1, h2, rfl, hG⟩ := D.ex
  subst hn
  exact po_lamF0 hg hm kp lk hcd hbi S hN hv (fun L act s H hr' ac => hG X.A X.stack s H L act (hr'.mono hk) ac) TB hcode hr L hk0 hdd (fun M A Q E s h => wpAny_Constant_int (h _ _)) hbind hbody hdb h1 h2
end
end DR
set_option maxHeartbeats 4000000
/-! DR: own exception classes as facts by names: what is asked of the head, what it gives. -/
namespace DR
open PySem PySem.Spec PyProof.Rows L2
open PySem.W (Frag)
/-- the part that is looked at by a Bool: C the class -/
def oexB (K : Frag) (C : Addr) : Bool :=
  (match K.lookup C with
    | some ⟨.type t, _, .cls cd, sl⟩ => (match cd.mro, sl.toList with
      | .ref C' :: bm, [_, _, _, _, some (.builtin n), _] => decide (t = "type") && (decide (C' = C) && (decide (n = "ValueError.__new__") && (!cd.hasDel && (cd.hasDict && PySem.HandSPX.refsVE bm))))
      | _, _ => false)
    | _ => false) &&
  (decide (PySem.W.findIn K (.ref C) "__setattr__" = some (some (.builtin "object.__setattr__"))) && (decide (PySem.W.subIn K (.ref C) (.type "BaseException") = some true) && (decide (PySem.W.typeIn K (.ref C) = some (.type "type")) && PySem.W.keepIn K (.ref C))))
theorem oex_ok {K : Frag} {C : Addr} (h : oexB K C = true) : OexC K C := by
  unfold oexB at h
  rw [Bool.and_eq_true, Bool.and_eq_true, Bool.and_eq_true, Bool.and_eq_true] at h
  obtain ⟨h1, h2, h3, h4, h5⟩ := h
  refine ⟨?_, of_decide_eq_true h2, of_decide_eq_true h3, of_decide_eq_true h4, h5⟩
  split at h1
  · rename_i t dd cd sl ho
    split at h1
    · rename_i C' bm k0 k1 k2 k3 n k5 hm hs
      rw [Bool.and_eq_true, Bool.and_eq_true, Bool.and_eq_true, Bool.and_eq_true, Bool.and_eq_true] at h1
      obtain ⟨a1, a2, a3, a4, a5, a6⟩ := h1
      have a1 := of_decide_eq_true a1
      have a2 := of_decide_eq_true a2
      have a3 := of_decide_eq_true a3
      subst a1 a2 a3
      obtain ⟨nm, bs, mro, ns, qn, hd, sn, sub, ab, col, del⟩ := cd
      dsimp only at hm a4 a5
      have del0 : del = false := by simpa using a4
      subst hm del0 a5
      have hsl : sl = #[k0, k1, k2, k3, some (.builtin "ValueError.__new__"), k5] := by
        obtain ⟨l⟩ := sl
        simp only at hs
        rw [hs]
      subst hsl
      exact ⟨nm, qn, ns, bs, bm, sn, sub, ab, col, dd, k0, k1, k2, k3, k5, ho, a6⟩
    · cases h1
  · cases h1
/-- the maker as it is seen: names, parameters, body, scope, the closure's names -/
abbrev InV : Type := Option (Str × Str × Arguments × FuncBody × Scope × Addr × List Str × Value × Addr)
def inObs (K : Frag) (f : Addr) : InV := match K.lookup f with
  | some ⟨_, _, .func fd, _⟩ => some (fd.name, fd.qualname, fd.params, fd.body, fd.scope, fd.globals, fd.closure.map (·.1), fd.defaults, fd.builtins)
  | _ => none
/-- a class: its name, its maker's text -/
structure XcD where
  name : Str
  qual : Str
  params : Arguments
  body : List Stmt
  scope : Scope
def XcD.val (d : XcD) : InV := some ("__init__", d.qual, d.params, .stmts d.body, d.scope, mainGlobals, ["__class__"], .none, builtinsNs)
def XcD.fI (d : XcD) (K : Frag) : Addr := He.ma K (He.ga K d.name) "__init__"
/-- the code object, the cell of a maker -/
def codC (K : Frag) (f : Addr) : Addr := match K.lookup f with
  | some ⟨_, _, .func fd, _⟩ => (match fd.code with
    | .ref c => c
    | _ => 0)
  | _ => 0
def celC (K : Frag) (f : Addr) : Addr := match K.lookup f with
  | some ⟨_, _, .func fd, _⟩ => (match fd.closure with
    | [(_, c)] => c
    | _ => 0)
  | _ => 0
def XcD.ok (file : Str) (K : Frag) (d : XcD) : Bool :=
  oexB K (He.ga K d.name) && (decide (PySem.W.findIn K (.ref (He.ga K d.name)) "__init__" = some (some (.ref (d.fI K)))) && (decide (PySem.W.typeIn K (.ref (d.fI K)) = some (.type "function")) &&
  ((match K.lookup (d.fI K) with
    | some ⟨_, _, .func fd, _⟩ => (match fd.code with
      | .ref _ => true
      | _ => false)
    | _ => false) && (PySem.W.codeIn K (.ref (codC K (d.fI K))) d.qual &&
  ((match K.lookup (codC K (d.fI K)) with
    | some ⟨_, _, .fields vs, _⟩ => (match (vs[2]? : Option Value) with
      | some (Value.str fl _) => decide (file = fl)
      | _ => false)
    | _ => false) &&
  ((match K.lookup (celC K (d.fI K)) with
    | some ⟨_, _, .cell (some (.ref C)), _⟩ => decide (C = He.ga K d.name)
    | _ => false) &&
  (decide (PySem.W.ks_superIn K (He.ga K d.name) (He.ga K d.name) "__init__" = some (some (.builtin "ValueError.__init__"))) && (decide (PySem.W.subIn K (.ref (He.ga K d.name)) (.type "ValueError") = some true) &&
  (decide (PySem.W.mroIn K (He.ga K d.name) (.ref (He.ga K d.name)) = some true) && decide (PySem.W.nsIn K cStatics "thirdparty.any" = some none))))))))))
theorem XcD.xck {P : Program} {K : Frag} {d : XcD} (h : d.ok P.main.file K = true) (e : inObs K (d.fI K) = d.val) (top : (P.main.scope.names.lookup ("super" : Str)).isSome = false) :
    ∃ fI cc cda, XcK P K (He.ga K d.name) fI cc cda d.qual d.params d.body d.scope := by
  unfold XcD.ok at h
  simp only [Bool.and_eq_true] at h
  obtain ⟨h1, h2, h3, h4, h5, h6, h7, h8, h9, h10, h11⟩ := h
  have o := oex_ok h1
  unfold inObs at e
  cases q : K.lookup (d.fI K) with
  | none => rw [q] at e; cases e
  | some ob =>
    obtain ⟨oc, od, dt, osl⟩ := ob
    rw [q] at e h4
    cases dt with
    | func fd =>
      have e2 : (some (fd.name, fd.qualname, fd.params, fd.body, fd.scope, fd.globals, fd.closure.map (·.1), fd.defaults, fd.builtins) : InV) = (some ("__init__", d.qual, d.params, .stmts d.body, d.scope, mainGlobals, ["__class__"], .none, builtinsNs) : InV) := e
      obtain ⟨n1, n2, n3, n4, n5, n6, n7, n8, n9, n10, n11, n12, n13, n14, n15⟩ := fd
      simp only [Option.some.injEq, Prod.mk.injEq] at e2
      obtain ⟨g1, g2, g3, g4, g5, g6, g7, g9, g8⟩ := e2
      obtain ⟨cc, rfl⟩ : ∃ cc, n7 = [(("__class__" : Str), cc)] := by
        cases n7 with
        | nil => cases g7
        | cons p l =>
          simp only [List.map_cons, List.cons.injEq, List.map_eq_nil_iff] at g7
          obtain ⟨g7, rfl⟩ := g7
          exact ⟨p.2, by rw [← g7]⟩
      subst g1 g2 g3 g4 g5 g6 g8 g9
      have ecode : ∃ cda, n13 = .ref cda := by
        cases n13 with
        | ref c => exact ⟨c, rfl⟩
        | _ => cases h4
      obtain ⟨cda, rfl⟩ := ecode
      have hc : codC K (d.fI K) = cda := by unfold codC; rw [q]
      have hl : celC K (d.fI K) = cc := by unfold celC; rw [q]
      rw [hc] at h5 h6
      rw [hl] at h7
      refine ⟨d.fI K, cc, cda, { o with iC := of_decide_eq_true h2, tI := of_decide_eq_true h3, fnc := ⟨oc, od, n9, n10, n11, n12, n14, osl, q⟩, cdI := h5, cod := ?_, cel := ?_, up := of_decide_eq_true h8, subV := of_decide_eq_true h9, me := of_decide_eq_true h10, opq := of_decide_eq_true h11, top := top }⟩
      · cases q2 : K.lookup cda with
        | none => rw [q2] at h6; cases h6
        | some ob2 =>
          obtain ⟨ccl, cdd, dt2, ccs⟩ := ob2
          rw [q2] at h6
          cases dt2 with
          | fields vs =>
            simp only at h6
            cases q3 : vs[2]? with
            | none => rw [q3] at h6; cases h6
            | some v =>
              rw [q3] at h6
              cases v with
              | str fl tf => exact ⟨ccl, cdd, vs, ccs, fl, tf, rfl, q3, by simpa using of_decide_eq_true h6⟩
              | _ => cases h6
          | _ => cases h6
      · cases q2 : K.lookup cc with
        | none => rw [q2] at h7; cases h7
        | some ob2 =>
          obtain ⟨ccl, cdd, dt2, ccs⟩ := ob2
          rw [q2] at h7
          cases dt2 with
          | cell v =>
            cases v with
            | none => cases h7
            | some v =>
              cases v with
              | ref C =>
                have h7 : decide (C = He.ga K d.name) = true := h7
                rw [of_decide_eq_true h7]
                exact ⟨ccl, cdd, ccs, rfl⟩
              | _ => cases h7
          | _ => cases h7
    | _ => cases e
end DR
set_option maxHeartbeats 4000000
/-! DR: the head's Hook with exception classes and tables of code objects; own exceptions made, by names; the end with tables. -/
namespace DR
open PySem PySem.Spec PyProof.Rows L2 LamX
open PySem.W (Frag)
/-! ### the Hook -/
def fragY (n : Nat) (g : Addr → Option Obj) : Frag := He.frT g (cStatics :: He.asD g n)
def tabOkB (g : Addr → Option Obj) (K : Frag) (p : He.Defn) : Bool := PySem.W.codeHdIn K (He.cT K p).1 (He.cT K p).2 && (match g (He.cT K p).2 with
  | some o => He.emptyTab o
  | none => false)
def moreY (file : Str) (tf : List He.Defn) (xs : List XcD) (ex : Frag → Bool) (g : Addr → Option Obj) (K : Frag) : Bool := ex K && (xs.all (fun d => d.ok file K) && (decide (xs.map fun d => He.ga K d.name).Nodup && (decide (tf.map fun p => (He.cT K p).2).Nodup && tf.all (tabOkB g K))))
abbrev AlY : Type := He.AlD × (List InV × Bool)
def obsK (file : Str) (fa : List He.Fa) (fn : List He.DefD) (tf : List He.Defn) (xs : List XcD) (ex : Frag → Bool) (g : Addr → Option Obj) (K : Frag) : AlY := (He.obsD fa fn K, (xs.map fun d => inObs K (d.fI K), moreY file tf xs ex g K))
def obsY (n : Nat) (file : Str) (fa : List He.Fa) (fn : List He.DefD) (tf : List He.Defn) (xs : List XcD) (ex : Frag → Bool) (g : Addr → Option Obj) : AlY := obsK file fa fn tf xs ex g (fragY n g)
structure SaysY (file : Str) (fa : List He.Fa) (fn : List He.DefD) (tf : List He.Defn) (xs : List XcD) (ex : Frag → Bool) (h : Heap) (K : Frag) : Prop where
  more : ex K = true
  d : He.SaysD fa fn K
  cls : ∀ (i : Nat) (d : XcD), xs[i]? = some d → d.ok file K = true ∧ inObs K (d.fI K) = d.val
  ne : (xs.map fun d => He.ga K d.name).Nodup
  tn : (tf.map fun p => (He.cT K p).2).Nodup
  hd : ∀ p ∈ tf, PySem.W.codeHdIn K (He.cT K p).1 (He.cT K p).2 = true
  out : ∀ p ∈ tf, K.lookup (He.cT K p).2 = none
  empty : ∀ p ∈ tf, h.get? (He.cT K p).2 = some { cls := .none, data := .fields #[] }
theorem saysY_of {n : Nat} {file : Str} {fa : List He.Fa} {fn : List He.DefD} {tf : List He.Defn} {xs : List XcD} {ex : Frag → Bool} {h : Heap} (e : obsY n file fa fn tf xs ex h.get? = (He.valD fn, (xs.map XcD.val, true))) : SaysY file fa fn tf xs ex h (fragY n h.get?) := by
  have e1 : He.obsD fa fn (fragY n h.get?) = He.valD fn := congrArg (fun z : AlY => z.1) e
  have e2 : (xs.map fun d => inObs (fragY n h.get?) (d.fI (fragY n h.get?))) = xs.map XcD.val := congrArg (fun z : AlY => z.2.1) e
  have e3 : moreY file tf xs ex h.get? (fragY n h.get?) = true := congrArg (fun z : AlY => z.2.2) e
  unfold moreY at e3
  simp only [Bool.and_eq_true] at e3
  obtain ⟨k0, k1, k2, k3, k4⟩ := e3
  have tab : ∀ p ∈ tf, PySem.W.codeHdIn (fragY n h.get?) (He.cT (fragY n h.get?) p).1 (He.cT (fragY n h.get?) p).2 = true ∧ ∃ o, h.get? (He.cT (fragY n h.get?) p).2 = some o ∧ He.emptyTab o = true := fun p hp => by
    have z := List.all_eq_true.mp k4 p hp
    unfold tabOkB at z
    rw [Bool.and_eq_true] at z
    refine ⟨z.1, ?_⟩
    cases q : h.get? (He.cT (fragY n h.get?) p).2 with
    | none => rw [q] at z; exact absurd z.2 (by simp)
    | some o => rw [q] at z; exact ⟨o, rfl, z.2⟩
  refine ⟨k0, e1, fun i d hi => ⟨List.all_eq_true.mp k1 d (List.mem_of_getElem? hi), ?_⟩, of_decide_eq_true k2, of_decide_eq_true k3, fun p hp => (tab p hp).1, fun p hp => ?_, fun p hp => ?_⟩
  · have := congrArg (fun l : List InV => l[i]?) e2
    simp only [List.getElem?_map, hi, Option.map_some] at this
    exact Option.some.inj this
  · obtain ⟨_, o, q, z⟩ := tab p hp
    exact He.frT_none q z
  · obtain ⟨_, o, q, z⟩ := tab p hp
    rw [q, He.emptyTab_eq z]
def hookY (n : Nat) (file : Str) (fa : List He.Fa) (fn : List He.DefD) (tf : List He.Defn) (xs : List XcD) (ex : Frag → Bool) : PySem.W.Hook where
  α := AlY
  obs := fun s => obsY n file fa fn tf xs ex s.heap.get?
  val := fun _ => (He.valD fn, (xs.map XcD.val, true))
  says := fun _ h => ∃ K : Frag, K.In h ∧ SaysY file fa fn tf xs ex h K
  of := fun _ _ e => ⟨_, He.frT_in, saysY_of e⟩
  keeps := fun _ _ _ ⟨K, hK, c⟩ k => ⟨K, Frag.In.keeps hK k, ⟨c.more, c.d, c.cls, c.ne, c.tn, c.hd, c.out, fun p hp => k _ _ (c.empty p hp)⟩⟩
theorem obsY_eq {n : Nat} {file : Str} {fa : List He.Fa} {fn : List He.DefD} {tf : List He.Defn} {xs : List XcD} {ex : Frag → Bool} {g : Addr → Option Obj} {s : Shared} (h : ∀ a, g a = s.heap.get? a) : obsY n file fa fn tf xs ex g = (hookY n file fa fn tf xs ex).obs s := by
  obtain rfl : g = s.heap.get? := funext h
  rfl
/-! ### exceptions by names -/
def Mk0 (P : Program) (w : World) (K : Frag) (mg : Str → Option Value) (x : Str) (C : Addr) : Prop := ∀ (X : Cx) (p pos : Pos), X.prog = P → X.K = K → X.mg = mg → Room 1 X.A → Gl X x → PMk X (.Call (.Name x p) [] [] pos) (fun _ H Q => Q (.ref C) none H)
def Mk1 (P : Program) (w : World) (K : Frag) (mg : Str → Option Value) (x f : Str) (C : Addr) : Prop := ∀ (X : Cx) (e : Expr) (ta : TA) (p pos : Pos), X.prog = P → X.K = K → X.mg = mg → Room 1 X.A → Gl X x → PA X [e] ta → starEach [e] X.env = (false, eval e X.env) :: starEach [] X.env →
  PMk X (.Call (.Name x p) [e] [] pos) (fun σ H Q => ta σ H fun vs H1 => ∃ v, vs = [v] ∧ ∀ dx, H1 dx = none → Q (.ref C) (some dx) (upd H1 dx (.xd [(f, v)])))
section
variable {P : Program} {w : World} {K : Frag} {mg : Str → Option Value} {C fI cc cda : Addr} {x nm f qual : Str} {params : Arguments} {scope : Scope} {a : Arg} {j : Nat} {p0 p1 p2 p3 p4 p5 q1 q2 q3 q4 : Pos}
theorem Mk0.of (T : XcK P K C fI cc cda qual params [.Expr (.Call (.Attribute (.Call (.Name "super" p0) [] [] p1) "__init__" p2) [.Constant (.str nm) j p3] [] p4) p5] scope) (hs : mg "super" = none) (hm : mg x = some (.ref C)) (S : XcS params scope a) (he : SupE qual scope nm j p0 p1 p2 p3 p4 p5)
    (hb : ∀ (kV doc pm : Value) (an : Option Addr) (ct v : Value), bindArgs (PySem.W.ksFn "__init__" qual params [.Expr (.Call (.Attribute (.Call (.Name "super" p0) [] [] p1) "__init__" p2) [.Constant (.str nm) j p3] [] p4) p5] scope .none kV doc pm an (.ref cda) ct cc) ⟨[v], []⟩ = pure [(("self" : Str), v)])
    (hdb : (x == ("__debug__" : Str)) = false) : Mk0 P w K mg x C := fun X p pos e1 e2 e3 hr hg => by
  subst e1 e2 e3
  exact pmk_xc0 (k := 0) T S hs he hb hr hg hm hdb
theorem Mk1.of (T : XcK P K C fI cc cda qual params [.Expr (.Call (.Attribute (.Call (.Name "super" p0) [] [] p1) "__init__" p2) [.Constant (.str nm) j p3] [] p4) p5, .Assign [.Attribute (.Name "self" q1) f q2] (.Name f q3) q4] scope) (hs : mg "super" = none) (hm : mg x = some (.ref C)) (S : XcS params scope a) (he : SupE qual scope nm j p0 p1 p2 p3 p4 p5)
    (hb : ∀ (kV doc pm : Value) (an : Option Addr) (ct v u : Value), bindArgs (PySem.W.ksFn "__init__" qual params [.Expr (.Call (.Attribute (.Call (.Name "super" p0) [] [] p1) "__init__" p2) [.Constant (.str nm) j p3] [] p4) p5, .Assign [.Attribute (.Name "self" q1) f q2] (.Name f q3) q4] scope .none kV doc pm an (.ref cda) ct cc) ⟨[v, u], []⟩ = pure [(("self" : Str), v), (f, u)])
    (hfl : scope.names.lookup f = some .local) (hfs : f ≠ "self") (hno : PySem.W.findIn K (.ref C) f = some none) (hsw : ∀ (L fI cda cc : Addr), swapsWith (.Name f q3) (some (.Attribute (.Name "self" q1) f q2)) q4.line (PySem.W.ksEnv qual scope L fI (.ref cda) cc) = pure false) (hd : (f == ("__debug__" : Str)) = false)
    (hdb : (x == ("__debug__" : Str)) = false) : Mk1 P w K mg x f C := fun X e ta p pos e1 e2 e3 hr hg ha hst => by
  subst e1 e2 e3
  exact pmk_xc1 (k := 0) T S hs he hb hfl hfs hno hsw hd hr hg hm ha hdb hst
end
section
variable {X : Cx} {Z : WX} {w : World} {P : Program} {K : Frag} {mg : Str → Option Value} {x f : Str} {C : Addr} {p pos pos' : Pos} {e0 : Expr} {g : EM}
/-- raise X() -/
theorem ps_mk0 (M : Mk0 X.prog w X.K X.mg x C) (hc : X.calm = true) (tk : Takes X Z) (hr : RoomG 1 X.A) (hg : Gl X x) : PSX X Z (.Raise (some (.Call (.Name x p) [] [] pos)) none pos') (raiseS (exn0 C)) := ps_raise0 hc tk (M X p pos rfl rfl rfl hr.r hg)
/-- raise X(e) -/
theorem ps_mk1 (M : Mk1 X.prog w X.K X.mg x f C) (hc : X.calm = true) (tk : Takes X Z) (hr : RoomG 1 X.A) (hg : Gl X x) (he : PX X Z e0 g) (hst : starEach [e0] X.env = (false, eval e0 X.env) :: starEach [] X.env := by rfl) : PSX X Z (.Raise (some (.Call (.Name x p) [e0] [] pos)) none pos') (raiseS (exn1 C f g)) :=
  ps_raise1 hc tk he (fun ta ha => M X e0 ta p pos rfl rfl rfl hr.r hg ha hst) hst
end
end DR
set_option maxHeartbeats 4000000
/-! DR: what isinstance and except ask of an exception class, as a Bool. -/
namespace DR
open PySem PySem.Spec PyProof.Rows L2
open PySem.W (Frag)
def excB (K : Frag) (D : Addr) : Bool := decide (PySem.W.findIn K (.ref D) "__getattribute__" = some (some (.builtin "BaseException.__getattribute__"))) && (decide (PySem.W.findIn K (.ref D) "__getattr__" = some none) && (decide (PySem.W.subIn K (.ref D) (.type "BaseException") = some true) && (PySem.W.hasDictIn K D &&
  (decide (PySem.W.findIn K (.ref D) "__class__" = some (some (.builtin "object.__class__"))) && (decide (PySem.W.specialIn K (.builtin "object.__class__") "__get__" = some (some (.builtin "getset_descriptor.__get__"))) && (decide (PySem.W.takesIn K (.builtin "object.__class__") = some true) && decide (PySem.W.mroIn K D (.type "object") = some true)))))))
theorem excB_ok {K : Frag} {D : Addr} (h : excB K D = true) : ExcC K D := by
  unfold excB at h
  simp only [Bool.and_eq_true] at h
  obtain ⟨a1, a2, a3, a4, a5, a6, a7, a8⟩ := h
  exact ⟨of_decide_eq_true a1, of_decide_eq_true a2, of_decide_eq_true a3, a4, of_decide_eq_true a5, of_decide_eq_true a6, of_decide_eq_true a7, of_decide_eq_true a8⟩
/-- all classes ks against the class (or type) v: isinstance, except -/
def isB (K : Frag) (ks : List Addr) (v : Value) (cs : List Addr) : Bool := ks.all fun C => decide (PySem.W.kitOne K (.ref C) v = some (decide (C ∈ cs)))
def exB (K : Frag) (ks : List Addr) (v : Value) (cs : List Addr) : Bool := ks.all fun C => decide (PySem.W.exmOne K (.ref C) v = some (decide (C ∈ cs)))
theorem isB_ok {K : Frag} {ks cs : List Addr} {v : Value} (h : isB K ks v cs = true) : ∀ C ∈ ks, PySem.W.kitOne K (.ref C) v = some (decide (C ∈ cs)) := fun C hC => of_decide_eq_true (List.all_eq_true.mp h C hC)
theorem exB_ok {K : Frag} {ks cs : List Addr} {v : Value} (h : exB K ks v cs = true) : ∀ C ∈ ks, PySem.W.exmOne K (.ref C) v = some (decide (C ∈ cs)) := fun C hC => of_decide_eq_true (List.all_eq_true.mp h C hC)
theorem u1s {X : Cx} {k : Nat} {a : Addr} {pn : List (Addr × Obj)} (hr : RoomG k X.A) : (X.suite a pn).A.units + 1 < cLine := (show X.A.units + 1 < cLine from u1 hr)
theorem u64s {X : Cx} {k : Nat} {a : Addr} {pn : List (Addr × Obj)} (hr : RoomG k X.A) : (X.suite a pn).A.units + 64 < cLine := (show X.A.units + 64 < cLine from u64 hr)
/-- the classes' facts, by addresses -/
structure Xs (K : Frag) (ks : List Addr) : Prop where
  exc : ∀ C ∈ ks, ExcC K C
  nod : ks.Nodup
end DR
set_option maxHeartbeats 4000000
/-! DR: addresses of exception classes and of tables, as letters; a law's end with tables. -/
namespace DR
open PySem PySem.Spec PyProof.Rows L2
/-- A: the classes, n of them, unlike; B: the tables -/
class Adr (n : Nat) where
  A : Nat → Addr
  B : Nat → Addr
  ne : ∀ i j, i < n → j < n → A i = A j → i = j
/-- what a def's lambdas are called -/
abbrev lamQ (x : Str) : Str := (x ++ Str.ofString ".<locals>.") ++ "<lambda>"
theorem u65s {X : Cx} {k : Nat} {a : Addr} {pn : List (Addr × Obj)} (hr : RoomG k X.A) : (X.suite a pn).A.units + 65 < cLine := (show X.A.units + 65 < cLine from u65 hr)
theorem nodup_inj {l : List Addr} (nd : l.Nodup) {i j : Nat} (hi : i < l.length) (hj : j < l.length) (e : l.getD i 0 = l.getD j 0) : i = j := by
  simp only [List.getD_eq_getElem?_getD, List.getElem?_eq_getElem hi, List.getElem?_eq_getElem hj, Option.getD_some] at e
  have P := List.pairwise_iff_getElem.mp nd
  rcases Nat.lt_trichotomy i j with h | h | h
  · exact absurd e (P i j hi hj h)
  · exact h
  · exact absurd e.symm (P j i hj hi h)
/-- a def's code object -/
theorem code_of {K : PySem.W.Frag} {x nm qual : Str} {params : Arguments} {body : List Stmt} {scope : Scope} {dvs : List V} {kws : List (Str × V)} {fd : FuncData} (F : FunD K nm qual params body scope dvs kws (He.fAd K (x, none)) fd) : fd.code = .ref (He.cT K (x, none)).1 := by
  obtain ⟨oc, od, dV, kV, doc, pm, an, cdv, ct, osl, rfl, lk, hcd, _, _⟩ := F.ex
  obtain ⟨c, rfl⟩ := He.codeIn_ref hcd
  exact congrArg Value.ref (He.codeOf_eq lk rfl).symm
/-- the store of a law with tables -/
def tabS : List (Addr × Addr) → List Str → DT
  | p :: cs, q :: qs => .tab p.2 q :: tabS cs qs
  | _, _ => []
theorem tabS_len : ∀ {cs : List (Addr × Addr)} {qs : List Str}, cs.length = qs.length → (tabS cs qs).length = cs.length
  | [], [], _ => rfl
  | _ :: cs, _ :: qs, h => by
    unfold tabS
    rw [List.length_cons, List.length_cons, tabS_len (by simpa using h)]
theorem tabS_get : ∀ {cs : List (Addr × Addr)} {qs : List Str} {k : Nat} {p : PV}, (tabS cs qs)[k]? = some p → ∃ c q, cs[k]? = some c ∧ p = .tab c.2 q
  | [], _, k, p, h => by unfold tabS at h; simp at h
  | _ :: _, [], k, p, h => by unfold tabS at h; simp at h
  | c :: cs, q :: qs, 0, p, h => by
    unfold tabS at h
    exact ⟨c, q, rfl, by simpa using h.symm⟩
  | c :: cs, q :: qs, k + 1, p, h => by
    unfold tabS at h
    obtain ⟨d, r, h1, h2⟩ := tabS_get (cs := cs) (qs := qs) (k := k) (p := p) (by simpa using h)
    exact ⟨d, r, by simpa using h1, h2⟩
/-- a law that answers True, from a store of empty tables -/
theorem promiseT {K : PySem.W.Frag} {f : SemF} {cs : List (Addr × Addr)} {qs : List Str} (hq : cs.length = qs.length) (nd : (cs.map (·.2)).Nodup) (law : ∀ ns : List Int, ns.length ≤ 63 → ∃ t, f [.scr (ns.map .int)] (tabS cs qs) = .ok (.bl true) false t) (H : Hp) (a : Addr) (ns : List Int) (hl : ns.length ≤ 63)
    (hT : ∀ p ∈ cs, H p.2 = some (.tbl #[])) (hS : SqL K H a (ns.map V.int)) : spF K 1 f [.ref a] H (fun v _ => v = .bl true) fun _ _ _ => False := by
  obtain ⟨t, e⟩ := law ns hl
  have isT : ∀ b ∈ cs.map (·.2), H b = some (.tbl #[]) := fun b hb => by
    obtain ⟨p, hp, e⟩ := List.mem_map.mp hb
    rw [← e]
    exact hT p hp
  have aN : ∀ u : HO, (∀ ps, u ≠ .tbl ps) → ∀ b, H b = some u → b ∉ cs.map (·.2) := fun u hu b hb z => by
    have q := isT b z
    rw [hb] at q
    exact hu _ (Option.some.inj q)
  have hS2 : SqL K (Wd.m ⟨[], cs.map (·.2), []⟩ H) a (ns.map V.int) := by
    have L : Wd.L ⟨[], cs.map (·.2), []⟩ = cs.map (·.2) := by simp [Wd.L]
    refine hS.imp (fun r => ?_) id
    rcases r with r | ⟨o, r⟩
    · exact .inl (msk_some.mpr ⟨by rw [L]; exact aN _ (fun ps z => by cases z) a r, r⟩)
    · exact .inr ⟨o, msk_some.mpr ⟨by rw [L]; exact aN _ (fun ps z => by cases z) a r, r⟩⟩
  have nums : ∀ l : List Int, Reps K (cs.map (·.2)) (Wd.m ⟨[], cs.map (·.2), []⟩ H) (l.map PV.int) (l.map V.int) := fun l => by
    induction l with
    | nil => exact reps_nil
    | cons i l ih => exact reps_cons (by unfold Rep; rfl) ih
  refine ⟨rfl, ⟨[], cs.map (·.2), []⟩, tabS cs qs, [.scr (ns.map .int)], rfl, ⟨?_, fun k p a h1 h2 => ?_, nd, fun a h => (nomatch h), fun a h => (nomatch h), fun a h => (nomatch h), fun a _ h => (nomatch h), fun a h => (nomatch h)⟩, reps_cons ?_ reps_nil, ?_⟩
  · rw [tabS_len hq, List.length_map]
  · obtain ⟨c, q, h3, rfl⟩ := tabS_get h1
    rw [List.getElem?_map, h3] at h2
    cases h2
    refine ⟨rfl, #[], isT _ (List.mem_map.mpr ⟨c, List.mem_of_getElem? h3, rfl⟩), ?_, fun pos cv z => ?_⟩
    · first | trivial | exact (by decide) | simp [TriplesOk]
    · cases z
  · unfold Rep
    exact ⟨a, ns.map V.int, rfl, hS2, nums ns⟩
  · rw [e]
    exact fun v W' H' _ _ r => rv_bl_inv (K := K) (W := W') (H := H') r
end DR
/-! DR: what a def tells that calls what it got and catches the exception. -/
namespace DR
open PySem PySem.Spec PyProof.Rows L2
theorem sq_ok {a b : SM} {s s1 : DS} {r : Re Fl} (h1 : a s = .ok .nx s1) (h2 : b s1 = r) : seqS a b s = r := by
  unfold seqS
  rw [h1]
  exact h2
theorem sq_rt {a b : SM} {s s1 : DS} {p : PV} {fr : Bool} (h1 : a s = .ok (.rt p fr) s1) : seqS a b s = .ok (.rt p fr) s1 := by
  unfold seqS
  rw [h1]
  rfl
theorem act_exc {L : PV} {act : ActF} {x : Exn} {e : DE} {t : DT} {i : Nat} (h : act t = .exc x t) (h0 : e[i]? = some (.val L)) : exprS (plainE (actO L i act)) ⟨e, t⟩ = .exc x ⟨e, t⟩ := by
  unfold exprS plainE actO
  simp [callA, h, h0, Re.bind]
theorem try_exc {cs ks : List Addr} {i : Nat} {b u : SM} {x : Exn} {e e2 : DE} {t : DT} {fl : Fl} (h1 : x.C ∈ ks) (h2 : x.C ∈ cs) (hb : b ⟨e, t⟩ = .exc x ⟨e, t⟩) (hu : u ⟨e.set i (.val (xpv x)), t⟩ = .ok fl ⟨e2, t⟩) : tryS cs ks i b u ⟨e, t⟩ = .ok fl ⟨e2.set i .no, t⟩ := by
  unfold tryS
  rw [hb]
  simp only [if_pos h1, if_pos h2]
  unfold suiS
  rw [hu]
  rfl
/-- the handler tells the word -/
theorem word_rt {n i : Nat} {cs ks : List Addr} {u r : SM} {act : ActF} {x : Exn} {p : PV} {fr : Bool} {e2 : DE} (h1 : x.C ∈ ks) (h2 : x.C ∈ cs) (L : PV) (t : DT) (h : act t = .exc x t) (h0 : (frameE n [L])[0]? = some (.val L))
    (hu : u ⟨(frameE n [L]).set i (.val (xpv x)), t⟩ = .ok (.rt p fr) ⟨e2, t⟩) : bodyF n (seqS (tryS cs ks i (exprS (plainE (actO L 0 act))) u) r) [L] t = .ok p fr t := by
  unfold bodyF
  rw [sq_rt (try_exc h1 h2 (act_exc h h0) hu)]
theorem isx_at {ks cs : List Addr} {i : Nat} {C : Addr} {b : Bool} {fs : List (Str × PV)} {e : DE} {t : DT} {x : Bool} (he : e[i]? = some (.val (.exn C b fs))) (hC : C ∈ ks) (hx : decide (C ∈ cs) = x) : isxE ks cs (nameE i) ⟨e, t⟩ = .ok (.bl x) ⟨e, t⟩ := by
  have hn : nameE i ⟨e, t⟩ = .ok (.exn C b fs) ⟨e, t⟩ := by
    unfold nameE
    simp only [he]
  unfold isxE
  rw [hn]
  simp only [Re.bind, if_pos hC, hx]
theorem toB_bl (b : Bool) (s : DS) : toB (.bl b) s = .ok b s := rfl
end DR
set_option maxHeartbeats 4000000
/-! DR: repr of truth values, None, integers. -/
namespace DR
open PySem PySem.Spec PyProof.Rows L2
section
variable {X : Cx}
def reprI : G1 := fun p => match p with
  | .bl b => some (.str (if b = true then "True" else "False"))
  | .non => some (.str "None")
  | .int i => if i.natAbs.log2 < 1920 then some (.str (toString i)) else none
  | _ => none
theorem call_repr_bni : CallR X (.builtin "repr") (fun xs H Q => ((∃ b, xs = [.bl b] ∧ Q (.str (if b = true then "True" else "False")) H) ∨ (xs = [.non] ∧ Q (.str "None") H)) ∨ ∃ i, xs = [.int i] ∧ i.natAbs.log2 < 1920 ∧ Q (.str (toString i)) H) := by
  intro pins s σ H xs us Q I r h
  rcases h with h | h
  · exact call_repr_bn pins s σ H xs us Q I r h
  · exact SkE.call_repr_int pins s σ H xs us Q I r h
theorem u_reprI : Un1 X (.builtin "repr") (g1 reprI) := Un1.plain call_repr_bni fun W H p x res Q rx e k => by
  have pl : ∀ {p : PV}, (∀ b, p = .bl b → False) → True := fun _ => trivial
  cases p with
  | bl b =>
    cases bv_bl rx
    cases e
    exact .inl (.inl ⟨b, rfl, k _ rv_str⟩)
  | non =>
    rcases rx with rx | ⟨a, _, c⟩
    · unfold RV Rep at rx
      cases rx
      cases e
      exact .inl (.inr ⟨rfl, k _ rv_str⟩)
    · exact c.elim
  | int i =>
    rcases rx with rx | ⟨a, _, c⟩
    · unfold RV Rep at rx
      cases rx
      have e : (if i.natAbs.log2 < 1920 then some (PV.str (toString i)) else none) = some res := e
      by_cases hl : i.natAbs.log2 < 1920
      · rw [if_pos hl] at e
        cases e
        exact .inr ⟨i, rfl, hl, k _ rv_str⟩
      · rw [if_neg hl] at e
        cases e
    · exact c.elim
  | _ => simp [reprI] at e
end
end DR
set_option maxHeartbeats 4000000
/-! DR: repr of lists, tuples (where no guard is under way). -/
namespace DR
open PySem PySem.Spec PyProof.Rows L2
section
variable {X : Cx}
theorem call_reprD {k : Nat} (hr : RoomG k X.A) : CallR X (.builtin "repr") (fun xs H Q => ∃ (a : Addr) (d : PyData), xs = [.ref a] ∧ Dp X.K H (.ref a) d ∧ d.showable = true ∧ d.hasDict = false ∧ d.depth ≤ 62 ∧ d.shown.length ≤ sizeLine ∧ Q (.str d.shown) H) := by
  intro pins s σ H xs us Q I r h
  obtain ⟨a, d, rfl, hd, h1, h2, h3, h4, q⟩ := h
  rw [Vals.ref1 r]
  obtain ⟨as, rd⟩ := Dp.reads I d (.ref a) (.ref a) hd rfl
  exact PySem.repr_of_reads' rd h1 (fun e => by rw [h2] at e; cases e) hr.g (by have := hr.r.un; omega) (fun _ _ e => e) (fun h' u tk k => ⟨.str d.shown, H, I.kept (t' := tk) k, ⟨_, rfl⟩, q⟩) h4
theorem bv_dp {K : PySem.W.Frag} {W : Wd} {H : Hp} {p : PV} {x : V} {d : PyData} (b : BV K W H p x) (e : toD p = some d) : Dp K H x d := by
  rcases b with r | ⟨a, rfl, c⟩
  · exact rep_dp (msk_sub _ _) p x d r e
  · cases p with
    | lst ps =>
      obtain ⟨vs, h1, h2⟩ := c
      simp only [toD, Option.map_eq_some_iff] at e
      obtain ⟨ds, h3, rfl⟩ := e
      exact .lst (SqL.of h1) (reps_dp (msk_sub _ _) ps vs ds h2 h3)
    | _ => first | exact c.elim | (simp [toD] at e)
def shownOk (d : PyData) : Bool := d.showable && (!d.hasDict && (decide (d.depth ≤ 62) && decide (d.shown.length ≤ sizeLine)))
/-- repr of lists, tuples, ints, None, bools -/
def reprC : G1 := fun p => match p with
  | .lst ps => (toD (.lst ps)).bind fun d => if shownOk d = true then some (.str d.shown) else none
  | .tup c ps => (toD (.tup c ps)).bind fun d => if shownOk d = true then some (.str d.shown) else none
  | p => none
theorem u_reprC {k : Nat} (hr : RoomG k X.A) : Un1 X (.builtin "repr") (g1 reprC) := Un1.plain (call_reprD hr) fun W H p x res Q rx e k => by
  have fin : ∀ d, toD p = some d → (if shownOk d = true then some (PV.str d.shown) else none) = some res → (∃ a, x = .ref a) → ∃ (a : Addr) (d : PyData), [x] = [V.ref a] ∧ Dp X.K H (.ref a) d ∧ d.showable = true ∧ d.hasDict = false ∧ d.depth ≤ 62 ∧ d.shown.length ≤ sizeLine ∧ Q (.str d.shown) H := fun d hd e ⟨a, hx⟩ => by
    subst hx
    by_cases h : shownOk d = true
    · rw [if_pos h] at e
      cases e
      unfold shownOk at h
      simp only [Bool.and_eq_true, Bool.not_eq_true', decide_eq_true_eq] at h
      obtain ⟨h1, h2, h3, h4⟩ := h
      exact ⟨a, d, rfl, bv_dp rx hd, h1, h2, h3, h4, k _ rv_str⟩
    · rw [if_neg h] at e
      cases e
  have ref : (∃ ps, p = .lst ps) ∨ (∃ c ps, p = .tup c ps) → ∃ a, x = .ref a := fun h => by
    rcases rx with r | ⟨a, h1, _⟩
    · rcases h with ⟨ps, rfl⟩ | ⟨c, ps, rfl⟩
      · obtain ⟨a, vs, h1, _⟩ := rv_lst_inv r
        exact ⟨a, h1⟩
      · obtain ⟨a, vs, h1, _⟩ := rep_tup r
        exact ⟨a, h1⟩
    · exact ⟨a, h1⟩
  cases p with
  | lst ps =>
    obtain ⟨d, h1, h2⟩ := Option.bind_eq_some_iff.mp (show (toD (.lst ps)).bind _ = some res from e)
    exact fin d h1 h2 (ref (.inl ⟨ps, rfl⟩))
  | tup c ps =>
    obtain ⟨d, h1, h2⟩ := Option.bind_eq_some_iff.mp (show (toD (.tup c ps)).bind _ = some res from e)
    exact fin d h1 h2 (ref (.inr ⟨c, ps, rfl⟩))
  | _ => cases e
/-- repr -/
def reprD : O1 := fun p => (g1 reprI p).or (g1 reprC p)
theorem u_reprD {k : Nat} (hr : RoomG k X.A) : Un1 X (.builtin "repr") reprD := u_reprI.or (u_reprC hr)
end
end DR
set_option maxHeartbeats 4000000
/-! DR: zip of a list with a tuple, of a tuple with a list. -/
namespace DR
open PySem PySem.Spec PyProof.Rows L2
/-- a tuple (t) or a list -/
def SqB (t : Bool) (K : PySem.W.Frag) (H : Hp) (a : Addr) (xs : List V) : Prop := if t = true then SqT K H a xs else SqL K H a xs
def StB (t : Bool) (it l : Addr) (us : Array Value) (i : Nat) (h : Heap) : Prop := if t = true then h.IsTupleIter it l i ∧ h.IsTuple l us else h.IsListIter it l i ∧ h.IsList l us
def HB (t : Bool) (l : Addr) (us : Array Value) (h : Heap) : Prop := if t = true then h.IsTuple l us else h.IsList l us
def oB (t : Bool) (l : Addr) : Obj := if t = true then { cls := .type "tuple_iterator", data := .fields #[.ref l, .int 0 0] } else { cls := .type "list_iterator", data := .fields #[.ref l, .int 0 0] }
theorem drawsB {prog : Program} {w : World} {A : Around} (hh : A.handled = none) (t : Bool) (it l : Addr) (hne : l ≠ it) (us : Array Value) : Draws prog w A it [it, l] us.size (fun i v => us[i]? = some v) (StB t it l us) := by
  cases t with
  | true => exact Draws.tuple hh it l hne us
  | false => exact Draws.list hh it l hne us
theorem beginsB (t : Bool) (l : Addr) (us : Array Value) : Begins (.ref l) (oB t l) (HB t l us) := by
  cases t with
  | true => exact begins_tuple l us
  | false => exact begins_list l us
/-- the iterator alone -/
def StI (t : Bool) (it l : Addr) (i : Nat) (h : Heap) : Prop := if t = true then h.IsTupleIter it l i else h.IsListIter it l i
theorem StI.iter {t : Bool} {it l : Addr} {i : Nat} {h : Heap} (st : StI t it l i h) : ∃ o, h.get? it = some o ∧ ∃ vs, o.data = .fields vs := by
  cases t with
  | true => obtain ⟨o, e, _, d⟩ := (show h.IsTupleIter it l i from st); exact ⟨o, e, _, d⟩
  | false => obtain ⟨o, e, _, d⟩ := (show h.IsListIter it l i from st); exact ⟨o, e, _, d⟩
theorem StI.at {t : Bool} {it l : Addr} {i : Nat} {h h' : Heap} (st : StI t it l i h) (k : ∀ o, h.get? it = some o → h'.get? it = some o) : StI t it l i h' := by
  cases t with
  | true => exact (show h'.IsTupleIter it l i from Heap.IsTupleIter.at (show h.IsTupleIter it l i from st) k)
  | false => exact (show h'.IsListIter it l i from Heap.IsListIter.at (show h.IsListIter it l i from st) k)
theorem stB_of {t : Bool} {it l : Addr} {us : Array Value} {i : Nat} {h : Heap} (st : StI t it l i h) (hb : HB t l us h) : StB t it l us i h := by
  cases t with
  | true => exact ⟨st, hb⟩
  | false => exact ⟨st, hb⟩
theorem StB.i {t : Bool} {it l : Addr} {us : Array Value} {i : Nat} {h : Heap} (st : StB t it l us i h) : StI t it l i h := by
  cases t with
  | true => exact (show h.IsTupleIter it l i ∧ h.IsTuple l us from st).1
  | false => exact (show h.IsListIter it l i ∧ h.IsList l us from st).1
theorem StI.new {t : Bool} {it l : Addr} {h : Heap} (e : h.get? it = some (oB t l)) : StI t it l 0 h := by
  cases t with
  | true => exact (show h.IsTupleIter it l 0 from ⟨_, e, rfl, rfl⟩)
  | false => exact (show h.IsListIter it l 0 from ⟨_, e, rfl, rfl⟩)
theorem SqB.ok {X : Cx} {pins : List (Addr × Obj)} {σ : L2.St} {H : Hp} {s : Shared} {t : Bool} {a : Addr} {xs : List V} (I : Inv X pins σ H s) (h : SqB t X.K H a xs) : ∃ its : List Value, Vals xs its ∧ HB t a its.toArray s.heap ∧ a < s.heap.objs.size := by
  cases t with
  | true =>
    obtain ⟨its, rv, p, _⟩ := I.tuple (show SqT X.K H a xs from h)
    exact ⟨its, rv, p, by obtain ⟨o, e, _⟩ := id p; exact Heap.lt_size e⟩
  | false =>
    obtain ⟨its, rv, p, _⟩ := I.list (show SqL X.K H a xs from h)
    exact ⟨its, rv, p.isList, p.lt⟩
theorem SqB.inj {X : Cx} {pins : List (Addr × Obj)} {σ : L2.St} {H : Hp} {s : Shared} {t : Bool} {a : Addr} {xs ys : List V} (I : Inv X pins σ H s) (h : SqB t X.K H a xs) (g : SqB t X.K H a ys) : xs = ys := by
  cases t with
  | true => exact I.tuple_inj (show SqT X.K H a xs from h) (show SqT X.K H a ys from g)
  | false => exact I.list_inj (show SqL X.K H a xs from h) (show SqL X.K H a ys from g)
def ItzM (K : PySem.W.Frag) (t u : Bool) (a b : Addr) : It :=
  ⟨fun i H => ∃ (xs ys : List V) (x y : V), SqB t K H a xs ∧ SqB u K H b ys ∧ xs[i]? = some x ∧ ys[i]? = some y,
    fun i H v H' => ∃ T x y, v = .ref T ∧ H T = none ∧ H' = upd H T (.tup [x, y]) ∧ (∀ xs, SqB t K H a xs → xs[i]? = some x) ∧ ∀ ys, SqB u K H b ys → ys[i]? = some y,
    fun i H => ∃ xs ys : List V, SqB t K H a xs ∧ SqB u K H b ys ∧ i = min xs.length ys.length⟩
theorem sepB {z TI TO i1 i2 a b : Addr} (D : ZipApart z TI TO i1 i2 a b) : ZipSep2 z TI TO i1 i2 [i1, a] [i2, b] where
  TIz := D.TIz
  TOz := D.TOz
  TITO := D.TITO
  TIi1 := D.TIi1
  mem1 := by simp
  zf1 := by simp [Ne.symm D.i1z, Ne.symm D.l1z]
  Tf1 := by simp [D.TOi1, Ne.symm D.l1TO]
  TIi2 := D.TIi2
  mem2 := by simp
  zf2 := by simp [Ne.symm D.i2z, Ne.symm D.l2z]
  Tf2 := by simp [D.TOi2, Ne.symm D.l2TO]
  sep1_2 := by simp [D.i12, Ne.symm D.l2i1]
  sep2_1 := by simp [Ne.symm D.i12, Ne.symm D.l1i2]
theorem turn_zipM {P : Program} {w : World} {K : PySem.W.Frag} {elts : List Expr} {kk : Nat} {tpos : Pos} {t u : Bool} {a b z TI TO i1 i2 : Addr} (D : ZipApart z TI TO i1 i2 a b) :
    Turn P w K (.Tuple elts kk tpos) (ItzM K t u a b) [z, TI, TO, i1, i2] z (fun i h => IsZip h z TI TO .none ∧ IsTupOf2 h TI (.ref i1) (.ref i2) ∧ (∃ x y, IsTupOf2 h TO x y) ∧ StI t i1 a i h ∧ StI u i2 b i h) where
  mem := by simp
  obj := fun i h st c hc => by
    obtain ⟨hz, hTI, ⟨x, y, hTO⟩, s1, s2⟩ := st
    obtain ⟨o1, e1, v1, d1⟩ := s1.iter
    obtain ⟨o2, e2, v2, d2⟩ := s2.iter
    have e' : c = z ∨ c = TI ∨ c = TO ∨ c = i1 ∨ c = i2 := by simpa using hc
    rcases e' with q | q | q | q | q <;> rw [q]
    · exact ⟨_, hz, fun v q => nomatch q⟩
    · exact ⟨_, hTI, fun v q => nomatch q⟩
    · exact ⟨_, hTO, fun v q => nomatch q⟩
    · exact ⟨o1, e1, fun v q => by rw [d1] at q; cases q⟩
    · exact ⟨o2, e2, fun v q => by rw [d2] at q; cases q⟩
  keep := fun i h h' st k => by
    obtain ⟨hz, hTI, ⟨x, y, hTO⟩, s1, s2⟩ := st
    exact ⟨k z (by simp) _ hz, k TI (by simp) _ hTI, ⟨x, y, k TO (by simp) _ hTO⟩, s1.at fun o q => k i1 (by simp) o q, s2.at fun o q => k i2 (by simp) o q⟩
  item := by
    intro X hP hw hK hc i pins s σ H E I hf st hg
    subst hP hw hK
    obtain ⟨hz, hTI, ⟨x0, y0, hTO⟩, s1, s2⟩ := st
    obtain ⟨xs, ys, x, y, hqx, hqy, hx, hy⟩ := hg
    obtain ⟨its, rv, p, _⟩ := hqx.ok I
    obtain ⟨its2, rv2, p2, _⟩ := hqy.ok I
    obtain ⟨v, hv, ru⟩ := rv.get hx
    obtain ⟨v2, hv2, ru2⟩ := rv2.get hy
    have l1 : i < its.toArray.size := by rw [List.size_toArray]; exact (List.getElem?_eq_some_iff.mp hv).1
    have l2 : i < its2.toArray.size := by rw [List.size_toArray]; exact (List.getElem?_eq_some_iff.mp hv2).1
    have hzl : z < s.heap.objs.size := Heap.lt_size hz
    refine wpAny_pyNext_zipD2_item (sepB D) (drawsB (A := X.A.in1) (by exact I.ok.hd hc) t i1 a D.l1i1 its.toArray) (drawsB (A := X.A.in1) (by exact I.ok.hd hc) u i2 b D.l2i2 its2.toArray) hz hTI hTO (stB_of s1 p) (stB_of s2 p2) l1 l2 fun z1 z2 h' tk q1 q2 z' TO' t1 t2 hT hsz hk => ?_
    obtain rfl : z1 = v := by
      have q1 : its[i]? = some z1 := by simpa using q1
      rw [hv] at q1
      exact (Option.some.inj q1).symm
    obtain rfl : z2 = v2 := by
      have q2 : its2[i]? = some z2 := by simpa using q2
      rw [hv2] at q2
      exact (Option.some.inj q2).symm
    refine ⟨_, rfl, wpAny_letOwnedTupleGo_zip (s := { s with heap := h', toks := tk }) z' fun h'' z'' sb => ?_⟩
    have hT2 : h''.get? s.heap.objs.size = some { cls := .type "tuple", data := .seq #[z1, z2] } := (sb.2 _ (Nat.ne_of_gt hzl)).trans hT
    have new : ObjOk X.prog X.w (upd H s.heap.objs.size (.tup [x, y])) h'' s.heap.objs.size (.tup [x, y]) :=
      ⟨by show 2 ≤ sizeLine; decide, [z1, z2], .cons ru (.cons ru2 .nil), ⟨_, hT2, rfl, _, rfl⟩⟩
    have I1 : Inv X pins σ (upd H s.heap.objs.size (.tup [x, y])) { s with heap := h'', toks := tk } :=
      I.turnedNew (t' := tk) (ch := [z, TI, TO, i1, i2]) (fun c o hb q => (sb.2 c (fun q' => hb (by simp [q']))).trans (hk c o (fun q' => hb (by simp [q'])) (fun q' => hb (by simp [q'])) (fun q' => hb (by simp [q'])) (fun q' => hb (by simp [q'])) q)) hf (Nat.le_refl _) new
    refine ⟨.ref s.heap.objs.size, _, I1, rfl, ⟨_, x, y, rfl, I.hok.fresh (Nat.le_refl _), rfl, fun l hl => by rw [hl.inj I hqx]; exact hx, fun l hl => by rw [hl.inj I hqy]; exact hy⟩, ⟨z'', ?_, ⟨z1, z2, ?_⟩, ?_, ?_⟩, fun c hcm => ?_⟩
    · exact (sb.2 _ D.TIz).trans (hk _ _ D.TIz D.TITO D.TIi1 D.TIi2 hTI)
    · exact (sb.2 _ D.TOz).trans TO'
    · exact t1.i.at fun o q => (sb.2 _ D.i1z).trans q
    · exact t2.i.at fun o q => (sb.2 _ D.i2z).trans q
    · have hlt : c < s.heap.objs.size := by
        have e' : c = z ∨ c = TI ∨ c = TO ∨ c = i1 ∨ c = i2 := by simpa using hcm
        rcases e' with q | q | q | q | q <;> rw [q]
        · exact hzl
        · exact Heap.lt_size hTI
        · exact Heap.lt_size hTO
        · obtain ⟨_, e1, _⟩ := s1.iter; exact Heap.lt_size e1
        · obtain ⟨_, e2, _⟩ := s2.iter; exact Heap.lt_size e2
      rw [upd_ne (Nat.ne_of_lt hlt)]
      exact (hf c hcm).1
  done := by
    intro X hP hw hK hc i pins s σ H E I hf st hg
    subst hP hw hK
    obtain ⟨hz, hTI, ⟨x0, y0, hTO⟩, s1, s2⟩ := st
    obtain ⟨xs, ys, hqx, hqy, hend⟩ := hg
    obtain ⟨its, rv, p, _⟩ := hqx.ok I
    obtain ⟨its2, rv2, p2, _⟩ := hqy.ok I
    have l1 : its.toArray.size = xs.length := by rw [List.size_toArray]; exact rv.length.symm
    have l2 : its2.toArray.size = ys.length := by rw [List.size_toArray]; exact rv2.length.symm
    exact wpAny_pyNext_zipD2_end (sepB D) (drawsB (A := X.A.in1) (by exact I.ok.hd hc) t i1 a D.l1i1 its.toArray) (drawsB (A := X.A.in1) (by exact I.ok.hd hc) u i2 b D.l2i2 its2.toArray) hz hTI hTO (stB_of s1 p) (stB_of s2 p2) (by omega) (by omega) (by omega) fun h' tk hk =>
      ⟨rfl, I.turnedL (t' := tk) (ch := [z, TI, TO, i1, i2]) (fun c o hb q => hk c o (fun q' => hb (by simp [q'])) (fun q' => hb (by simp [q'])) (fun q' => hb (by simp [q'])) (fun q' => hb (by simp [q'])) q) hf⟩
  self := fun A i s Q E st h => wpAny_pyIter_zip st.1 h
def iZipM (K : PySem.W.Frag) (ta : TA) : TI := fun σ H R => ta σ H fun vs H1 => ∃ t u a b xs ys, vs = [.ref a, .ref b] ∧ SqB t K H1 a xs ∧ SqB u K H1 b ys ∧ R (ItzM K t u a b) H1
theorem pi_zipM {X : Cx} {e e2 : Expr} {ta : TA} {p pos tpos : Pos} {elts : List Expr} {kk : Nat} (hg : Gl X "zip") (hm : X.mg "zip" = none) (ha : PA X [e, e2] ta)
    (hs : starEach [e, e2] X.env = (false, eval e X.env) :: starEach [e2] X.env := by rfl) (hpl : (backTo pos (starEach [e2] X.env)).any (·.1) = false := by rfl) :
    PI X (.Tuple elts kk tpos) (.Call (.Name "zip" p) [e, e2] [] pos) (iZipM X.K ta) := by
  refine ⟨fun pins s σ H R I h => ?_⟩
  refine Call_ (ld_blt I hg hm PyProof.Rows.boot_zip (PyProof.Rows.callWith_type1 (thn (ha.run pos pins s σ H _ I h) fun us s1 ⟨vs, H1, I1, r1, q1⟩ => ?_) hs hpl))
  obtain ⟨t, u, a, b, xs, ys, rfl, hqx, hqy, q⟩ := q1
  cases r1 with
  | cons r rr =>
    cases rr with
    | cons r' rr =>
      cases rr
      cases r
      cases r'
      obtain ⟨its, rv, p1, la⟩ := hqx.ok I1
      obtain ⟨its2, rv2, p2, lb⟩ := hqy.ok I1
      refine zip_begins2 (beginsB t a its.toArray) (beginsB u b its2.toArray) p1 p2 fun h' hz hTI hTO g1 g2 hsz hk => wpAny_pyIter_zip hz ?_
      have I2 : Inv X pins σ H1 { s1 with heap := h' } := I1.kept (t' := s1.toks) hk
      refine ⟨s1.heap.objs.size + 4, [s1.heap.objs.size + 4, s1.heap.objs.size + 2, s1.heap.objs.size + 3, s1.heap.objs.size, s1.heap.objs.size + 1], _, _, H1, rfl, I2, turn_zipM (PySem.W.ktu_apart s1.heap.objs.size a b la lb), ⟨hz, hTI, ⟨_, _, hTO⟩, .new g1, .new g2⟩, fun c hcm => ?_, q⟩
      have e' : c = s1.heap.objs.size + 4 ∨ c = s1.heap.objs.size + 2 ∨ c = s1.heap.objs.size + 3 ∨ c = s1.heap.objs.size ∨ c = s1.heap.objs.size + 1 := by simpa using hcm
      have hle : s1.heap.objs.size ≤ c := by
        rcases e' with z | z | z | z | z <;> rw [z]
        · exact Nat.le_add_right _ _
        · exact Nat.le_add_right _ _
        · exact Nat.le_add_right _ _
        · exact Nat.le_refl _
        · exact Nat.le_add_right _ _
      exact I1.fpOk hle (I1.hok.fresh hle)
section
variable {K : PySem.W.Frag} {W : Wd} {H : Hp} {a b : Addr} {vs ws : List V} {ps qs : List PV}
theorem goes_zipM {t u : Bool} (ha : ∀ {W1 H1}, Vw W H W1 H1 → SqB t K H1 a vs) (r : RVs K W H ps vs) (hb : ∀ {W1 H1}, Vw W H W1 H1 → SqB u K H1 b ws) (r' : RVs K W H qs ws) : Goes K (ItzM K t u a b) (zipP ps qs) W H := by
  refine ⟨fun W1 H1 i st hi => ?_, fun W1 H1 st => ⟨vs, ws, ha st, hb st, by rw [zipP_len, r.len, r'.len]⟩, fun W1 H1 i x H2 p s σ st hp R y => ?_⟩
  · rw [zipP_len] at hi
    have h1 : i < vs.length := by rw [r.len]; omega
    have h2 : i < ws.length := by rw [r'.len]; omega
    exact ⟨vs, ws, vs[i], ws[i], ha st, hb st, List.getElem?_eq_getElem h1, List.getElem?_eq_getElem h2⟩
  · obtain ⟨T, z, z', e1, e2, e3, e4, e5⟩ := y
    obtain ⟨x, y, h1, h2, h3⟩ := zipP_get hp
    rw [h3]
    exact yldPair R e2 e3 e1 (atRep st r h1 (e4 _ (ha st))) (atRep st r' h2 (e5 _ (hb st)))
end
/-- zip of lists, tuples -/
def zipMI (f f2 : EM) : IM := fun s => (f s).bind fun p s1 => (f2 s1).bind fun q s2 => match p, q with
  | .lst ps, .lst qs => .ok (zipP ps qs) s2
  | .lst ps, .tup _ qs => .ok (zipP ps qs) s2
  | .tup _ ps, .lst qs => .ok (zipP ps qs) s2
  | .tup _ ps, .tup _ qs => .ok (zipP ps qs) s2
  | _, _ => .bad
section
variable {X : Cx} {Z : WX} {e e2 : Expr} {f f2 : EM} {p pos : Pos}
theorem i_zipM {elts : List Expr} {kk : Nat} {tpos : Pos} (hg : Gl X "zip") (hm : X.mg "zip" = none) (h : PX X Z e f) (h2 : PX X Z e2 f2) (hs : starEach [e, e2] X.env = (false, eval e X.env) :: starEach [e2] X.env := by rfl) (hs2 : starEach [e2] X.env = (false, eval e2 X.env) :: starEach [] X.env := by rfl)
    (hpl : (backTo pos (starEach [e2] X.env)).any (·.1) = false := by rfl) : PIX X Z (.Tuple elts kk tpos) (.Call (.Name "zip" p) [e, e2] [] pos) (zipMI f f2) := by
  refine ⟨PI_imp (pi_zipM hg hm (pa_consX h (pa_consX h2 pa_nilX hs2) hs).pa hs hpl) fun σ H Q ⟨W, s, R, h⟩ => ⟨W, s, R, ?_⟩⟩
  unfold zipMI at h
  unfold consA nilA
  cases e1 : f s with
  | bad => rw [e1] at h; exact h.elim
  | exc x s1 => rw [e1] at h; exact h
  | ok p s1 =>
    rw [e1] at h
    simp only [Re.bind] at h ⊢
    cases e3 : f2 s1 with
    | bad => rw [e3] at h; exact h.elim
    | exc x s2 => rw [e3] at h; exact h
    | ok q s2 =>
      rw [e3] at h
      intro vs W1 H1 st R1 rv
      have rv : Reps X.K W1.S (W1.m H1) [p, q] vs := rv
      unfold Reps at rv
      obtain ⟨v, r, rfl, h1, rv⟩ := rv
      unfold Reps at rv
      obtain ⟨v', r', rfl, h1', rv⟩ := rv
      unfold Reps at rv
      subst rv
      have aL : ∀ {ps : List PV} {v : V}, RV X.K W1 H1 (.lst ps) v → ∃ a vs, v = .ref a ∧ RVs X.K W1 H1 ps vs ∧ SqB false X.K H1 a vs ∧ ∀ {W2 H2}, Vw W1 H1 W2 H2 → SqB false X.K H2 a vs := fun r => by
        obtain ⟨a, vs, rfl, g1, g2, g3⟩ := rv_lst_inv r
        exact ⟨a, vs, rfl, g3, SqL.of g2, fun st => SqL.of (msk_some.mp (st.same _ _ (msk_some.mpr ⟨g1, g2⟩))).2⟩
      have aT : ∀ {c : Bool} {ps : List PV} {v : V}, RV X.K W1 H1 (.tup c ps) v → ∃ a vs, v = .ref a ∧ RVs X.K W1 H1 ps vs ∧ SqB true X.K H1 a vs ∧ ∀ {W2 H2}, Vw W1 H1 W2 H2 → SqB true X.K H2 a vs := fun r => by
        obtain ⟨a, vs, rfl, g1, g2⟩ := rvT_m r
        exact ⟨a, vs, rfl, g2, sqT_mono (msk_sub _ _) g1, fun st => sqT_mono (msk_sub _ _) (sqT_mono st.same g1)⟩
      cases p with
      | lst ps =>
        obtain ⟨a, vs, rfl, g3, g4, g5⟩ := aL h1
        cases q with
        | lst qs =>
          obtain ⟨b, ws, rfl, k3, k4, k5⟩ := aL h1'
          exact ⟨_, _, a, b, vs, ws, rfl, g4, k4, h _ W1 H1 st R1 (goes_zipM g5 g3 k5 k3)⟩
        | tup c qs =>
          obtain ⟨b, ws, rfl, k3, k4, k5⟩ := aT h1'
          exact ⟨_, _, a, b, vs, ws, rfl, g4, k4, h _ W1 H1 st R1 (goes_zipM g5 g3 k5 k3)⟩
        | _ => exact h.elim
      | tup c ps =>
        obtain ⟨a, vs, rfl, g3, g4, g5⟩ := aT h1
        cases q with
        | lst qs =>
          obtain ⟨b, ws, rfl, k3, k4, k5⟩ := aL h1'
          exact ⟨_, _, a, b, vs, ws, rfl, g4, k4, h _ W1 H1 st R1 (goes_zipM g5 g3 k5 k3)⟩
        | tup c' qs =>
          obtain ⟨b, ws, rfl, k3, k4, k5⟩ := aT h1'
          exact ⟨_, _, a, b, vs, ws, rfl, g4, k4, h _ W1 H1 st R1 (goes_zipM g5 g3 k5 k3)⟩
        | _ => exact h.elim
      | _ => exact h.elim
end
end DR
set_option maxHeartbeats 4000000
/-! DR: t * k, a tuple some times. -/
namespace DR
open TM
open PySem PySem.Spec PyProof.Rows L2
def mulTp : P2 := fun p q => match p, q with
  | .tup c a, .int k => if a ≠ [] ∧ 2 ≤ k ∧ k ≤ 1000 ∧ a.length ≤ 1000 then some (.tup c (List.replicate k.toNat a).flatten) else none
  | _, _ => none
section
variable {X : Cx}
theorem br_mulTp : BinR X (binaryOp .Mult) (p2 mulTp) := fun Z => by
  refine ⟨_, op_repT, fun W H s σ p q x y res Q R rx ry e po => ?_⟩
  simp only [p2, Option.map_eq_some_iff] at e
  obtain ⟨z, e, rfl⟩ := e
  unfold mulTp at e
  split at e
  · rename_i c u k
    split at e
    · rename_i h
      cases e
      obtain ⟨h1, h2, h3, h4⟩ := h
      obtain ⟨a1, vs, e1, g0, g1⟩ := rv_tup_inv rx
      refine ⟨a1, k, vs, e1, rv_int_inv ry, g0, fun z => h1 ?_, h2, h3, by rw [g1.len]; exact h4, fun p hp => ?_⟩
      · exact List.eq_nil_of_length_eq_zero (by rw [← g1.len, z]; rfl)
      · obtain ⟨W1, st, R1, hL⟩ := R.newL hp
        exact po _ W1 _ (st.trans (Step.alloc hp (R1.nP hp))) (R1.alloc hp) (new_tup hp hL (st.rvs (reps_rep g1 _)))
    · cases e
  · cases e
/-- a * b, all kinds -/
def mul2O : B2 := fun p q => (mulO p q).or (p2 mulTp p q)
theorem br_mul2 : BinR X (binaryOp .Mult) mul2O := br_mul.or br_mulTp
end
def repTO {α : Type} (xs : List α) (k : Int) : Option (List α) := if xs ≠ [] ∧ 2 ≤ k ∧ k ≤ 1000 ∧ xs.length ≤ 1000 then some (List.replicate k.toNat xs).flatten else none
theorem mul2O_U {α : Type} (E : α → PV) (xs : List α) (k : Int) : mul2O (.tup false (xs.map E)) (.int k) = (repTO xs k).map fun z => (.tup false (z.map E), false) := by
  unfold mul2O repTO
  rw [show mulO (.tup false (xs.map E)) (.int k) = none from rfl]
  simp only [Option.none_or, p2, mulTp, List.length_map, ne_eq, List.map_eq_nil_iff]
  by_cases h : ¬xs = [] ∧ 2 ≤ k ∧ k ≤ 1000 ∧ xs.length ≤ 1000
  · rw [if_pos h, if_pos h]
    simp only [Option.map_some, map_rep]
  · rw [if_neg h, if_neg h]
    rfl
theorem repTO_ok {α : Type} {xs : List α} {k : Int} (h : xs ≠ [] ∧ 2 ≤ k ∧ k ≤ 1000 ∧ xs.length ≤ 1000) : repTO xs k = some (List.replicate k.toNat xs).flatten := if_pos h
end DR
/-! typed mirrors: things of any type, calls taken as they are, lambdas. -/
namespace TM
open PySem DR
section
variable {α : Type}
/-- a thing of any type -/
def eA (p : PV) : PV := p
theorem eA_ap (p : PV) : eA p = p := (rfl)
theorem map_eA (xs : List PV) : List.map eA xs = xs := by
  induction xs with
  | nil => rfl
  | cons x xs ih => rw [List.map_cons, ih]; rfl
/-- repr's text -/
def reprT (p : PV) : Option Str := match reprD p with
  | some (.str x, false) => some x
  | _ => none
theorem reprT_ok {p : PV} {x : Str} (h : reprT p = some x) : reprD p = some (.str x, false) := by
  unfold reprT at h
  split at h
  · rename_i y e
    cases h
    exact e
  · cases h
/-! ### a call as it is: it answers v, whatever the store -/
open Classical in
noncomputable def rawO (e : α → PV) (fr : Bool) (g : DT → FR) : Option α := if h : ∃ v, ∀ t, g t = .ok (e v) fr t then some (choose h) else none
theorem rawO_ok {e : α → PV} {fr : Bool} {g : DT → FR} {v : α} (h : rawO e fr g = some v) (t : DT) : g t = .ok (e v) fr t := by
  unfold rawO at h
  split at h
  · rename_i k
    cases h
    exact Classical.choose_spec k t
  · cases h
theorem rawO_eq {e : α → PV} {fr : Bool} {g : DT → FR} {v : α} (inj : ∀ a b, e a = e b → a = b) (h : ∀ t, g t = .ok (e v) fr t) : rawO e fr g = some v := by
  have k : ∃ v, ∀ t, g t = .ok (e v) fr t := ⟨v, h⟩
  have e1 : rawO e fr g = some (Classical.choose k) := dif_pos k
  rw [e1]
  have := (Classical.choose_spec k []).symm.trans (h [])
  injection this with h1
  exact congrArg some (inj _ _ h1)
/-! ### a def that calls what it gets -/
/-- the call within -/
def actF (g : DT → FR) : ActF := fun t => match g t with
  | .ok p _ t' => .ok p false t'
  | .exc x t' => .exc x t'
  | .bad => .bad
open Classical in
noncomputable def rawL (e : α → PV) (F : PV → ActF → DT → FR) (act : ActF) : Option α := if h : ∃ v, ∀ L t, F L act t = .ok (e v) false t then some (choose h) else none
theorem rawL_ok {e : α → PV} {F : PV → ActF → DT → FR} {act : ActF} {v : α} (h : rawL e F act = some v) (L : PV) (t : DT) : F L act t = .ok (e v) false t := by
  unfold rawL at h
  split at h
  · rename_i k
    cases h
    exact Classical.choose_spec k L t
  · cases h
theorem rawL_eq {e : α → PV} {F : PV → ActF → DT → FR} {act : ActF} {v : α} (inj : ∀ a b, e a = e b → a = b) (h : ∀ L t, F L act t = .ok (e v) false t) : rawL e F act = some v := by
  have k : ∃ v, ∀ L t, F L act t = .ok (e v) false t := ⟨v, h⟩
  have e1 : rawL e F act = some (Classical.choose k) := dif_pos k
  rw [e1]
  have := (Classical.choose_spec k .non []).symm.trans (h .non [])
  injection this with h1
  exact congrArg some (inj _ _ h1)
theorem lamO_ok {k : Nat} {P : Addr} {q : Str} {n : Nat} {ds : List Nat} {F : PV → ActF → DT → FR} {b : EM} {s s1 : DS} {ps : List PV} {e : α → PV} {act : ActF} {v : α} (hc : capS ds s = some (ps, s1)) (ht : s1.t[k]? = some (.tab P q)) (ha : lamAct b n ds ps = act) (h : rawL e F act = some v) :
    lamO k P q n ds F b s = .ok (e v, false) s1 := by
  subst ha
  have r := rawL_ok h
  unfold lamO
  simp only [hc, ht, and_self, if_true]
  rw [if_pos (fun L => by rw [r L, r .non]), r .non]
theorem eS_inj (a b : Str) (h : eS a = eS b) : a = b := by
  unfold eS at h
  injection h
theorem eB_inj (a b : Bool) (h : eB a = eB b) : a = b := by
  unfold eB at h
  injection h
theorem eI_inj (a b : Int) (h : eI a = eI b) : a = b := by
  unfold eI at h
  injection h
end
end TM
namespace TM
open PySem DR
/-- what a() tells, the frame beside it -/
def actR (r : FR) (e : DE) : Re PV := match r with
  | .ok p _ t => .ok p ⟨e, t⟩
  | .exc x t => .exc x ⟨e, t⟩
  | .bad => .bad
theorem actR_ok (r : FR) (e : DE) : (match actR r e with
    | .ok p s => FR.ok p false s.t
    | .exc x s => .exc x s.t
    | .bad => .bad) = (match r with
    | .ok p _ t' => .ok p false t'
    | .exc x t' => .exc x t'
    | .bad => .bad) := by
  cases r <;> rfl
theorem kFr_actR (r : FR) (e : DE) (t : DT) : (kFr r ⟨e, t⟩).bind kPl = actR r e := by
  cases r <;> rfl
/-! ### zip of lists, tuples -/
def kZm2 (ps : List PV) (q : PV) (s : DS) : Re (List PV) := match q with
  | .lst qs => .ok (zipP ps qs) s
  | .tup _ qs => .ok (zipP ps qs) s
  | _ => .bad
def kZm (g : EM) (p : PV) (s : DS) : Re (List PV) := match p with
  | .lst ps => (g s).bind (kZm2 ps)
  | .tup _ ps => (g s).bind (kZm2 ps)
  | _ => (g s).bind fun _ _ => .bad
theorem zipMI_ap {f g : EM} {s : DS} : zipMI f g s = (f s).bind (kZm g) := by
  unfold zipMI
  cases f s with
  | bad => rfl
  | exc x s1 => rfl
  | ok p s1 =>
    simp only [bind_ok]
    cases p <;> first
      | (simp only [kZm]; done)
      | (simp only [kZm]; cases g s1 with
        | bad => rfl
        | exc x s2 => rfl
        | ok q s2 => cases q <;> rfl)
theorem kZm_l {g : EM} {ps : List PV} {s : DS} : kZm g (.lst ps) s = (g s).bind (kZm2 ps) := (rfl)
theorem kZm_t {g : EM} {c : Bool} {ps : List PV} {s : DS} : kZm g (.tup c ps) s = (g s).bind (kZm2 ps) := (rfl)
theorem kZm2_l {ps qs : List PV} {s : DS} : kZm2 ps (.lst qs) s = .ok (zipP ps qs) s := (rfl)
theorem kZm2_t {c : Bool} {ps qs : List PV} {s : DS} : kZm2 ps (.tup c qs) s = .ok (zipP ps qs) s := (rfl)
/-! ### equality as it is -/
def eqP (b : Bool) (p q : PV) : Option Bool := match eqG b p q with
  | some (.bl c) => some c
  | _ => none
theorem eqP_ok {b c : Bool} {p q : PV} (h : eqP b p q = some c) : eqG b p q = some (.bl c) := by
  unfold eqP at h
  split at h
  · rename_i d e
    cases h
    exact e
  · cases h
theorem kNc_oI (o : Option Int) (e : DE) (t : DT) : kNc (eO eI o) ⟨e, t⟩ = .ok (eO eI o) ⟨e, t⟩ := by
  cases o <;> rfl
end TM
/-! typed mirrors: operations on things of any type, as partial steps. -/
namespace TM
open PySem DR
/-- no cell -/
def ncO (p : PV) : Option PV := match p with
  | .cell _ => none
  | q => some q
theorem ncO_ok {p q : PV} (h : ncO p = some q) : q = p ∧ ∀ (e : DE) (t : DT), kNc p ⟨e, t⟩ = .ok p ⟨e, t⟩ := by
  cases p <;> first | (cases h; exact ⟨rfl, fun _ _ => rfl⟩) | cases h
def isiO (T : String) (p : PV) : Option Bool := match isiG T p with
  | some (.bl b) => some b
  | _ => none
theorem isiO_ok {T : String} {p : PV} {b : Bool} (h : isiO T p = some b) : isiG T p = some (.bl b) := by
  unfold isiO at h
  split at h
  · rename_i c e; cases h; exact e
  · cases h
def lenAO (p : PV) : Option Int := match lenA p with
  | some (.int i) => some i
  | _ => none
theorem lenAO_ok {p : PV} {i : Int} (h : lenAO p = some i) : lenA p = some (.int i) := by
  unfold lenAO at h
  split at h
  · rename_i c e; cases h; exact e
  · cases h
def seqO (p : PV) : Option (List PV) := match p with
  | .lst ps => some ps
  | .tup _ ps => some ps
  | _ => none
theorem seqO_ok {p : PV} {xs : List PV} (h : seqO p = some xs) : (∀ (e : DE) (t : DT), seqP p ⟨e, t⟩ = .ok xs ⟨e, t⟩) ∧ (∀ (e : DE) (t : DT), kEnA p ⟨e, t⟩ = .ok (enumP 0 xs) ⟨e, t⟩) ∧ (∀ (g : EM) (e : DE) (t : DT), kZm g p ⟨e, t⟩ = (g ⟨e, t⟩).bind (kZm2 xs)) ∧
    ∀ (ps : List PV) (e : DE) (t : DT), kZm2 ps p ⟨e, t⟩ = .ok (zipP ps xs) ⟨e, t⟩ := by
  cases p <;> first | (cases h; exact ⟨fun _ _ => rfl, fun _ _ => rfl, fun _ _ _ => rfl, fun _ _ _ => rfl⟩) | cases h
def intO (p : PV) : Option Int := match p with
  | .int i => some i
  | _ => none
theorem intO_ok {p : PV} {i : Int} (h : intO p = some i) : p = .int i := by
  cases p <;> first | (cases h; rfl) | cases h
def boolO (p : PV) : Option Bool := match p with
  | .bl b => some b
  | _ => none
theorem boolO_ok {p : PV} {b : Bool} (h : boolO p = some b) : p = .bl b := by
  cases p <;> first | (cases h; rfl) | cases h
def ixO (p : PV) (i : Int) : Option PV := ixG p (.int i)
def cutAO (p : PV) (lo hi : Option Int) : Option (PV × Bool) := cutG p lo hi
def inP (b : Bool) (p q : PV) : Option Bool := match inG b p q with
  | some (.bl c) => some c
  | _ => none
theorem inP_ok {b c : Bool} {p q : PV} (h : inP b p q = some c) : inG b p q = some (.bl c) := by
  unfold inP at h
  split at h
  · rename_i d e; cases h; exact e
  · cases h
theorem zipP_A (xs ys : List PV) : zipP xs ys = (List.zip xs ys).map (eP2 eA eA) := by
  have := zipP_t eA eA xs ys
  rwa [map_eA, map_eA] at this
theorem enumP_A (xs : List PV) : enumP 0 xs = (enumT 0 xs).map (eP2 eI eA) := by
  have := enumP_t eA 0 xs
  rwa [map_eA] at this
end TM
namespace K67
open PySem PySem.Spec PyProof.Rows L2 DR
open LamX (TabB lamS_by LamS)
def top (i : Nat) : Stmt := PySem.Challenge.pw_doorroads_k67_whole_tables_that_stand.main.body.getD i (.Pass ⟨0, 0, 0, 0⟩)
def clsBody (s : Stmt) : List Stmt := match s with
  | .ClassDef _ _ _ b .. => b
  | _ => []
abbrev ini_NoFloor : Stmt := (clsBody (top 6)).getD 0 (.Pass ⟨0, 0, 0, 0⟩)
def x_NoFloor : XcD := ⟨"NoFloor", "NoFloor.__init__", defArgs ini_NoFloor, defBody ini_NoFloor, defScope ini_NoFloor⟩
def xs : List XcD := [x_NoFloor]
def tf : List He.Defn := [("_law_refused_right", none)]
def tq : List Str := [lamQ "_law_refused_right"]
abbrev AA [Adr 1] (i : Nat) : Addr := Adr.A 1 i
abbrev AB [Adr 1] (i : Nat) : Addr := Adr.B 1 i
abbrev KS [Adr 1] : List Addr := [AA 0]
abbrev tb [Adr 1] (i : Nat) (x : Str) : PV := .tab (AB i) (lamQ x)
noncomputable section
variable [Adr 1]
abbrev s__law_hand : Stmt := top 14
abbrev N__law_hand : List Str := ["script", "cells", "cell"]
def cp0__law_hand : OM := lcO (seqI (plainE (cutN 0 noQ (someQ (constE (.int 63)))))) (.nm 2) yesT (un1E absG (un1E intG (nameB 2))) [2]
def b__law_hand : SM := (seqS (thenD (setS 1 cp0__law_hand) 1)
  (retS (lstE (consA (nameE 1) (consA (constE (.int 0)) (consA (constE (.int 0)) (consA (plainE (binO addO (constE (.int 67)) (plainE (binO mulO (constE (.int 285)) (un1E lenA (nameB 1)))))) (consA (constE (.int 0)) nilA))))))))
def F__law_hand : SemF := bodyF 3 b__law_hand
theorem sc__law_hand : FnScope N__law_hand ["script"] (defScope s__law_hand) := ⟨rfl, rfl, rfl, by decide +kernel, rfl, by decide +kernel, by decide +kernel⟩
abbrev s_is_tuple : Stmt := top 3
abbrev N_is_tuple : List Str := ["thing", "least", "most"]
def xe0_is_tuple : EM := (chainE leI leI (nameE 1) (un1E lenA (nameB 0)) (nameE 2))
def xe1_is_tuple : EM := (andE (un1E (isiG "tuple") (nameB 0)) xe0_is_tuple)
def b_is_tuple : SM := (retS (sharedE xe1_is_tuple))
def F_is_tuple : SemF := bodyF 3 b_is_tuple
theorem sc_is_tuple : FnScope N_is_tuple ["thing", "least", "most"] (defScope s_is_tuple) := ⟨rfl, rfl, rfl, by decide +kernel, rfl, by decide +kernel, by decide +kernel⟩
abbrev s_is_integer : Stmt := top 1
abbrev N_is_integer : List Str := ["thing"]
def xe0_is_integer : EM := (andE (un1E (isiG "int") (nameB 0)) (notE (un1E (isiG "bool") (nameB 0))))
def b_is_integer : SM := (retS (sharedE xe0_is_integer))
def F_is_integer : SemF := bodyF 1 b_is_integer
theorem sc_is_integer : FnScope N_is_integer ["thing"] (defScope s_is_integer) := ⟨rfl, rfl, rfl, by decide +kernel, rfl, by decide +kernel, by decide +kernel⟩
abbrev s_is_within : Stmt := top 2
abbrev N_is_within : List Str := ["thing", "least", "most"]
def xe0_is_within : EM := (chainE leI leI (nameE 1) (nameE 0) (nameE 2))
def xe1_is_within : EM := (andE (plainE (callO F_is_integer (consA (nameE 0) nilA))) xe0_is_within)
def b_is_within : SM := (retS (sharedE xe1_is_within))
def F_is_within : SemF := bodyF 3 b_is_within
theorem sc_is_within : FnScope N_is_within ["thing", "least", "most"] (defScope s_is_within) := ⟨rfl, rfl, rfl, by decide +kernel, rfl, by decide +kernel, by decide +kernel⟩
abbrev s_is_floor : Stmt := top 9
abbrev N_is_floor : List Str := ["thing", "one", "a", "b"]
def te0_is_floor : TM := (orT (notT (testE (plainE (callO F_is_tuple (consA (nameE 0) (consA (constE (.int 4)) (consA (constE (.int 40)) nilA))))))) (testE (binE (eqG true) (binE modI (un1E lenA (nameB 0)) (constE (.int 4))) (constE (.int 0)))))
def cp0_is_floor : OM := lcO (seqI (nameE 0)) (.nm 1) yesT (plainE (callO F_is_within (consA (nameE 1) (consA (negE (constE (.int 1000))) (consA (constE (.int 1000)) nilA))))) [1]
def cp1_is_floor : OM := lcO (zipMI (nameE 0) (plainE (binO addO (plainE (cutN 0 (someQ (constE (.int 1))) noQ)) (plainE (cutN 0 noQ (someQ (constE (.int 1)))))))) (.tp [(.nm 2), (.nm 3)]) yesT (binE leI (un1E absG (binE subI (nameE 2) (nameE 3))) (constE (.int 1))) [2, 3]
def b_is_floor : SM := (seqS (ifS te0_is_floor (retS (sharedE (constE (.bl false)))) nextS)
  (seqS (ifS (notT (testE (un1E allG (plainE cp0_is_floor)))) (retS (sharedE (constE (.bl false)))) nextS)
  (retS (sharedE (un1E allG (plainE cp1_is_floor))))))
def F_is_floor : SemF := bodyF 4 b_is_floor
theorem sc_is_floor : FnScope N_is_floor ["thing"] (defScope s_is_floor) := ⟨rfl, rfl, rfl, by decide +kernel, rfl, by decide +kernel, by decide +kernel⟩
abbrev s_check_floor : Stmt := top 10
abbrev N_check_floor : List Str := ["thing"]
def b_check_floor : SM := (ifS (notT (testE (plainE (callO F_is_floor (consA (nameE 0) nilA))))) (raiseS (exn0 (AA 0))) nextS)
def F_check_floor : SemF := bodyF 1 b_check_floor
theorem sc_check_floor : FnScope N_check_floor ["thing"] (defScope s_check_floor) := ⟨rfl, rfl, rfl, by decide +kernel, rfl, by decide +kernel, by decide +kernel⟩
abbrev s_rocks : Stmt := top 11
abbrev N_rocks : List Str := ["floor", "many", "quarter", "found", "at", "feet", "foot"]
def cp0_rocks : OM := lcO (range1I (constE (.int 4))) (.nm 6) yesT (ixN 0 (binE modI (plainE (binO addO (nameE 4) (plainE (binO mulO (nameE 2) (nameE 6))))) (nameE 1))) [6]
def bd0_rocks : SM := (seqS (thenD (setS 5 cp0_rocks) 5)
  (exprS (appE 3 (binE subI (binE subI (plainE (binO addO (ixN 5 (constE (.int 0))) (ixN 5 (constE (.int 2))))) (ixN 5 (constE (.int 1)))) (ixN 5 (constE (.int 3)))))))
def it0_rocks : IM := (range1I (nameE 1))
def lp0_rocks : SM := forS it0_rocks (.nm 4) bd0_rocks
def b_rocks : SM := (seqS (exprS (plainE (callO F_check_floor (consA (nameE 0) nilA))))
  (seqS (parS [1, 2] (consL (sharedE (un1E lenA (nameB 0))) (consL (sharedE (binE fdivI (un1E lenA (nameB 0)) (constE (.int 4)))) nilL)))
  (seqS (setS 3 (lstE nilA))
  (seqS lp0_rocks
  (retS (sharedE (nameE 3)))))))
def F_rocks : SemF := bodyF 7 b_rocks
theorem sc_rocks : FnScope N_rocks ["floor"] (defScope s_rocks) := ⟨rfl, rfl, rfl, by decide +kernel, rfl, by decide +kernel, by decide +kernel⟩
abbrev s_stands_at : Stmt := top 12
abbrev N_stands_at : List Str := ["floor", "at", "one"]
def cp0_stands_at : OM := lcO (enumAI (plainE (callO F_rocks (consA (nameE 0) nilA)))) (.tp [(.nm 1), (.nm 2)]) (testE (binE leI (un1E absG (nameB 2)) (constE (.int 2)))) (nameE 1) [1, 2]
def b_stands_at : SM := (retS (sharedE (ixE (plainE cp0_stands_at) (constE (.int 0)))))
def F_stands_at : SemF := bodyF 3 b_stands_at
theorem sc_stands_at : FnScope N_stands_at ["floor"] (defScope s_stands_at) := ⟨rfl, rfl, rfl, by decide +kernel, rfl, by decide +kernel, by decide +kernel⟩
abbrev s__law_draw : Stmt := top 15
abbrev N__law_draw : List Str := ["hand", "many", "cell", "digit", "number"]
def te0__law_draw : TM := (andT (testE (binE (eqG false) (ixN 0 (constE (.int 2))) (constE (.int 0)))) (testE (binE ltI (ixN 0 (constE (.int 1))) (un1E lenA (ixN 0 (constE (.int 0)))))))
def jf0__law_draw : SM := (ifS (testE (binE geI (nameE 2) (binE powI (constE (.int 10)) (constE (.int 18))))) (setIxS 0 (nameE 2) (constE (.int 2))) nextS)
def jf1__law_draw : SM := (ifS te0__law_draw (seqS (setS 2 (sharedE (ixE (ixN 0 (constE (.int 0))) (ixN 0 (constE (.int 1))))))
  (seqS (setIxS 0 (plainE (binO addO (ixN 0 (constE (.int 1))) (constE (.int 1)))) (constE (.int 1)))
  (seqS (setIxS 0 (binE modI (un1E intG (plainE (binO addO (plainE (binO addO (plainE (binO mulO (ixN 0 (constE (.int 3))) (constE (.int 69621)))) (plainE (binO mulO (nameE 2) (constE (.int 40692)))))) (constE (.int 67))))) (constE (.int 2147483629))) (constE (.int 3)))
  jf0__law_draw))) nextS)
def b__law_draw : SM := (seqS jf1__law_draw
  (seqS (ifS (testE (binE gtI (ixN 0 (constE (.int 2))) (constE (.int 0)))) (seqS (setS 3 (sharedE (binE modI (un1E intG (ixN 0 (constE (.int 2)))) (nameE 1))))
  (seqS (setIxS 0 (binE fdivI (ixN 0 (constE (.int 2))) (nameE 1)) (constE (.int 2)))
  (retS (sharedE (nameE 3))))) nextS)
  (seqS (setIxS 0 (plainE (binO addO (ixN 0 (constE (.int 4))) (constE (.int 1)))) (constE (.int 4)))
  (seqS (setS 4 (sharedE (binE modI (un1E intG (plainE (binO mulO (un1E intG (plainE (binO addO (ixN 0 (constE (.int 3))) (plainE (binO mulO (constE (.int 7919)) (ixN 0 (constE (.int 4)))))))) (constE (.int 48271))))) (constE (.int 2147483647)))))
  (seqS (setS 4 (sharedE (binE modI (un1E intG (plainE (binO mulO (nameE 4) (plainE (binO addO (binE fdivI (nameE 4) (constE (.int 1009))) (constE (.int 69621))))))) (constE (.int 2147483647)))))
  (seqS (setS 4 (sharedE (binE modI (un1E intG (plainE (binO mulO (nameE 4) (plainE (binO addO (binE fdivI (nameE 4) (constE (.int 2003))) (constE (.int 40014))))))) (constE (.int 2147483563)))))
  (retS (sharedE (binE modI (un1E intG (binE fdivI (nameE 4) (constE (.int 16)))) (nameE 1))))))))))
def F__law_draw : SemF := bodyF 5 b__law_draw
theorem sc__law_draw : FnScope N__law_draw ["hand", "many"] (defScope s__law_draw) := ⟨rfl, rfl, rfl, by decide +kernel, rfl, by decide +kernel, by decide +kernel⟩
abbrev s__law_floor : Stmt := top 17
abbrev N__law_floor : List Str := ["hand", "half", "row", "turn", "turned_row", "by"]
def bd0__law_floor : SM := (exprS (appE 2 (binE subI (plainE (binO addO (ixN 2 (negE (constE (.int 1)))) (plainE (callO F__law_draw (consA (nameE 0) (consA (constE (.int 3)) nilA)))))) (constE (.int 1)))))
def it0__law_floor : IM := (range1I (binE subI (nameE 1) (constE (.int 1))))
def lp0__law_floor : SM := forS it0__law_floor (.nm 3) bd0__law_floor
def b__law_floor : SM := (seqS (setS 1 (sharedE (plainE (binO mulO (constE (.int 2)) (plainE (binO addO (constE (.int 1)) (plainE (callO F__law_draw (consA (nameE 0) (consA (constE (.int 6)) nilA))))))))))
  (seqS (setS 2 (lstE (consA (binE subI (plainE (callO F__law_draw (consA (nameE 0) (consA (constE (.int 11)) nilA)))) (constE (.int 5))) nilA)))
  (seqS lp0__law_floor
  (seqS (setS 4 (sharedE (plainE (binO addO (nameE 2) (plainE (un1O revA (nameB 2)))))))
  (seqS (setS 5 (sharedE (plainE (callO F__law_draw (consA (nameE 0) (consA (un1E lenA (nameB 4)) nilA))))))
  (retS (sharedE (un1E tupG (plainE (binO addO (plainE (cutN 4 (someQ (nameE 5)) noQ)) (plainE (cutN 4 noQ (someQ (nameE 5))))))))))))))
def F__law_floor : SemF := bodyF 6 b__law_floor
theorem sc__law_floor : FnScope N__law_floor ["hand"] (defScope s__law_floor) := ⟨rfl, rfl, rfl, by decide +kernel, rfl, by decide +kernel, by decide +kernel⟩
abbrev s__law_rocks : Stmt := top 18
abbrev N__law_rocks : List Str := ["floor", "many", "found", "at", "feet", "foot"]
def cp0__law_rocks : OM := lcO (range1I (constE (.int 4))) (.nm 5) yesT (ixN 0 (binE modI (un1E intG (plainE (binO addO (nameE 3) (plainE (binO mulO (binE fdivI (nameE 1) (constE (.int 4))) (nameE 5)))))) (nameE 1))) [5]
def bd0__law_rocks : SM := (seqS (thenD (setS 4 cp0__law_rocks) 4)
  (exprS (appE 2 (binE subI (binE subI (plainE (binO addO (ixN 4 (constE (.int 0))) (ixN 4 (constE (.int 2))))) (ixN 4 (constE (.int 1)))) (ixN 4 (constE (.int 3)))))))
def it0__law_rocks : IM := (range1I (nameE 1))
def lp0__law_rocks : SM := forS it0__law_rocks (.nm 3) bd0__law_rocks
def b__law_rocks : SM := (seqS (parS [1, 2] (consL (sharedE (un1E lenA (nameB 0))) (consL (lstE nilA) nilL)))
  (seqS lp0__law_rocks
  (retS (sharedE (nameE 2)))))
def F__law_rocks : SemF := bodyF 6 b__law_rocks
theorem sc__law_rocks : FnScope N__law_rocks ["floor"] (defScope s__law_rocks) := ⟨rfl, rfl, rfl, by decide +kernel, rfl, by decide +kernel, by decide +kernel⟩
abbrev s__law_is_right : Stmt := top 19
abbrev N__law_is_right : List Str := ["floor", "own", "quarter", "at", "first", "begin", "one"]
def te0__law_is_right : TM := (orT (testE (binE (isG true) (plainE (callO F_is_floor (consA (nameE 0) nilA))) (constE (.bl true)))) (testE (binE (eqG true) (plainE (callO F_rocks (consA (nameE 0) nilA))) (nameE 1))))
def bd0__law_is_right : SM := (ifS (testE (binE (eqG true) (ixN 1 (binE modI (un1E intG (plainE (binO addO (nameE 3) (nameE 2)))) (un1E lenA (nameB 0)))) (binE subI (constE (.int 0)) (ixN 1 (nameE 3))))) (retS (sharedE (constE (.bl false)))) nextS)
def it0__law_is_right : IM := (range1I (un1E lenA (nameB 0)))
def lp0__law_is_right : SM := forS it0__law_is_right (.nm 3) bd0__law_is_right
def cp0__law_is_right : OM := lcO (enumAI (nameE 1)) (.tp [(.nm 3), (.nm 6)]) (testE (binE leI (un1E absG (nameB 6)) (constE (.int 2)))) (nameE 3) [3, 6]
def te1__law_is_right : TM := (orT (testE (binE (eqG true) (nameE 4) (ixE (plainE cp0__law_is_right) (constE (.int 0))))) (testE (binE geI (nameE 4) (nameE 2))))
def cp1__law_is_right : OM := lcO (seqI (plainE (cutN 1 (someQ (nameE 5)) (someQ (plainE (binO addO (nameE 5) (nameE 2))))))) (.nm 6) yesT (binE leI (un1E absG (nameB 6)) (constE (.int 2))) [6]
def bd1__law_is_right : SM := (ifS (notT (testE (un1E anyG (plainE cp1__law_is_right)))) (retS (sharedE (constE (.bl false)))) nextS)
def it1__law_is_right : IM := (range3I (constE (.int 0)) (un1E lenA (nameB 0)) (nameE 2))
def lp1__law_is_right : SM := forS it1__law_is_right (.nm 5) bd1__law_is_right
def b__law_is_right : SM := (seqS (parS [1, 2] (consL (callO F__law_rocks (consA (nameE 0) nilA)) (consL (sharedE (binE fdivI (un1E lenA (nameB 0)) (constE (.int 4)))) nilL)))
  (seqS (ifS te0__law_is_right (retS (sharedE (constE (.bl false)))) nextS)
  (seqS lp0__law_is_right
  (seqS (setS 4 (sharedE (plainE (callO F_stands_at (consA (nameE 0) nilA)))))
  (seqS (ifS te1__law_is_right (retS (sharedE (constE (.bl false)))) nextS)
  (seqS lp1__law_is_right
  (retS (sharedE (constE (.bl true))))))))))
def F__law_is_right : SemF := bodyF 7 b__law_is_right
theorem sc__law_is_right : FnScope N__law_is_right ["floor"] (defScope s__law_is_right) := ⟨rfl, rfl, rfl, by decide +kernel, rfl, by decide +kernel, by decide +kernel⟩
abbrev s__law_any : Stmt := top 16
abbrev N__law_any : List Str := ["hand", "some"]
def b__law_any : SM := (retS (sharedE (ixN 1 (plainE (callO F__law_draw (consA (nameE 0) (consA (un1E lenA (nameB 1)) nilA)))))))
def F__law_any : SemF := bodyF 2 b__law_any
theorem sc__law_any : FnScope N__law_any ["hand", "some"] (defScope s__law_any) := ⟨rfl, rfl, rfl, by decide +kernel, rfl, by decide +kernel, by decide +kernel⟩
abbrev s__law_bent_right : Stmt := top 20
abbrev N__law_bent_right : List Str := ["hand", "floor", "bent", "at", "due", "a", "b"]
def cp0__law_bent_right : OM := lcO (zipMI (nameE 2) (plainE (binO addO (plainE (cutN 2 (someQ (constE (.int 1))) noQ)) (plainE (cutN 2 noQ (someQ (constE (.int 1)))))))) (.tp [(.nm 5), (.nm 6)]) yesT (binE leI (un1E absG (binE subI (nameE 5) (nameE 6))) (constE (.int 1))) [5, 6]
def b__law_bent_right : SM := (seqS (setS 2 (un1O listG (nameB 1)))
  (seqS (setS 3 (sharedE (plainE (callO F__law_draw (consA (nameE 0) (consA (un1E lenA (nameB 2)) nilA))))))
  (seqS (setIxS 2 (plainE (binO addO (ixN 2 (nameE 3)) (plainE (callO F__law_any (consA (nameE 0) (consA (plainE (lstE (consA (constE (.int 1)) (consA (negE (constE (.int 1))) (consA (constE (.int 3)) nilA))))) nilA)))))) (nameE 3))
  (seqS (setS 4 (sharedE (un1E allG (plainE cp0__law_bent_right))))
  (retS (sharedE (binE (eqG false) (plainE (un1O reprD (plainE (callO F_is_floor (consA (un1E tupG (nameB 2)) nilA))))) (plainE (un1O reprD (nameB 4))))))))))
def F__law_bent_right : SemF := bodyF 7 b__law_bent_right
theorem sc__law_bent_right : FnScope N__law_bent_right ["hand", "floor"] (defScope s__law_bent_right) := ⟨rfl, rfl, rfl, by decide +kernel, rfl, by decide +kernel, by decide +kernel⟩
abbrev s__law_word : Stmt := top 21
abbrev N__law_word : List Str := ["call", "error"]
def te0__law_word : TM := (andT (testE (isxE KS [AA 0] (nameE 1))) (testE (isxE KS KS (nameE 1))))
def xo0__law_word : OM := (ifO te0__law_word (sharedE (constE (.str "floor"))) (sharedE (constE (.str "other"))))
def tb0__law_word : PV → ActF → SM := fun L act => (exprS (plainE (actO L 0 act)))
def su0__law_word : SM := (retS xo0__law_word)
def b__law_word (L : PV) (act : ActF) : SM := (seqS (tryS KS KS 1 (tb0__law_word L act) su0__law_word)
  (retS (sharedE (constE (.str "let")))))
def F__law_word : PV → ActF → DT → FR := bodyA 2 b__law_word
theorem sc__law_word : FnScope N__law_word ["call"] (defScope s__law_word) := ⟨rfl, rfl, rfl, by decide +kernel, rfl, by decide +kernel, by decide +kernel⟩
abbrev s__law_refused_right : Stmt := top 22
abbrev N__law_refused_right : List Str := ["hand", "some", "odd"]
def lb0__law_refused_right : EM := (plainE (callO F_rocks (consA (nameE 2) nilA)))
def lb1__law_refused_right : EM := (plainE (callO F_stands_at (consA (nameE 2) nilA)))
def b__law_refused_right : SM := (seqS (setS 1 (sharedE (plainE (lstE (consA (constE .non) (consA (tupE nilA) (consA (tupE (consA (constE (.int 0)) (consA (constE (.int 0)) (consA (constE (.int 0)) nilA)))) (consA (plainE (binO mul2O (tupE (consA (constE (.int 0)) nilA)) (constE (.int 6)))) (consA (tupE (consA (constE (.int 0)) (consA (constE (.int 0)) (consA (constE (.int 0)) (consA (constE (.int 2)) nilA))))) (consA (plainE (lstE (consA (constE (.int 0)) (consA (constE (.int 0)) (consA (constE (.int 0)) (consA (constE (.int 0)) nilA)))))) (consA (tupE (consA (constE (.int 0)) (consA (constE (.int 0)) (consA (constE (.int 0)) (consA (constE .non) nilA))))) (consA (tupE (consA (constE (.int 0)) (consA (constE (.int 0)) (consA (constE (.int 0)) (consA (constE (.str "0")) nilA))))) (consA (plainE (binO mul2O (tupE (consA (constE (.int 1001)) nilA)) (constE (.int 4)))) nilA)))))))))))))
  (seqS (setS 2 (sharedE (plainE (callO F__law_any (consA (nameE 0) (consA (plainE (binO addO (nameE 1) (plainE (lstE (consA (plainE (binO mul2O (tupE (consA (constE (.int 0)) nilA)) (constE (.int 44)))) (consA (plainE newT) (consA (plainE (binO mul2O (tupE (consA (constE (.bl true)) nilA)) (constE (.int 4)))) nilA))))))) nilA))))))
  (seqS (ifS (testE (binE (isG true) (plainE (callO F_is_floor (consA (nameE 2) nilA))) (constE (.bl false)))) (retS (sharedE (constE (.bl false)))) nextS)
  (retS (sharedE (binE (eqG false) (plainE (lstE (consA (plainE (lamO 0 (AB 0) (lamQ "_law_refused_right") 3 [2] F__law_word lb0__law_refused_right)) (consA (plainE (lamO 0 (AB 0) (lamQ "_law_refused_right") 3 [2] F__law_word lb1__law_refused_right)) nilA)))) (plainE (lstE (consA (constE (.str "floor")) (consA (constE (.str "floor")) nilA))))))))))
def F__law_refused_right : SemF := bodyF 3 b__law_refused_right
theorem sc__law_refused_right : FnScope N__law_refused_right ["hand"] (defScope s__law_refused_right) := ⟨rfl, rfl, rfl, by decide +kernel, rfl, by decide +kernel, by decide +kernel⟩
abbrev s_law : Stmt := top 23
abbrev N_law : List Str := ["script", "hand", "turn", "floor"]
def te0_law : TM := (orT (testE (binE (eqG true) (plainE (callO F_rocks (consA (tupE (consA (constE (.int 1)) (consA (constE (.int 0)) (consA (constE (.int 1)) (consA (constE (.int 0)) nilA))))) nilA))) (plainE (lstE (consA (constE (.int 2)) (consA (negE (constE (.int 2))) (consA (constE (.int 2)) (consA (negE (constE (.int 2))) nilA)))))))) (testE (binE (eqG true) (plainE (callO F_stands_at (consA (plainE (binO mul2O (tupE (consA (constE (.int 7)) nilA)) (constE (.int 8)))) nilA))) (constE (.int 0)))))
def te1_law : TM := (orT (notT (testE (plainE (callO F__law_is_right (consA (nameE 3) nilA))))) (orT (notT (testE (plainE (callO F__law_bent_right (consA (nameE 1) (consA (nameE 3) nilA)))))) (notT (testE (plainE (callO F__law_refused_right (consA (nameE 1) nilA)))))))
def bd0_law : SM := (seqS (setS 3 (sharedE (plainE (callO F__law_floor (consA (nameE 1) nilA)))))
  (ifS te1_law (retS (sharedE (constE (.bl false)))) nextS))
def it0_law : IM := (range1I (constE (.int 3)))
def lp0_law : SM := forS it0_law (.nm 2) bd0_law
def b_law : SM := (seqS (cellS 1 (callO F__law_hand (consA (nameE 0) nilA)))
  (seqS (ifS te0_law (retS (sharedE (constE (.bl false)))) nextS)
  (seqS lp0_law
  (retS (sharedE (constE (.bl true)))))))
def F_law : SemF := bodyF 4 b_law
theorem sc_law : FnScope N_law ["script"] (defScope s_law) := ⟨rfl, rfl, rfl, by decide +kernel, rfl, by decide +kernel, by decide +kernel⟩
section
variable {P : Program} {w : World} {K : PySem.W.Frag} {mg : Str → Option Value} {base : Heap} {f : Addr} {fd : FuncData}
theorem ok__law_hand (F : FunD K "_law_hand" "_law_hand" (defArgs s__law_hand) (defBody s__law_hand) (defScope s__law_hand) [] [] f fd) (hm : mg "_law_hand" = some (.ref f)) (m_int : mg "int" = none) (m_abs : mg "abs" = none) (m_len : mg "len" = none)   :
    Fd P w K mg base "_law_hand" 1 1 F__law_hand := by
  refine Fd.mk' (ps := ["script"]) F hm rfl (fun _ _ _ _ _ _ us hl => match us, hl with | [_], _ => rfl) (fn_okD F sc__law_hand fun cdv A outer s H E hr => ?_)
  exact (ss_cons (ps_dem 1 (ps_setLcX (i := 1) rfl sc__law_hand.nd rfl rfl rfl (i_seq (px_of (po_cutN 0 rfl q_none (q_some px_int)))) (blkOk_by (N := N__law_hand) (sc := (defScope s__law_hand)) (own := [("cell", 2)]) (by decide +kernel)) (fun _ _ _ _ _ => (g_nm 2 sc__law_hand.nd)) (fun _ _ _ _ _ => t_nil) (fun _ _ _ _ _ => (px_of (po_blt u_abs rfl m_abs bb_abs (pb_of (px_of (po_bty u_int rfl m_int bb_int (pb_name 2)))))))))
  (ss_one (ps_retX (po_lst (pa_consX (px_name 1) (pa_consX px_int (pa_consX px_int (pa_consX (px_of (po_bin br_add px_int (px_of (po_bin br_mul px_int (px_of (po_blt u_lenA rfl m_len bb_len (pb_name 1))))))) (pa_consX px_int pa_nilX)))))))))
theorem ok_is_tuple (F : FunD K "is_tuple" "is_tuple" (defArgs s_is_tuple) (defBody s_is_tuple) (defScope s_is_tuple) [] [] f fd) (hm : mg "is_tuple" = some (.ref f)) (m_isinstance : mg "isinstance" = none) (m_tuple : mg "tuple" = none) (m_len : mg "len" = none)   :
    Fd P w K mg base "is_tuple" 1 3 F_is_tuple := by
  refine Fd.mk' (ps := ["thing", "least", "most"]) F hm rfl (fun _ _ _ _ _ _ us hl => match us, hl with | [_, _, _], _ => rfl) (fn_okD F sc_is_tuple fun cdv A outer s H E hr => ?_)
  exact (ss_one (ps_retX (po_of (px_and (px_isi rfl m_isinstance (pb_name 0) rfl m_tuple bb_tuple bb_isinstance) (px_one (px_chain br_le br_le (px_name 1) (px_of (po_blt u_lenA rfl m_len bb_len (pb_name 0))) (px_name 2)))))))
theorem ok_is_integer (F : FunD K "is_integer" "is_integer" (defArgs s_is_integer) (defBody s_is_integer) (defScope s_is_integer) [] [] f fd) (hm : mg "is_integer" = some (.ref f)) (m_isinstance : mg "isinstance" = none) (m_int : mg "int" = none) (m_bool : mg "bool" = none)   :
    Fd P w K mg base "is_integer" 1 1 F_is_integer := by
  refine Fd.mk' (ps := ["thing"]) F hm rfl (fun _ _ _ _ _ _ us hl => match us, hl with | [_], _ => rfl) (fn_okD F sc_is_integer fun cdv A outer s H E hr => ?_)
  exact (ss_one (ps_retX (po_of (px_and (px_isi rfl m_isinstance (pb_name 0) rfl m_int bb_int bb_isinstance) (px_one (px_not (px_isi rfl m_isinstance (pb_name 0) rfl m_bool bb_bool bb_isinstance)))))))
theorem ok_is_within (F : FunD K "is_within" "is_within" (defArgs s_is_within) (defBody s_is_within) (defScope s_is_within) [] [] f fd) (hm : mg "is_within" = some (.ref f))  (c_is_integer : Fd P w K mg base "is_integer" 1 1 F_is_integer) :
    Fd P w K mg base "is_within" 2 3 F_is_within := by
  refine Fd.mk' (ps := ["thing", "least", "most"]) F hm rfl (fun _ _ _ _ _ _ us hl => match us, hl with | [_, _, _], _ => rfl) (fn_okD F sc_is_within fun cdv A outer s H E hr => ?_)
  exact (ss_one (ps_retX (po_of (px_and (px_of (po_call c_is_integer hr (by decide) rfl (takes_of rfl rfl rfl rfl) (pa_consX (px_name 0) pa_nilX) (len_cons len_nilA))) (px_one (px_chain br_le br_le (px_name 1) (px_name 0) (px_name 2)))))))
theorem ok_is_floor (F : FunD K "is_floor" "is_floor" (defArgs s_is_floor) (defBody s_is_floor) (defScope s_is_floor) [] [] f fd) (hm : mg "is_floor" = some (.ref f)) (m_len : mg "len" = none) (m_all : mg "all" = none) (m_zip : mg "zip" = none) (m_abs : mg "abs" = none) {t_MOST_BEADS : Tok} (g_MOST_BEADS : mg "MOST_BEADS" = some (.int 40 t_MOST_BEADS)) (c_is_tuple : Fd P w K mg base "is_tuple" 1 3 F_is_tuple) (c_is_within : Fd P w K mg base "is_within" 2 3 F_is_within) :
    Fd P w K mg base "is_floor" 3 1 F_is_floor := by
  refine Fd.mk' (ps := ["thing"]) F hm rfl (fun _ _ _ _ _ _ us hl => match us, hl with | [_], _ => rfl) (fn_okD F sc_is_floor fun cdv A outer s H E hr => ?_)
  exact (ss_cons (ps_ifX (pt_w (pw_orX (pt_notX (pt_of (px_of (po_call c_is_tuple hr (by decide) rfl (takes_of rfl rfl rfl rfl) (pa_consX (px_name 0) (pa_consX px_int (pa_consX (px_globi rfl g_MOST_BEADS) pa_nilX))) (len_cons (len_cons (len_cons len_nilA))))))) (pw_lastO (pt_cmp (br_ne (u64 hr)) (px_bin br_mod (px_of (po_blt u_lenA rfl m_len bb_len (pb_name 0))) px_int) px_int)))) (ss_one (ps_retX (po_of px_bl))) ss_nil)
  (ss_cons (ps_ifX (pt_notX (pt_of (px_of (po_blt (u_all rfl) rfl m_all bb_all (pb_of (px_of (po_lc rfl sc_is_floor.nd (i_seq (px_name 0)) (blkOk_by (N := N_is_floor) (sc := (defScope s_is_floor)) (own := [("one", 1)]) (by decide +kernel)) (fun _ _ _ _ _ => (g_nm 1 sc_is_floor.nd)) (fun _ _ _ _ _ => t_nil) (fun _ _ _ _ _ => (px_of (po_call c_is_within hr (by decide) rfl takes0 (pa_consX (px_name 1) (pa_consX (px_neg px_int) (pa_consX px_int pa_nilX))) (len_cons (len_cons (len_cons len_nilA))))))))))))) (ss_one (ps_retX (po_of px_bl))) ss_nil)
  (ss_one (ps_retX (po_of (px_of (po_blt (u_all rfl) rfl m_all bb_all (pb_of (px_of (po_lc rfl sc_is_floor.nd (i_zipM rfl m_zip (px_name 0) (px_of (po_bin br_add (px_of (po_cutN 0 rfl (q_some px_int) q_none)) (px_of (po_cutN 0 rfl q_none (q_some px_int)))))) (blkOk_by (N := N_is_floor) (sc := (defScope s_is_floor)) (own := [("a", 2), ("b", 3)]) (by decide +kernel)) (fun _ _ _ _ _ => (g_tp rfl (gs_cons (g_nm 2 sc_is_floor.nd) (gs_cons (g_nm 3 sc_is_floor.nd) gs_nil)))) (fun _ _ _ _ _ => t_nil) (fun _ _ _ _ _ => (px_cmp br_le (px_of (po_blt u_abs rfl m_abs bb_abs (pb_of (px_bin br_sub (px_name 2) (px_name 3))))) px_int))))))))))))
theorem ok_check_floor (F : FunD K "check_floor" "check_floor" (defArgs s_check_floor) (defBody s_check_floor) (defScope s_check_floor) [] [] f fd) (hm : mg "check_floor" = some (.ref f))  (e_NoFloor : Mk0 P w K mg "NoFloor" (AA 0)) (c_is_floor : Fd P w K mg base "is_floor" 3 1 F_is_floor) :
    Fd P w K mg base "check_floor" 4 1 F_check_floor := by
  refine Fd.mk' (ps := ["thing"]) F hm rfl (fun _ _ _ _ _ _ us hl => match us, hl with | [_], _ => rfl) (fn_okD F sc_check_floor fun cdv A outer s H E hr => ?_)
  exact (ss_one (ps_ifX (pt_notX (pt_of (px_of (po_call c_is_floor hr (by decide) rfl (takes_of rfl rfl rfl rfl) (pa_consX (px_name 0) pa_nilX) (len_cons len_nilA))))) (ss_one (ps_mk0 e_NoFloor rfl (takes_of rfl rfl rfl rfl) (hr.mono (by decide)) rfl)) ss_nil))
theorem ok_rocks (F : FunD K "rocks" "rocks" (defArgs s_rocks) (defBody s_rocks) (defScope s_rocks) [] [] f fd) (hm : mg "rocks" = some (.ref f)) (m_len : mg "len" = none) (m_range : mg "range" = none)  (c_check_floor : Fd P w K mg base "check_floor" 4 1 F_check_floor) :
    Fd P w K mg base "rocks" 5 1 F_rocks := by
  refine Fd.mk' (ps := ["floor"]) F hm rfl (fun _ _ _ _ _ _ us hl => match us, hl with | [_], _ => rfl) (fn_okD F sc_rocks fun cdv A outer s H E hr => ?_)
  exact (ss_cons (ps_exprX (px_of (po_call c_check_floor hr (by decide) rfl (takes_of rfl rfl rfl rfl) (pa_consX (px_name 0) pa_nilX) (len_cons len_nilA))))
  (ss_cons (ps_parT rfl (pl_cons (po_of (px_of (po_blt u_lenA rfl m_len bb_len (pb_name 0)))) (pl_cons (po_of (px_bin br_fdiv (px_of (po_blt u_lenA rfl m_len bb_len (pb_name 0))) px_int)) pl_nil)) (go_cons 1 sc_rocks.nd (go_cons 2 sc_rocks.nd go_nil)))
  (ss_cons (ps_setX 3 sc_rocks.nd (po_lst pa_nilX))
  (ss_cons (ps_forX (passes_of rfl) rfl (i_range1 rfl m_range (px_name 1)) (g_nm 4 sc_rocks.nd) (ss_cons (ps_dem 5 (ps_setLcX (i := 5) rfl sc_rocks.nd rfl rfl rfl (i_range1 rfl m_range px_int) (blkOk_by (N := N_rocks) (sc := (defScope s_rocks)) (own := [("foot", 6)]) (by decide +kernel)) (fun _ _ _ _ _ => (g_nm 6 sc_rocks.nd)) (fun _ _ _ _ _ => t_nil) (fun _ _ _ _ _ => (px_ixN (u1 hr) 0 rfl (px_bin br_mod (px_of (po_bin br_add (px_name 4) (px_of (po_bin br_mul (px_name 2) (px_name 6))))) (px_name 1))))))
  (ss_one (ps_exprX (px_app 3 rfl (px_bin br_sub (px_bin br_sub (px_of (po_bin br_add (px_ixN (u1 hr) 5 rfl px_int) (px_ixN (u1 hr) 5 rfl px_int))) (px_ixN (u1 hr) 5 rfl px_int)) (px_ixN (u1 hr) 5 rfl px_int)))))))
  (ss_one (ps_retX (po_of (px_name 3))))))))
theorem ok_stands_at (F : FunD K "stands_at" "stands_at" (defArgs s_stands_at) (defBody s_stands_at) (defScope s_stands_at) [] [] f fd) (hm : mg "stands_at" = some (.ref f)) (m_enumerate : mg "enumerate" = none) (m_abs : mg "abs" = none)  (c_rocks : Fd P w K mg base "rocks" 5 1 F_rocks) :
    Fd P w K mg base "stands_at" 6 1 F_stands_at := by
  refine Fd.mk' (ps := ["floor"]) F hm rfl (fun _ _ _ _ _ _ us hl => match us, hl with | [_], _ => rfl) (fn_okD F sc_stands_at fun cdv A outer s H E hr => ?_)
  exact (ss_one (ps_retX (po_of (px_ix (u1 hr) (px_of (po_lc rfl sc_stands_at.nd (i_enumA rfl m_enumerate (px_of (po_call c_rocks hr (by decide) rfl (takes_of rfl rfl rfl rfl) (pa_consX (px_name 0) pa_nilX) (len_cons len_nilA)))) (blkOk_by (N := N_stands_at) (sc := (defScope s_stands_at)) (own := [("at", 1), ("one", 2)]) (by decide +kernel)) (fun _ _ _ _ _ => (g_tp rfl (gs_cons (g_nm 1 sc_stands_at.nd) (gs_cons (g_nm 2 sc_stands_at.nd) gs_nil)))) (fun _ _ _ _ _ => (t_one (pt_cmp br_le (px_of (po_blt u_abs rfl m_abs bb_abs (pb_name 2))) px_int))) (fun _ _ _ _ _ => (px_name 1)))) px_int))))
theorem ok__law_draw (F : FunD K "_law_draw" "_law_draw" (defArgs s__law_draw) (defBody s__law_draw) (defScope s__law_draw) [] [] f fd) (hm : mg "_law_draw" = some (.ref f)) (m_len : mg "len" = none) (m_int : mg "int" = none)   :
    Fd P w K mg base "_law_draw" 1 2 F__law_draw := by
  refine Fd.mk' (ps := ["hand", "many"]) F hm rfl (fun _ _ _ _ _ _ us hl => match us, hl with | [_, _], _ => rfl) (fn_okD F sc__law_draw fun cdv A outer s H E hr => ?_)
  exact (ss_cons (ps_ifX (pt_w (pw_andX (pt_cmp (br_eq (u64 hr)) (px_ixN (u1 hr) 0 rfl px_int) px_int) (pw_lastA (pt_cmp br_lt (px_ixN (u1 hr) 0 rfl px_int) (px_of (po_blt u_lenA rfl m_len bb_len (pb_of (px_ixN (u1 hr) 0 rfl px_int)))))))) (ss_cons (ps_setX 2 sc__law_draw.nd (po_of (px_ix (u1 hr) (px_ixN (u1 hr) 0 rfl px_int) (px_ixN (u1 hr) 0 rfl px_int))))
  (ss_cons (ps_setIx (u1 hr) 0 rfl (px_of (po_bin br_add (px_ixN (u1 hr) 0 rfl px_int) px_int)) px_int)
  (ss_cons (ps_setIx (u1 hr) 0 rfl (px_bin br_mod (px_of (po_bty u_int rfl m_int bb_int (pb_of (px_of (po_bin br_add (px_of (po_bin br_add (px_of (po_bin br_mul (px_ixN (u1 hr) 0 rfl px_int) px_int)) (px_of (po_bin br_mul (px_name 2) px_int)))) px_int))))) px_int) px_int)
  (ss_one (ps_ifX (pt_cmp br_ge (px_name 2) (px_bin br_pow px_int px_int)) (ss_one (ps_setIx (u1 hr) 0 rfl (px_name 2) px_int)) ss_nil))))) ss_nil)
  (ss_cons (ps_ifX (pt_cmp br_gt (px_ixN (u1 hr) 0 rfl px_int) px_int) (ss_cons (ps_setX 3 sc__law_draw.nd (po_of (px_bin br_mod (px_of (po_bty u_int rfl m_int bb_int (pb_of (px_ixN (u1 hr) 0 rfl px_int)))) (px_name 1))))
  (ss_cons (ps_setIx (u1 hr) 0 rfl (px_bin br_fdiv (px_ixN (u1 hr) 0 rfl px_int) (px_name 1)) px_int)
  (ss_one (ps_retX (po_of (px_name 3)))))) ss_nil)
  (ss_cons (ps_setIx (u1 hr) 0 rfl (px_of (po_bin br_add (px_ixN (u1 hr) 0 rfl px_int) px_int)) px_int)
  (ss_cons (ps_setX 4 sc__law_draw.nd (po_of (px_bin br_mod (px_of (po_bty u_int rfl m_int bb_int (pb_of (px_of (po_bin br_mul (px_of (po_bty u_int rfl m_int bb_int (pb_of (px_of (po_bin br_add (px_ixN (u1 hr) 0 rfl px_int) (px_of (po_bin br_mul px_int (px_ixN (u1 hr) 0 rfl px_int)))))))) px_int))))) px_int)))
  (ss_cons (ps_setX 4 sc__law_draw.nd (po_of (px_bin br_mod (px_of (po_bty u_int rfl m_int bb_int (pb_of (px_of (po_bin br_mul (px_name 4) (px_of (po_bin br_add (px_bin br_fdiv (px_name 4) px_int) px_int))))))) px_int)))
  (ss_cons (ps_setX 4 sc__law_draw.nd (po_of (px_bin br_mod (px_of (po_bty u_int rfl m_int bb_int (pb_of (px_of (po_bin br_mul (px_name 4) (px_of (po_bin br_add (px_bin br_fdiv (px_name 4) px_int) px_int))))))) px_int)))
  (ss_one (ps_retX (po_of (px_bin br_mod (px_of (po_bty u_int rfl m_int bb_int (pb_of (px_bin br_fdiv (px_name 4) px_int)))) (px_name 1)))))))))))
theorem ok__law_floor (F : FunD K "_law_floor" "_law_floor" (defArgs s__law_floor) (defBody s__law_floor) (defScope s__law_floor) [] [] f fd) (hm : mg "_law_floor" = some (.ref f)) (m_range : mg "range" = none) (m_len : mg "len" = none) (m_tuple : mg "tuple" = none)  (c__law_draw : Fd P w K mg base "_law_draw" 1 2 F__law_draw) :
    Fd P w K mg base "_law_floor" 2 1 F__law_floor := by
  refine Fd.mk' (ps := ["hand"]) F hm rfl (fun _ _ _ _ _ _ us hl => match us, hl with | [_], _ => rfl) (fn_okD F sc__law_floor fun cdv A outer s H E hr => ?_)
  exact (ss_cons (ps_setX 1 sc__law_floor.nd (po_of (px_of (po_bin br_mul px_int (px_of (po_bin br_add px_int (px_of (po_call c__law_draw hr (by decide) rfl (takes_of rfl rfl rfl rfl) (pa_consX (px_name 0) (pa_consX px_int pa_nilX)) (len_cons (len_cons len_nilA))))))))))
  (ss_cons (ps_setX 2 sc__law_floor.nd (po_lst (pa_consX (px_bin br_sub (px_of (po_call c__law_draw hr (by decide) rfl (takes_of rfl rfl rfl rfl) (pa_consX (px_name 0) (pa_consX px_int pa_nilX)) (len_cons (len_cons len_nilA)))) px_int) pa_nilX)))
  (ss_cons (ps_forX (passes_of rfl) rfl (i_range1 rfl m_range (px_bin br_sub (px_name 1) px_int)) (g_nm 3 sc__law_floor.nd) (ss_one (ps_exprX (px_app 2 rfl (px_bin br_sub (px_of (po_bin br_add (px_ixN (u1 hr) 2 rfl (px_neg px_int)) (px_of (po_call c__law_draw hr (by decide) rfl (takes_of rfl rfl rfl rfl) (pa_consX (px_name 0) (pa_consX px_int pa_nilX)) (len_cons (len_cons len_nilA)))))) px_int)))))
  (ss_cons (ps_setX 4 sc__law_floor.nd (po_of (px_of (po_bin br_add (px_name 2) (px_of (po_revA (pb_name 2)))))))
  (ss_cons (ps_setX 5 sc__law_floor.nd (po_of (px_of (po_call c__law_draw hr (by decide) rfl (takes_of rfl rfl rfl rfl) (pa_consX (px_name 0) (pa_consX (px_of (po_blt u_lenA rfl m_len bb_len (pb_name 4))) pa_nilX)) (len_cons (len_cons len_nilA))))))
  (ss_one (ps_retX (po_of (px_of (po_bty u_tup rfl m_tuple bb_tuple (pb_of (px_of (po_bin br_add (px_of (po_cutN 4 rfl (q_some (px_name 5)) q_none)) (px_of (po_cutN 4 rfl q_none (q_some (px_name 5)))))))))))))))))
theorem ok__law_rocks (F : FunD K "_law_rocks" "_law_rocks" (defArgs s__law_rocks) (defBody s__law_rocks) (defScope s__law_rocks) [] [] f fd) (hm : mg "_law_rocks" = some (.ref f)) (m_len : mg "len" = none) (m_range : mg "range" = none) (m_int : mg "int" = none)   :
    Fd P w K mg base "_law_rocks" 1 1 F__law_rocks := by
  refine Fd.mk' (ps := ["floor"]) F hm rfl (fun _ _ _ _ _ _ us hl => match us, hl with | [_], _ => rfl) (fn_okD F sc__law_rocks fun cdv A outer s H E hr => ?_)
  exact (ss_cons (ps_parT rfl (pl_cons (po_of (px_of (po_blt u_lenA rfl m_len bb_len (pb_name 0)))) (pl_cons (po_lst pa_nilX) pl_nil)) (go_cons 1 sc__law_rocks.nd (go_cons 2 sc__law_rocks.nd go_nil)))
  (ss_cons (ps_forX (passes_of rfl) rfl (i_range1 rfl m_range (px_name 1)) (g_nm 3 sc__law_rocks.nd) (ss_cons (ps_dem 4 (ps_setLcX (i := 4) rfl sc__law_rocks.nd rfl rfl rfl (i_range1 rfl m_range px_int) (blkOk_by (N := N__law_rocks) (sc := (defScope s__law_rocks)) (own := [("foot", 5)]) (by decide +kernel)) (fun _ _ _ _ _ => (g_nm 5 sc__law_rocks.nd)) (fun _ _ _ _ _ => t_nil) (fun _ _ _ _ _ => (px_ixN (u1 hr) 0 rfl (px_bin br_mod (px_of (po_bty u_int rfl m_int bb_int (pb_of (px_of (po_bin br_add (px_name 3) (px_of (po_bin br_mul (px_bin br_fdiv (px_name 1) px_int) (px_name 5)))))))) (px_name 1))))))
  (ss_one (ps_exprX (px_app 2 rfl (px_bin br_sub (px_bin br_sub (px_of (po_bin br_add (px_ixN (u1 hr) 4 rfl px_int) (px_ixN (u1 hr) 4 rfl px_int))) (px_ixN (u1 hr) 4 rfl px_int)) (px_ixN (u1 hr) 4 rfl px_int)))))))
  (ss_one (ps_retX (po_of (px_name 2))))))
theorem ok__law_is_right (F : FunD K "_law_is_right" "_law_is_right" (defArgs s__law_is_right) (defBody s__law_is_right) (defScope s__law_is_right) [] [] f fd) (hm : mg "_law_is_right" = some (.ref f)) (m_len : mg "len" = none) (m_range : mg "range" = none) (m_int : mg "int" = none) (m_enumerate : mg "enumerate" = none) (m_abs : mg "abs" = none) (m_any : mg "any" = none)  (c__law_rocks : Fd P w K mg base "_law_rocks" 1 1 F__law_rocks) (c_is_floor : Fd P w K mg base "is_floor" 3 1 F_is_floor) (c_rocks : Fd P w K mg base "rocks" 5 1 F_rocks) (c_stands_at : Fd P w K mg base "stands_at" 6 1 F_stands_at) :
    Fd P w K mg base "_law_is_right" 7 1 F__law_is_right := by
  refine Fd.mk' (ps := ["floor"]) F hm rfl (fun _ _ _ _ _ _ us hl => match us, hl with | [_], _ => rfl) (fn_okD F sc__law_is_right fun cdv A outer s H E hr => ?_)
  exact (ss_cons (ps_par2 rfl sc__law_is_right.nd (pl_cons (po_call c__law_rocks hr (by decide) rfl (takes_of rfl rfl rfl rfl) (pa_consX (px_name 0) pa_nilX) (len_cons len_nilA)) (pl_cons (po_of (px_bin br_fdiv (px_of (po_blt u_lenA rfl m_len bb_len (pb_name 0))) px_int)) pl_nil)))
  (ss_cons (ps_ifX (pt_w (pw_orX (pt_cmp br_isnot (px_of (po_call c_is_floor hr (by decide) rfl (takes_of rfl rfl rfl rfl) (pa_consX (px_name 0) pa_nilX) (len_cons len_nilA))) px_bl) (pw_lastO (pt_cmp (br_ne (u64 hr)) (px_of (po_call c_rocks hr (by decide) rfl (takes_of rfl rfl rfl rfl) (pa_consX (px_name 0) pa_nilX) (len_cons len_nilA))) (px_name 1))))) (ss_one (ps_retX (po_of px_bl))) ss_nil)
  (ss_cons (ps_forX (passes_of rfl) rfl (i_range1 rfl m_range (px_of (po_blt u_lenA rfl m_len bb_len (pb_name 0)))) (g_nm 3 sc__law_is_right.nd) (ss_one (ps_ifX (pt_cmp (br_ne (u64 hr)) (px_ixN (u1 hr) 1 rfl (px_bin br_mod (px_of (po_bty u_int rfl m_int bb_int (pb_of (px_of (po_bin br_add (px_name 3) (px_name 2)))))) (px_of (po_blt u_lenA rfl m_len bb_len (pb_name 0))))) (px_bin br_sub px_int (px_ixN (u1 hr) 1 rfl (px_name 3)))) (ss_one (ps_retX (po_of px_bl))) ss_nil)))
  (ss_cons (ps_setX 4 sc__law_is_right.nd (po_of (px_of (po_call c_stands_at hr (by decide) rfl (takes_of rfl rfl rfl rfl) (pa_consX (px_name 0) pa_nilX) (len_cons len_nilA)))))
  (ss_cons (ps_ifX (pt_w (pw_orX (pt_cmp (br_ne (u64 hr)) (px_name 4) (px_ix (u1 hr) (px_of (po_lc rfl sc__law_is_right.nd (i_enumA rfl m_enumerate (px_name 1)) (blkOk_by (N := N__law_is_right) (sc := (defScope s__law_is_right)) (own := [("at", 3), ("one", 6)]) (by decide +kernel)) (fun _ _ _ _ _ => (g_tp rfl (gs_cons (g_nm 3 sc__law_is_right.nd) (gs_cons (g_nm 6 sc__law_is_right.nd) gs_nil)))) (fun _ _ _ _ _ => (t_one (pt_cmp br_le (px_of (po_blt u_abs rfl m_abs bb_abs (pb_name 6))) px_int))) (fun _ _ _ _ _ => (px_name 3)))) px_int)) (pw_lastO (pt_cmp br_ge (px_name 4) (px_name 2))))) (ss_one (ps_retX (po_of px_bl))) ss_nil)
  (ss_cons (ps_forX (passes_of rfl) rfl (i_range3 rfl m_range px_int (px_of (po_blt u_lenA rfl m_len bb_len (pb_name 0))) (px_name 2)) (g_nm 5 sc__law_is_right.nd) (ss_one (ps_ifX (pt_notX (pt_of (px_of (po_blt (u_any rfl) rfl m_any bb_any (pb_of (px_of (po_lc rfl sc__law_is_right.nd (i_seq (px_of (po_cutN 1 rfl (q_some (px_name 5)) (q_some (px_of (po_bin br_add (px_name 5) (px_name 2))))))) (blkOk_by (N := N__law_is_right) (sc := (defScope s__law_is_right)) (own := [("one", 6)]) (by decide +kernel)) (fun _ _ _ _ _ => (g_nm 6 sc__law_is_right.nd)) (fun _ _ _ _ _ => t_nil) (fun _ _ _ _ _ => (px_cmp br_le (px_of (po_blt u_abs rfl m_abs bb_abs (pb_name 6))) px_int))))))))) (ss_one (ps_retX (po_of px_bl))) ss_nil)))
  (ss_one (ps_retX (po_of px_bl)))))))))
theorem ok__law_any (F : FunD K "_law_any" "_law_any" (defArgs s__law_any) (defBody s__law_any) (defScope s__law_any) [] [] f fd) (hm : mg "_law_any" = some (.ref f)) (m_len : mg "len" = none)  (c__law_draw : Fd P w K mg base "_law_draw" 1 2 F__law_draw) :
    Fd P w K mg base "_law_any" 2 2 F__law_any := by
  refine Fd.mk' (ps := ["hand", "some"]) F hm rfl (fun _ _ _ _ _ _ us hl => match us, hl with | [_, _], _ => rfl) (fn_okD F sc__law_any fun cdv A outer s H E hr => ?_)
  exact (ss_one (ps_retX (po_of (px_ixN (u1 hr) 1 rfl (px_of (po_call c__law_draw hr (by decide) rfl (takes_of rfl rfl rfl rfl) (pa_consX (px_name 0) (pa_consX (px_of (po_blt u_lenA rfl m_len bb_len (pb_name 1))) pa_nilX)) (len_cons (len_cons len_nilA))))))))
theorem ok__law_bent_right (F : FunD K "_law_bent_right" "_law_bent_right" (defArgs s__law_bent_right) (defBody s__law_bent_right) (defScope s__law_bent_right) [] [] f fd) (hm : mg "_law_bent_right" = some (.ref f)) (m_list : mg "list" = none) (m_len : mg "len" = none) (m_zip : mg "zip" = none) (m_abs : mg "abs" = none) (m_all : mg "all" = none) (m_tuple : mg "tuple" = none) (m_repr : mg "repr" = none)  (c__law_draw : Fd P w K mg base "_law_draw" 1 2 F__law_draw) (c__law_any : Fd P w K mg base "_law_any" 2 2 F__law_any) (c_is_floor : Fd P w K mg base "is_floor" 3 1 F_is_floor) :
    Fd P w K mg base "_law_bent_right" 4 2 F__law_bent_right := by
  refine Fd.mk' (ps := ["hand", "floor"]) F hm rfl (fun _ _ _ _ _ _ us hl => match us, hl with | [_, _], _ => rfl) (fn_okD F sc__law_bent_right fun cdv A outer s H E hr => ?_)
  exact (ss_cons (ps_setX 2 sc__law_bent_right.nd (po_bty u_list rfl m_list bb_list (pb_name 1)))
  (ss_cons (ps_setX 3 sc__law_bent_right.nd (po_of (px_of (po_call c__law_draw hr (by decide) rfl (takes_of rfl rfl rfl rfl) (pa_consX (px_name 0) (pa_consX (px_of (po_blt u_lenA rfl m_len bb_len (pb_name 2))) pa_nilX)) (len_cons (len_cons len_nilA))))))
  (ss_cons (ps_setIx (u1 hr) 2 rfl (px_of (po_bin br_add (px_ixN (u1 hr) 2 rfl (px_name 3)) (px_of (po_call c__law_any hr (by decide) rfl (takes_of rfl rfl rfl rfl) (pa_consX (px_name 0) (pa_consX (px_of (po_lst (pa_consX px_int (pa_consX (px_neg px_int) (pa_consX px_int pa_nilX))))) pa_nilX)) (len_cons (len_cons len_nilA)))))) (px_name 3))
  (ss_cons (ps_setX 4 sc__law_bent_right.nd (po_of (px_of (po_blt (u_all rfl) rfl m_all bb_all (pb_of (px_of (po_lc rfl sc__law_bent_right.nd (i_zipM rfl m_zip (px_name 2) (px_of (po_bin br_add (px_of (po_cutN 2 rfl (q_some px_int) q_none)) (px_of (po_cutN 2 rfl q_none (q_some px_int)))))) (blkOk_by (N := N__law_bent_right) (sc := (defScope s__law_bent_right)) (own := [("a", 5), ("b", 6)]) (by decide +kernel)) (fun _ _ _ _ _ => (g_tp rfl (gs_cons (g_nm 5 sc__law_bent_right.nd) (gs_cons (g_nm 6 sc__law_bent_right.nd) gs_nil)))) (fun _ _ _ _ _ => t_nil) (fun _ _ _ _ _ => (px_cmp br_le (px_of (po_blt u_abs rfl m_abs bb_abs (pb_of (px_bin br_sub (px_name 5) (px_name 6))))) px_int)))))))))
  (ss_one (ps_retX (po_of (px_cmp (br_eq (u64 hr)) (px_of (po_blt (u_reprD hr) rfl m_repr bb_repr (pb_of (px_of (po_call c_is_floor hr (by decide) rfl (takes_of rfl rfl rfl rfl) (pa_consX (px_of (po_bty u_tup rfl m_tuple bb_tuple (pb_name 2))) pa_nilX) (len_cons len_nilA)))))) (px_of (po_blt (u_reprD hr) rfl m_repr bb_repr (pb_name 4)))))))))))
theorem ok__law_word {D_DoorError : Addr} (F : FunD K "_law_word" "_law_word" (defArgs s__law_word) (defBody s__law_word) (defScope s__law_word) [] [] f fd) (hm : mg "_law_word" = some (.ref f)) (m_isinstance : mg "isinstance" = none) (m_ValueError : mg "ValueError" = none)  (g_NoFloor : mg "NoFloor" = some (.ref (AA 0))) (i_NoFloor : ∀ C ∈ KS, ExcC K C ∧ PySem.W.kitOne K (.ref C) (.ref (AA 0)) = some (decide (C ∈ [AA 0]))) (n_NoFloor : PySem.W.kitOne K (.type "NoneType") (.ref (AA 0)) = some false) (i_ValueError : ∀ C ∈ KS, ExcC K C ∧ PySem.W.kitOne K (.ref C) (.type "ValueError") = some (decide (C ∈ KS))) (n_ValueError : PySem.W.kitOne K (.type "NoneType") (.type "ValueError") = some false) (g_DoorError : mg "DoorError" = some (.ref D_DoorError)) (k_DoorError : ∀ C ∈ KS, PySem.W.exmOne K (.ref C) (.ref D_DoorError) = some (decide (C ∈ KS))) :
    LamDef P w K mg base "_law_word" 1 F__law_word := by
  refine LamDef.mk' (N := N__law_word) (bb := b__law_word) F hm sc__law_word rfl (Or.inl rfl) (by decide) (by decide) (fun _ _ _ _ _ _ us hl => match us, hl with | [_], _ => rfl) fun cdv A' outer s H L act hr ac => ?_
  unfold b__law_word
  refine ss_cons (ps_tryX 1 rfl rfl sc__law_word.nd rfl ⟨rfl, by decide, .inl g_DoorError⟩ takes_nox k_DoorError (fun W pn xe tk _ => ?_) (fun a pn => ?_)) ?_
  · exact ss_one (ps_exprX (px_of (ac W pn xe _ _ tk)))
  · exact ss_one (ps_retX (po_if (pt_w (pw_andX (pt_of (px_isx rfl m_isinstance (px_name 1) (pe_glob (v := .ref (AA 0)) rfl g_NoFloor rfl) (.own _) i_NoFloor n_NoFloor)) (pw_lastA (pt_of (px_isx rfl m_isinstance (px_name 1) (pe_bltn (v := .ty "ValueError") rfl m_ValueError rfl rfl) (.ty _) i_ValueError n_ValueError))))) (po_of px_str) (po_of px_str)))
  exact ss_one (ps_retX (po_of px_str))
theorem ok__law_refused_right {c : Addr} (F : FunD K "_law_refused_right" "_law_refused_right" (defArgs s__law_refused_right) (defBody s__law_refused_right) (defScope s__law_refused_right) [] [] f fd) (hm : mg "_law_refused_right" = some (.ref f))  (c__law_any : Fd P w K mg base "_law_any" 2 2 F__law_any) (c_is_floor : Fd P w K mg base "is_floor" 3 1 F_is_floor) (c_rocks : Fd P w K mg base "rocks" 5 1 F_rocks) (c_stands_at : Fd P w K mg base "stands_at" 6 1 F_stands_at) (D__law_word : LamDef P w K mg base "_law_word" 1 F__law_word) (hc : fd.code = .ref c) (TB : TabB base mg c (AB 0)) :
    Fd P w K mg base "_law_refused_right" 9 1 F__law_refused_right := by
  refine Fd.mk' (ps := ["hand"]) F hm rfl (fun _ _ _ _ _ _ us hl => match us, hl with | [_], _ => rfl) (fn_okC F hc sc__law_refused_right fun A outer s H E hr => ?_)
  exact (ss_cons (ps_setX 1 sc__law_refused_right.nd (po_of (px_of (po_lst (pa_consX px_non (pa_consX (px_tup pa_nilX) (pa_consX (px_tup (pa_consX px_int (pa_consX px_int (pa_consX px_int pa_nilX)))) (pa_consX (px_of (po_bin br_mul2 (px_tup (pa_consX px_int pa_nilX)) px_int)) (pa_consX (px_tup (pa_consX px_int (pa_consX px_int (pa_consX px_int (pa_consX px_int pa_nilX))))) (pa_consX (px_of (po_lst (pa_consX px_int (pa_consX px_int (pa_consX px_int (pa_consX px_int pa_nilX)))))) (pa_consX (px_tup (pa_consX px_int (pa_consX px_int (pa_consX px_int (pa_consX px_non pa_nilX))))) (pa_consX (px_tup (pa_consX px_int (pa_consX px_int (pa_consX px_int (pa_consX px_str pa_nilX))))) (pa_consX (px_of (po_bin br_mul2 (px_tup (pa_consX px_int pa_nilX)) px_int)) pa_nilX)))))))))))))
  (ss_cons (ps_setX 2 sc__law_refused_right.nd (po_of (px_of (po_call c__law_any hr (by decide) rfl (takes_of rfl rfl rfl rfl) (pa_consX (px_name 0) (pa_consX (px_of (po_bin br_add (px_name 1) (px_of (po_lst (pa_consX (px_of (po_bin br_mul2 (px_tup (pa_consX px_int pa_nilX)) px_int)) (pa_consX (px_of po_newT) (pa_consX (px_of (po_bin br_mul2 (px_tup (pa_consX px_bl pa_nilX)) px_int)) pa_nilX))))))) pa_nilX)) (len_cons (len_cons len_nilA))))))
  (ss_cons (ps_ifX (pt_cmp br_isnot (px_of (po_call c_is_floor hr (by decide) rfl (takes_of rfl rfl rfl rfl) (pa_consX (px_name 2) pa_nilX) (len_cons len_nilA))) px_bl) (ss_one (ps_retX (po_of px_bl))) ss_nil)
  (ss_one (ps_retX (po_of (px_cmp (br_eq (u64 hr)) (px_of (po_lst (pa_consX (px_of (po_lamD (k := 6) (j := 0) (ds := [2]) D__law_word rfl TB rfl hr (by decide) (lamS_by (sc := (defScope s__law_refused_right)) (by decide +kernel)) rfl (fun _ _ _ _ _ => rfl) (fun A outer s H E f c' hr => (px_of (po_call c_rocks hr (by decide) rfl takes_lam (pa_consX (px_name 2) pa_nilX) (len_cons len_nilA)))))) (pa_consX (px_of (po_lamFD (k := 6) (j := 0) (ds := [2]) D__law_word rfl TB rfl hr (by decide) (lamF_by (N := N__law_refused_right) (sc := (defScope s__law_refused_right)) (z := "of") (by decide +kernel)) rfl rfl (fun _ _ _ _ _ _ _ _ _ h => bindF h rfl rfl) (fun A outer s H E f c' hr => (px_of (po_call c_stands_at hr (by decide) rfl takes_lam (pa_consX (px_name 2) pa_nilX) (len_cons len_nilA)))))) pa_nilX)))) (px_of (po_lst (pa_consX px_str (pa_consX px_str pa_nilX)))))))))))
theorem ok_law (F : FunD K "law" "law" (defArgs s_law) (defBody s_law) (defScope s_law) [] [] f fd) (m_range : mg "range" = none)  (c__law_hand : Fd P w K mg base "_law_hand" 1 1 F__law_hand) (c_rocks : Fd P w K mg base "rocks" 5 1 F_rocks) (c_stands_at : Fd P w K mg base "stands_at" 6 1 F_stands_at) (c__law_floor : Fd P w K mg base "_law_floor" 2 1 F__law_floor) (c__law_is_right : Fd P w K mg base "_law_is_right" 7 1 F__law_is_right) (c__law_bent_right : Fd P w K mg base "_law_bent_right" 4 2 F__law_bent_right) (c__law_refused_right : Fd P w K mg base "_law_refused_right" 9 1 F__law_refused_right) :
    FnG P w K mg base (L2.CX P w) 10 f fd ["script"] (spF K 1 F_law) := by
  refine fn_okD F sc_law fun cdv A outer s H E hr => ?_
  exact (ss_cons (ps_cell 1 sc_law.nd (po_call c__law_hand hr (by decide) rfl (takes_of rfl rfl rfl rfl) (pa_consX (px_name 0) pa_nilX) (len_cons len_nilA)))
  (ss_cons (ps_ifX (pt_w (pw_orX (pt_cmp (br_ne (u64 hr)) (px_of (po_call c_rocks hr (by decide) rfl (takes_of rfl rfl rfl rfl) (pa_consX (px_tup (pa_consX px_int (pa_consX px_int (pa_consX px_int (pa_consX px_int pa_nilX))))) pa_nilX) (len_cons len_nilA))) (px_of (po_lst (pa_consX px_int (pa_consX (px_neg px_int) (pa_consX px_int (pa_consX (px_neg px_int) pa_nilX))))))) (pw_lastO (pt_cmp (br_ne (u64 hr)) (px_of (po_call c_stands_at hr (by decide) rfl (takes_of rfl rfl rfl rfl) (pa_consX (px_of (po_bin br_mul2 (px_tup (pa_consX px_int pa_nilX)) px_int)) pa_nilX) (len_cons len_nilA))) px_int)))) (ss_one (ps_retX (po_of px_bl))) ss_nil)
  (ss_cons (ps_forX (passes_of rfl) rfl (i_range1 rfl m_range px_int) (g_nm 2 sc_law.nd) (ss_cons (ps_setX 3 sc_law.nd (po_of (px_of (po_call c__law_floor hr (by decide) rfl (takes_of rfl rfl rfl rfl) (pa_consX (px_name 1) pa_nilX) (len_cons len_nilA)))))
  (ss_one (ps_ifX (pt_w (pw_orX (pt_notX (pt_of (px_of (po_call c__law_is_right hr (by decide) rfl (takes_of rfl rfl rfl rfl) (pa_consX (px_name 3) pa_nilX) (len_cons len_nilA))))) (pw_orX (pt_notX (pt_of (px_of (po_call c__law_bent_right hr (by decide) rfl (takes_of rfl rfl rfl rfl) (pa_consX (px_name 1) (pa_consX (px_name 3) pa_nilX)) (len_cons (len_cons len_nilA)))))) (pw_lastO (pt_notX (pt_of (px_of (po_call c__law_refused_right hr (by decide) rfl (takes_of rfl rfl rfl rfl) (pa_consX (px_name 1) pa_nilX) (len_cons len_nilA))))))))) (ss_one (ps_retX (po_of px_bl))) ss_nil))))
  (ss_one (ps_retX (po_of px_bl))))))
end
end
def d__law_hand : He.DefD := ⟨("_law_hand", none), "_law_hand", "_law_hand", defArgs s__law_hand, defBody s__law_hand, defScope s__law_hand, [], []⟩
def d_is_tuple : He.DefD := ⟨("is_tuple", none), "is_tuple", "is_tuple", defArgs s_is_tuple, defBody s_is_tuple, defScope s_is_tuple, [], []⟩
def d_is_integer : He.DefD := ⟨("is_integer", none), "is_integer", "is_integer", defArgs s_is_integer, defBody s_is_integer, defScope s_is_integer, [], []⟩
def d_is_within : He.DefD := ⟨("is_within", none), "is_within", "is_within", defArgs s_is_within, defBody s_is_within, defScope s_is_within, [], []⟩
def d_is_floor : He.DefD := ⟨("is_floor", none), "is_floor", "is_floor", defArgs s_is_floor, defBody s_is_floor, defScope s_is_floor, [], []⟩
def d_check_floor : He.DefD := ⟨("check_floor", none), "check_floor", "check_floor", defArgs s_check_floor, defBody s_check_floor, defScope s_check_floor, [], []⟩
def d_rocks : He.DefD := ⟨("rocks", none), "rocks", "rocks", defArgs s_rocks, defBody s_rocks, defScope s_rocks, [], []⟩
def d_stands_at : He.DefD := ⟨("stands_at", none), "stands_at", "stands_at", defArgs s_stands_at, defBody s_stands_at, defScope s_stands_at, [], []⟩
def d__law_draw : He.DefD := ⟨("_law_draw", none), "_law_draw", "_law_draw", defArgs s__law_draw, defBody s__law_draw, defScope s__law_draw, [], []⟩
def d__law_floor : He.DefD := ⟨("_law_floor", none), "_law_floor", "_law_floor", defArgs s__law_floor, defBody s__law_floor, defScope s__law_floor, [], []⟩
def d__law_rocks : He.DefD := ⟨("_law_rocks", none), "_law_rocks", "_law_rocks", defArgs s__law_rocks, defBody s__law_rocks, defScope s__law_rocks, [], []⟩
def d__law_is_right : He.DefD := ⟨("_law_is_right", none), "_law_is_right", "_law_is_right", defArgs s__law_is_right, defBody s__law_is_right, defScope s__law_is_right, [], []⟩
def d__law_any : He.DefD := ⟨("_law_any", none), "_law_any", "_law_any", defArgs s__law_any, defBody s__law_any, defScope s__law_any, [], []⟩
def d__law_bent_right : He.DefD := ⟨("_law_bent_right", none), "_law_bent_right", "_law_bent_right", defArgs s__law_bent_right, defBody s__law_bent_right, defScope s__law_bent_right, [], []⟩
def d__law_word : He.DefD := ⟨("_law_word", none), "_law_word", "_law_word", defArgs s__law_word, defBody s__law_word, defScope s__law_word, [], []⟩
def d__law_refused_right : He.DefD := ⟨("_law_refused_right", none), "_law_refused_right", "_law_refused_right", defArgs s__law_refused_right, defBody s__law_refused_right, defScope s__law_refused_right, [], []⟩
def d_law : He.DefD := ⟨("law", none), "law", "law", defArgs s_law, defBody s_law, defScope s_law, [], []⟩
def fn : List He.DefD := [d__law_hand, d_is_tuple, d_is_integer, d_is_within, d_is_floor, d_check_floor, d_rocks, d_stands_at, d__law_draw, d__law_floor, d__law_rocks, d__law_is_right, d__law_any, d__law_bent_right, d__law_word, d__law_refused_right, d_law]
def fa0 : List He.Fa := [.glo "_law_hand", .glo "is_tuple", .glo "is_integer", .glo "is_within", .glo "is_floor", .glo "check_floor", .glo "rocks", .glo "stands_at", .glo "_law_draw", .glo "_law_floor", .glo "_law_rocks", .glo "_law_is_right", .glo "_law_any", .glo "_law_bent_right", .glo "_law_word", .glo "_law_refused_right", .glo "law", .glo "NoFloor", .glo "DoorError", .free "super", .free "int", .free "abs", .free "len", .free "isinstance", .free "tuple", .free "bool", .free "all", .free "zip", .int "MOST_BEADS" 40, .free "range"]
def fa1 : List He.Fa := [.free "enumerate", .free "any", .free "list", .free "repr", .free "ValueError"]
def fa : List He.Fa := fa0 ++ fa1
abbrev ksK (K : PySem.W.Frag) : List Addr := [He.ga K "NoFloor"]
def ex (K : PySem.W.Frag) : Bool := (ksK K).all (excB K) && (isB K (ksK K) (.ref (He.ga K "NoFloor")) [He.ga K "NoFloor"] && (decide (PySem.W.kitOne K (.type "NoneType") (.ref (He.ga K "NoFloor")) = some false) && (isB K (ksK K) (.type "ValueError") (ksK K) && (decide (PySem.W.kitOne K (.type "NoneType") (.type "ValueError") = some false) && (exB K (ksK K) (.ref (He.ga K "DoorError")) (ksK K))))))
def loose0 : List Str := ["is_integer", "is_within", "is_tuple", "DoorError", "NoFloor", "MOST_BEADS", "is_floor", "check_floor", "rocks", "stands_at", "_law_hand", "_law_draw", "_law_any", "_law_floor", "_law_rocks", "_law_is_right", "_law_bent_right", "_law_word", "_law_refused_right"]
def loose : List Str := loose0
abbrev R : PySem.W.OpenRow := PySem.W.OpenLaw.row PySem.Challenge.rw_doorroads_k67_whole_tables_that_stand
abbrev hk : PySem.W.Hook := hookY 5 R.prog.main.file fa fn tf xs ex
def ob (s : PySem.W.SharedT) : AlY := obsY 5 R.prog.main.file fa fn tf xs ex (HandSHeadRun.getT s)
theorem ob_eq (s : PySem.W.SharedT) : ob s = hk.obs s.abs := obsY_eq (HandSHeadRun.getT_eq s)
theorem run (w : World) : HandSHeadRun.RunEq R (PySem.W.view R.prog [23]) hk ob 3000 loose w := by
  intro os
  kernel_rfl
theorem mk_NoFloor {P : Program} {w : World} {K : PySem.W.Frag} {mg : Str → Option Value} {C fI cc cda : Addr} (T : XcK P K C fI cc cda x_NoFloor.qual x_NoFloor.params x_NoFloor.body x_NoFloor.scope) (hs : mg "super" = none) (hm : mg "NoFloor" = some (.ref C)) : Mk0 P w K mg "NoFloor" C :=
  Mk0.of T hs hm ⟨rfl, rfl, rfl, by decide +kernel, rfl, rfl, rfl, rfl, rfl⟩ ⟨fun _ _ _ _ => rfl, fun _ _ _ _ => rfl, fun _ _ _ _ => rfl⟩ (fun _ _ _ _ _ _ => rfl) (by decide)
@[reducible] def adrK {h : Heap} {K : PySem.W.Frag} (c : SaysY R.prog.main.file fa fn tf xs ex h K) : Adr 1 where
  A := fun i => (xs.map fun d => He.ga K d.name).getD i 0
  B := fun i => (tf.map fun p => (He.cT K p).2).getD i 0
  ne := fun i j hi hj e => by
    exact nodup_inj c.ne hi hj e
theorem facts {w : World} {K : PySem.W.Frag} {h : Heap} {mg : Str → Option Value} {f : Addr} (X : K.In h) (G : h.Ns mainGlobals mg) (hfa : mg ("law" : Str) = some (.ref f)) (c : SaysY R.prog.main.file fa fn tf xs ex h K) :
    ∃ fd : FuncData, (∀ (s : Shared) (v : Value), BindsTo s fd ⟨[v], []⟩ [("script", v)]) ∧ ∀ base : Heap, K.In base → base.Ns mainGlobals mg → (∀ p ∈ tf.map (He.cT K), TabB base mg p.1 p.2) → FnG (PySem.Challenge.rw_doorroads_k67_whole_tables_that_stand).prog w K mg base (L2.CX (PySem.Challenge.rw_doorroads_k67_whole_tables_that_stand).prog w) 10 f fd ["script"] (spF K 1 (@F_law (adrK c))) := by
  letI := adrK c
  have A := c.more
  unfold ex at A
  simp only [Bool.and_eq_true, decide_eq_true_eq] at A
  obtain ⟨A0, A1, A2, A3, A4, A5⟩ := A
  have E : ∀ C ∈ ksK K, ExcC K C := fun C hC => excB_ok (List.all_eq_true.mp A0 C hC)
  have i_NoFloor : ∀ C ∈ ksK K, ExcC K C ∧ _ := fun C hC => ⟨E C hC, isB_ok A1 C hC⟩
  have n_NoFloor := A2
  have i_ValueError : ∀ C ∈ ksK K, ExcC K C ∧ _ := fun C hC => ⟨E C hC, isB_ok A3 C hC⟩
  have n_ValueError := A4
  have k_DoorError := exB_ok A5
  obtain ⟨fd__law_hand, D__law_hand⟩ := c.d.def_ 0 (d := d__law_hand) rfl
  have h__law_hand := He.glo_ok X G (c.d.fact 0 (f := .glo "_law_hand") rfl)
  obtain ⟨fd_is_tuple, D_is_tuple⟩ := c.d.def_ 1 (d := d_is_tuple) rfl
  have h_is_tuple := He.glo_ok X G (c.d.fact 1 (f := .glo "is_tuple") rfl)
  obtain ⟨fd_is_integer, D_is_integer⟩ := c.d.def_ 2 (d := d_is_integer) rfl
  have h_is_integer := He.glo_ok X G (c.d.fact 2 (f := .glo "is_integer") rfl)
  obtain ⟨fd_is_within, D_is_within⟩ := c.d.def_ 3 (d := d_is_within) rfl
  have h_is_within := He.glo_ok X G (c.d.fact 3 (f := .glo "is_within") rfl)
  obtain ⟨fd_is_floor, D_is_floor⟩ := c.d.def_ 4 (d := d_is_floor) rfl
  have h_is_floor := He.glo_ok X G (c.d.fact 4 (f := .glo "is_floor") rfl)
  obtain ⟨fd_check_floor, D_check_floor⟩ := c.d.def_ 5 (d := d_check_floor) rfl
  have h_check_floor := He.glo_ok X G (c.d.fact 5 (f := .glo "check_floor") rfl)
  obtain ⟨fd_rocks, D_rocks⟩ := c.d.def_ 6 (d := d_rocks) rfl
  have h_rocks := He.glo_ok X G (c.d.fact 6 (f := .glo "rocks") rfl)
  obtain ⟨fd_stands_at, D_stands_at⟩ := c.d.def_ 7 (d := d_stands_at) rfl
  have h_stands_at := He.glo_ok X G (c.d.fact 7 (f := .glo "stands_at") rfl)
  obtain ⟨fd__law_draw, D__law_draw⟩ := c.d.def_ 8 (d := d__law_draw) rfl
  have h__law_draw := He.glo_ok X G (c.d.fact 8 (f := .glo "_law_draw") rfl)
  obtain ⟨fd__law_floor, D__law_floor⟩ := c.d.def_ 9 (d := d__law_floor) rfl
  have h__law_floor := He.glo_ok X G (c.d.fact 9 (f := .glo "_law_floor") rfl)
  obtain ⟨fd__law_rocks, D__law_rocks⟩ := c.d.def_ 10 (d := d__law_rocks) rfl
  have h__law_rocks := He.glo_ok X G (c.d.fact 10 (f := .glo "_law_rocks") rfl)
  obtain ⟨fd__law_is_right, D__law_is_right⟩ := c.d.def_ 11 (d := d__law_is_right) rfl
  have h__law_is_right := He.glo_ok X G (c.d.fact 11 (f := .glo "_law_is_right") rfl)
  obtain ⟨fd__law_any, D__law_any⟩ := c.d.def_ 12 (d := d__law_any) rfl
  have h__law_any := He.glo_ok X G (c.d.fact 12 (f := .glo "_law_any") rfl)
  obtain ⟨fd__law_bent_right, D__law_bent_right⟩ := c.d.def_ 13 (d := d__law_bent_right) rfl
  have h__law_bent_right := He.glo_ok X G (c.d.fact 13 (f := .glo "_law_bent_right") rfl)
  obtain ⟨fd__law_word, D__law_word⟩ := c.d.def_ 14 (d := d__law_word) rfl
  have h__law_word := He.glo_ok X G (c.d.fact 14 (f := .glo "_law_word") rfl)
  obtain ⟨fd__law_refused_right, D__law_refused_right⟩ := c.d.def_ 15 (d := d__law_refused_right) rfl
  have h__law_refused_right := He.glo_ok X G (c.d.fact 15 (f := .glo "_law_refused_right") rfl)
  obtain ⟨fd_law, D_law⟩ := c.d.def_ 16 (d := d_law) rfl
  have m_super := He.free_ok X G (c.d.fact 19 (f := .free "super") rfl)
  have m_int := He.free_ok X G (c.d.fact 20 (f := .free "int") rfl)
  have m_abs := He.free_ok X G (c.d.fact 21 (f := .free "abs") rfl)
  have m_len := He.free_ok X G (c.d.fact 22 (f := .free "len") rfl)
  have m_isinstance := He.free_ok X G (c.d.fact 23 (f := .free "isinstance") rfl)
  have m_tuple := He.free_ok X G (c.d.fact 24 (f := .free "tuple") rfl)
  have m_bool := He.free_ok X G (c.d.fact 25 (f := .free "bool") rfl)
  have m_all := He.free_ok X G (c.d.fact 26 (f := .free "all") rfl)
  have m_zip := He.free_ok X G (c.d.fact 27 (f := .free "zip") rfl)
  obtain ⟨t_MOST_BEADS, g_MOST_BEADS⟩ := He.int_ok X G (c.d.fact 28 (f := .int "MOST_BEADS" 40) rfl)
  have m_range := He.free_ok X G (c.d.fact 29 (f := .free "range") rfl)
  have m_enumerate := He.free_ok X G (c.d.fact 30 (f := .free "enumerate") rfl)
  have m_any := He.free_ok X G (c.d.fact 31 (f := .free "any") rfl)
  have m_list := He.free_ok X G (c.d.fact 32 (f := .free "list") rfl)
  have m_repr := He.free_ok X G (c.d.fact 33 (f := .free "repr") rfl)
  have m_ValueError := He.free_ok X G (c.d.fact 34 (f := .free "ValueError") rfl)
  have g_NoFloor := He.glo_ok X G (c.d.fact 17 (f := .glo "NoFloor") rfl)
  obtain ⟨_, _, _, T_NoFloor⟩ := XcD.xck (P := (PySem.Challenge.rw_doorroads_k67_whole_tables_that_stand).prog) (c.cls 0 x_NoFloor rfl).1 (c.cls 0 x_NoFloor rfl).2 (by decide +kernel)
  have e_NoFloor := mk_NoFloor (w := w) T_NoFloor m_super g_NoFloor
  have g_DoorError := He.glo_ok X G (c.d.fact 18 (f := .glo "DoorError") rfl)
  have e := hfa.symm.trans (He.glo_ok X G (c.d.fact 16 (f := .glo "law") rfl))
  cases e
  refine ⟨fd_law, fun s v => FunD.bindsA (ps := ["script"]) D_law (fun _ _ _ _ _ _ us hl => match us, hl with | [_], _ => rfl) s [v] rfl, fun base _ _ TT => ?_⟩
  have c__law_hand := ok__law_hand (P := (PySem.Challenge.rw_doorroads_k67_whole_tables_that_stand).prog) (w := w) (base := base) D__law_hand h__law_hand m_int m_abs m_len
  have c_is_tuple := ok_is_tuple (P := (PySem.Challenge.rw_doorroads_k67_whole_tables_that_stand).prog) (w := w) (base := base) D_is_tuple h_is_tuple m_isinstance m_tuple m_len
  have c_is_integer := ok_is_integer (P := (PySem.Challenge.rw_doorroads_k67_whole_tables_that_stand).prog) (w := w) (base := base) D_is_integer h_is_integer m_isinstance m_int m_bool
  have c_is_within := ok_is_within (P := (PySem.Challenge.rw_doorroads_k67_whole_tables_that_stand).prog) (w := w) (base := base) D_is_within h_is_within c_is_integer
  have c_is_floor := ok_is_floor (P := (PySem.Challenge.rw_doorroads_k67_whole_tables_that_stand).prog) (w := w) (base := base) D_is_floor h_is_floor m_len m_all m_zip m_abs g_MOST_BEADS c_is_tuple c_is_within
  have c_check_floor := ok_check_floor (P := (PySem.Challenge.rw_doorroads_k67_whole_tables_that_stand).prog) (w := w) (base := base) D_check_floor h_check_floor e_NoFloor c_is_floor
  have c_rocks := ok_rocks (P := (PySem.Challenge.rw_doorroads_k67_whole_tables_that_stand).prog) (w := w) (base := base) D_rocks h_rocks m_len m_range c_check_floor
  have c_stands_at := ok_stands_at (P := (PySem.Challenge.rw_doorroads_k67_whole_tables_that_stand).prog) (w := w) (base := base) D_stands_at h_stands_at m_enumerate m_abs c_rocks
  have c__law_draw := ok__law_draw (P := (PySem.Challenge.rw_doorroads_k67_whole_tables_that_stand).prog) (w := w) (base := base) D__law_draw h__law_draw m_len m_int
  have c__law_floor := ok__law_floor (P := (PySem.Challenge.rw_doorroads_k67_whole_tables_that_stand).prog) (w := w) (base := base) D__law_floor h__law_floor m_range m_len m_tuple c__law_draw
  have c__law_rocks := ok__law_rocks (P := (PySem.Challenge.rw_doorroads_k67_whole_tables_that_stand).prog) (w := w) (base := base) D__law_rocks h__law_rocks m_len m_range m_int
  have c__law_is_right := ok__law_is_right (P := (PySem.Challenge.rw_doorroads_k67_whole_tables_that_stand).prog) (w := w) (base := base) D__law_is_right h__law_is_right m_len m_range m_int m_enumerate m_abs m_any c__law_rocks c_is_floor c_rocks c_stands_at
  have c__law_any := ok__law_any (P := (PySem.Challenge.rw_doorroads_k67_whole_tables_that_stand).prog) (w := w) (base := base) D__law_any h__law_any m_len c__law_draw
  have c__law_bent_right := ok__law_bent_right (P := (PySem.Challenge.rw_doorroads_k67_whole_tables_that_stand).prog) (w := w) (base := base) D__law_bent_right h__law_bent_right m_list m_len m_zip m_abs m_all m_tuple m_repr c__law_draw c__law_any c_is_floor
  have t__law_word := ok__law_word (P := (PySem.Challenge.rw_doorroads_k67_whole_tables_that_stand).prog) (w := w) (base := base) D__law_word h__law_word m_isinstance m_ValueError g_NoFloor i_NoFloor n_NoFloor i_ValueError n_ValueError g_DoorError k_DoorError
  have c__law_refused_right := ok__law_refused_right (P := (PySem.Challenge.rw_doorroads_k67_whole_tables_that_stand).prog) (w := w) (base := base) D__law_refused_right h__law_refused_right c__law_any c_is_floor c_rocks c_stands_at t__law_word (code_of (x := "_law_refused_right") D__law_refused_right) (TT _ (List.mem_map.mpr ⟨("_law_refused_right", none), by decide, rfl⟩))
  exact ok_law D_law m_range c__law_hand c_rocks c_stands_at c__law_floor c__law_is_right c__law_bent_right c__law_refused_right
end K67
local macro_rules
  | `(tactic| push_cast [$ts,*] $[$l:location]?) => `(tactic| simp only [DR.bind_ok, DR.bind_bad, DR.bind_exc, DR.noX_ok, DR.isi_int_int, DR.isi_int_bool, DR.isi_tup_tup, DR.isi_lst_lst, DR.isi_lst_tup, DR.isi_tup_lst, DR.subI_ok, DR.ltI_ok, DR.leI_ok, DR.gtI_ok, DR.geI_ok, DR.cmpI_ok, DR.max2_ok, DR.min2_ok, DR.eq_int, DR.seqS_ap, DR.kSeq_nx, DR.kSeq_rt, DR.kSeq_bk, DR.kSeq_ct, DR.retS_ap, DR.kRet_ap, DR.retN_ap, DR.exprS_ap, DR.kNx_ap, DR.ifS_ap, DR.ifE_ap, DR.ifO_ap, DR.kIf_t, DR.kIf_f, DR.badS_ap, DR.nextS_ap, DR.setS_ap, DR.kSet_v, DR.kSet_o, DR.cellS_ap, DR.kCell_ap, DR.parS_ap, DR.kPar_2, DR.kPar_3, DR.kPar_4, DR.putSl_v, DR.putSl_o, DR.asgS_ap, DR.kAsg_ap, DR.kAsg2_ap, DR.asgT_nm, DR.asgT_tp, DR.asgTs_nil, DR.asgTs_nm, DR.augS_ap, DR.kAug_ap, DR.kAug1_ap, DR.kAug2_ap, DR.nameE_ap, DR.kNm_v, DR.kNm_o, DR.nameB_ap, DR.kNb_o, DR.kNb_v, DR.kNc_cell, DR.kNd_ap, DR.kNc_int, DR.kNc_bl, DR.kNc_non, DR.kNc_str, DR.kNc_tup, DR.kNc_lst, DR.kNc_scr, DR.kNc_dK, DR.kNc_dT, DR.kNc_ins, DR.kMod_o, DR.kMod_c, DR.kMc_ap, DR.kMo_ap, DR.kMd_ap, DR.appE_ap, DR.kAp_ap, DR.kAp2_ap, DR.setIxS_ap, DR.kSi_ap, DR.kSi2_ap, DR.kSi3_ap, DR.augIxS_ap, DR.kAx_ap, DR.kAx1_ap, DR.kAx1b_ap, DR.kAx2_ap, DR.kAx3_ap, DR.kAx4_ap, DR.sharedE_ap, DR.kSh_ap, DR.plainE_ap, DR.kPl_ap, DR.constE_ap, DR.nilA_ap, DR.consA_ap, DR.kCo_ap, DR.kCo2_ap, DR.nilL_ap, DR.consL_ap, DR.tupE_ap, DR.lstE_ap, DR.kTu_ap, DR.kLs_ap, DR.kOp_ap, DR.kOp_no, DR.binO_ap, DR.kBi_ap, DR.kBi2_ap, DR.binE_ap, DR.kBe_ap, DR.kBe2_ap, DR.chainE_ap, DR.kCh_ap, DR.kCh2_ap, DR.kCh3_t, DR.kCh3_f, DR.kCh4_ap, DR.testE_ap, DR.toB_ap, DR.andE_ap, DR.orE_ap, DR.notE_ap, DR.kAnd_t, DR.kAnd_f, DR.kOr_t, DR.kOr_f, DR.kNot_ap, DR.andT_ap, DR.orT_ap, DR.notT_ap, DR.kAndT_t, DR.kAndT_f, DR.kOrT_t, DR.kOrT_f, DR.kNotT_ap, DR.negE_ap, DR.kNeg_ap, DR.callO_ap, DR.kCall_ap, DR.kFr_ap, DR.kFr_exc, DR.un1O_ap, DR.kUn_ap, DR.un1E_ap, DR.kUe_ap, DR.lenG_lst, DR.lenG_tup, DR.lenG_scr, DR.tupG_lst, DR.tupG_tup, DR.listG_lst, DR.listG_tup, DR.intG_int, DR.intG_bl, DR.ixN_ap, DR.kIx_ap, DR.kIx2_ap, DR.kIx3_ap, DR.ixE_ap, DR.kIe_ap, DR.kIe2_ap, DR.noQ_ap, DR.someQ_ap, DR.kSq_ap, DR.cutO_ap, DR.kCt_ap, DR.kCt2_ap, DR.kCt3_ap, DR.cutN_ap, DR.kCn_ap, DR.kCn2_ap, DR.kCn3_ap, DR.kCn4_ap, DR.newK_ap, DR.newT_ap, DR.seqI_ap, DR.seqP_lst, DR.seqP_tup, DR.seqP_scr, DR.range1I_ap, DR.range2I_ap, DR.kR2_ap, DR.forS_ap, DR.bodyF_ap, DR.kBody_rt, DR.kBody_nx, DR.kBody_exc, DR.yesT_ap, DR.ix0, DR.ix1, DR.forL_nil, DR.forL_ap, DR.kFor_ap, DR.kFor2_nx, DR.kFor2_ct, DR.kFor2_bk, DR.kFor2_rt, DR.lenA_lst, DR.lenA_tup, DR.lenA_scr, DR.lenA_dK, DR.lenA_dT, DR.pow_10_18, DR.thenD_ap, DR.kDem_nx, DR.demSl_o, DR.demSl_v, DR.demSl_n, TM.eI_ap, TM.eB_ap, TM.eN_ap, TM.eS_ap, TM.eL_ap, TM.eU_ap, TM.eP2_ap, TM.eP3_ap, TM.eP4_ap, TM.eO_none, TM.eO_some, TM.s_set0, TM.s_setS, TM.s_lc, TM.s_ln, TM.s_na, TM.s_ca, TM.s_an, TM.s_mc, TM.s_mn, TM.s_ma, TM.s_lm, TM.s_r0, TM.s_rS, TM.s_dt, TM.s_df, TM.s_nt, TM.s_nf, TM.s_ta, TM.s_fa, TM.s_at, TM.s_af, TM.s_to, TM.s_fo, TM.s_ot, TM.s_of, TM.s_fx, TM.s_tx, TM.s_it, TM.s_if, TM.s_tt, TM.s_ft, TM.s_tf, TM.s_ff, TM.s_nT, TM.s_nF, TM.s_om, TM.s_omn, TM.s_ob, TM.s_eta, TM.s_p1, TM.s_p2, TM.s_frameE, TM.s_wipe0, TM.s_wipeS, TM.s_rest0, TM.s_restS, TM.s_rest1n, TM.s_rest1v, TM.s_rest1o, TM.s_gd0, TM.s_gdS, TM.s_c0, TM.s_c1, TM.s_c2, TM.s_c3, TM.s_c4, TM.s_c5, TM.s_c6, TM.s_c7, TM.s_c8, TM.s_c9, TM.s_c10, TM.s_c11, TM.s_c12, TM.absG_t, TM.modO_pos, TM.modI_t, TM.divO_pos, TM.fdivI_t, TM.mulT_l, TM.mulT_r, TM.mulO_t, TM.addI_t, TM.addO_t, TM.ixG_L, TM.ixG_U, TM.ixG_S, TM.lixG_L, TM.ixT0, TM.ixT1, TM.ixT2, TM.ixT3, TM.ixTm2, TM.ixTm3, TM.addO_L, TM.addO_U, TM.mulO_L, TM.cutG_L, TM.cutG_S, TM.cutG_U, TM.revG_L, TM.allG_t, TM.anyG_t, TM.sumG_t, TM.maxA_L, TM.minA_L, TM.maxA_U, TM.minA_U, TM.reO_some, TM.kR1_t, TM.kR2_t, TM.eq_I, TM.eq_B, TM.is_non, TM.is_int, TM.is_tup, TM.is_lst, TM.is_str, TM.is_bl0, TM.is_bl, TM.ixDI, TM.ixDS, TM.ixD2, TM.ixD3, TM.ixDU, TM.inDI, TM.inDS, TM.inD2, TM.inD3, TM.inDU, TM.kNc_DI, TM.kNc_DS, TM.kNc_D2, TM.kNc_D3, TM.kNc_DU, TM.lenDI, TM.lenDS, TM.lenD2, TM.lenD3, TM.lenDU, DR.revA_L, DR.revA_U, DR.extE_ap, DR.kEx_ap, DR.kEx2_ap, DR.popE_ap, DR.kPp_ap, DR.enumAI_ap, DR.kEnA_l, DR.kEnA_t, DR.zipI_ap, DR.kZi_ap, DR.kZi2_l, DR.kZi2_t, DR.reprG_b, DR.popAtE_ap, DR.kPa_ap, DR.kPa2_ap, DR.range3I_ap, DR.kR3a_ap, DR.kR3b_ap, TM.kR3c_ap, DR.extTE_ap, DR.kXt_ap, DR.kXt2_ap, TM.eA_ap, TM.map_eA, TM.zipMI_ap, TM.kZm_l, TM.kZm_t, TM.kZm2_l, TM.kZm2_t, TM.kNc_oI, $ts,*] $[$l]?)
set_option maxHeartbeats 4000000
noncomputable section
namespace K67
open PySem DR TM L2
variable [Adr 1]
def Hd : Type := {h : PV // HandOk h}
theorem draw_a (cells : List PV) (a b c d m : Int) (hm : 0 < m) (hm2 : m < 1073741824) (hb : 0 < b) : F__law_draw [.cell 1, .int m] [tb 0 "_law_refused_right", HandP cells a b c d] = .ok (.int (b % m)) false [tb 0 "_law_refused_right", HandP cells a (b / m) c d] := by
  have hb0 : ¬ b = 0 := by omega
  push_cast [F__law_draw, b__law_draw, HandP, te0__law_draw, jf0__law_draw, jf1__law_draw, ixG_lst, setU_lst, lixG_ok, pow_10_18, t_and, i_andT, Nat.reduceAdd, Nat.reduceSub, Nat.reduceLT, Nat.reduceLeDiff, Int.reduceLT, Int.reduceLE, Int.reduceNeg, Int.reducePow, Int.reduceToNat, hb, hb0, modO_pos hm, divO_pos hm hm2]
theorem draw_b (cells : List PV) (a c d m : Int) (hm : 0 < m) (ha : ¬ a < cells.length) : ∃ r, F__law_draw [.cell 1, .int m] [tb 0 "_law_refused_right", HandP cells a 0 c d] = .ok (.int (r % m)) false [tb 0 "_law_refused_right", HandP cells a 0 c (d + 1)] := by
  apply Exists.intro
  push_cast [F__law_draw, b__law_draw, HandP, te0__law_draw, jf0__law_draw, jf1__law_draw, ixG_lst, setU_lst, lixG_ok, pow_10_18, t_and, i_andT, Nat.reduceAdd, Nat.reduceSub, Nat.reduceLT, Nat.reduceLeDiff, Int.reduceLT, Int.reduceLE, Int.reduceNeg, Int.reducePow, Int.reduceToNat, ha, modO_pos hm, mulT_mod, Int.lt_irrefl]
  rfl
theorem draw_c (cells : List PV) (a c d m x : Int) (hm : 0 < m) (hm2 : m < 1073741824) (ha : a < cells.length) (hx : ixG (.lst cells) (.int a) = some (.int x)) (h18 : 1000000000000000000 ≤ x) : F__law_draw [.cell 1, .int m] [tb 0 "_law_refused_right", HandP cells a 0 c d] = .ok (.int (x % m)) false [tb 0 "_law_refused_right", HandP cells (a + 1) (x / m) ((c * 69621 + x * 40692 + 67) % 2147483629) d] := by
  have hx0 : (0 : Int) < x := by omega
  push_cast [F__law_draw, b__law_draw, HandP, hx, te0__law_draw, jf0__law_draw, jf1__law_draw, ixG_lst, setU_lst, lixG_ok, pow_10_18, t_and, i_andT, Nat.reduceAdd, Nat.reduceSub, Nat.reduceLT, Nat.reduceLeDiff, Int.reduceLT, Int.reduceLE, Int.reduceNeg, Int.reducePow, Int.reduceToNat, ha, modO_pos hm, divO_pos hm hm2, h18, hx0]
theorem draw_d (cells : List PV) (a c d m x : Int) (hm : 0 < m) (ha : a < cells.length) (hx : ixG (.lst cells) (.int a) = some (.int x)) (h18 : ¬ 1000000000000000000 ≤ x) : ∃ r, F__law_draw [.cell 1, .int m] [tb 0 "_law_refused_right", HandP cells a 0 c d] = .ok (.int (r % m)) false [tb 0 "_law_refused_right", HandP cells (a + 1) 0 ((c * 69621 + x * 40692 + 67) % 2147483629) (d + 1)] := by
  apply Exists.intro
  push_cast [F__law_draw, b__law_draw, HandP, hx, te0__law_draw, jf0__law_draw, jf1__law_draw, ixG_lst, setU_lst, lixG_ok, pow_10_18, t_and, i_andT, Nat.reduceAdd, Nat.reduceSub, Nat.reduceLT, Nat.reduceLeDiff, Int.reduceLT, Int.reduceLE, Int.reduceNeg, Int.reducePow, Int.reduceToNat, ha, modO_pos hm, mulT_mod, h18, Int.lt_irrefl]
  rfl
theorem draw_ex (hd : Hd) (m : Int) (h : 0 < m ∧ m < 1073741824) : ∃ q : Int × Hd, F__law_draw [.cell 1, .int m] [tb 0 "_law_refused_right", hd.1] = .ok (.int q.1) false [tb 0 "_law_refused_right", q.2.1] ∧ 0 ≤ q.1 ∧ q.1 < m := by
  obtain ⟨h0, xs, a, b, c, d, hx, ha, hb, rfl⟩ := hd
  obtain ⟨hm, hm2⟩ := h
  have md : ∀ y : Int, 0 ≤ y % m ∧ y % m < m := fun y => ⟨Int.emod_nonneg y (by omega), Int.emod_lt_of_pos y hm⟩
  by_cases b0 : 0 < b
  · exact ⟨(b % m, ⟨_, xs, a, b / m, c, d, hx, ha, Int.ediv_nonneg hb (by omega), rfl⟩), draw_a _ a b c d m hm hm2 b0, md b⟩
  · obtain rfl : b = 0 := by omega
    by_cases hl : a < (xs.map PV.int).length
    · have hl2 : a.toNat < xs.length := by
        rw [List.length_map] at hl
        omega
      have ix : ixG (.lst (xs.map .int)) (.int a) = some (.int (xs.getD a.toNat 0)) := by
        have := ix_lrow hl2
        rwa [Int.toNat_of_nonneg ha] at this
      by_cases h18 : 1000000000000000000 ≤ xs.getD a.toNat 0
      · exact ⟨(_, ⟨_, xs, a + 1, _, _, d, hx, by omega, Int.ediv_nonneg (by omega) (by omega), rfl⟩), draw_c _ a c d m _ hm hm2 hl ix h18, md _⟩
      · obtain ⟨r, e⟩ := draw_d _ a c d m _ hm hl ix h18
        exact ⟨(_, ⟨_, xs, a + 1, 0, _, d + 1, hx, by omega, by omega, rfl⟩), e, md _⟩
    · obtain ⟨r, e⟩ := draw_b _ a c d m hm hl
      exact ⟨(_, ⟨_, xs, a, 0, c, d + 1, hx, ha, by omega, rfl⟩), e, md _⟩
open Classical in
def m__law_draw (hd : Hd) (m : Int) : Option (Int × Hd) := if h : 0 < m ∧ m < 1073741824 then some (choose (draw_ex hd m h)) else none
theorem draw_sp {hd : Hd} {m : Int} {V : Int × Hd} (H : m__law_draw hd m = some V) : F__law_draw [.cell 1, .int m] [tb 0 "_law_refused_right", hd.1] = .ok (.int V.1) false [tb 0 "_law_refused_right", V.2.1] ∧ 0 ≤ V.1 ∧ V.1 < m := by
  unfold m__law_draw at H
  split at H
  · rename_i h
    cases H
    exact Classical.choose_spec (draw_ex hd m h)
  · cases H
theorem w__law_draw (hd : Hd) (m : Int) {V : Int × Hd} (H : m__law_draw hd m = some V) : F__law_draw [.cell 1, .int m] [tb 0 "_law_refused_right", hd.1] = .ok (.int V.1) false [tb 0 "_law_refused_right", V.2.1] := (draw_sp H).1
theorem draw_ok (hd : Hd) {m : Int} (h1 : 0 < m) (h2 : m < 1073741824) : ∃ V, m__law_draw hd m = some V ∧ 0 ≤ V.1 ∧ V.1 < m := by
  have e : m__law_draw hd m = some (Classical.choose (draw_ex hd m ⟨h1, h2⟩)) := dif_pos ⟨h1, h2⟩
  exact ⟨_, e, (draw_sp e).2⟩
theorem hand_ex (NS : List Int) (hl : NS.length ≤ 63) : ∃ hd : Hd, F__law_hand [.scr (NS.map .int)] [tb 0 "_law_refused_right"] = .ok hd.1 true [tb 0 "_law_refused_right"] := by
  have cut : cutP (NS.map PV.int) none (some (63 : Int)) = NS.map .int := by
    have e : HT.sIx (NS.map PV.int).length (NS.map PV.int).length (some (63 : Int)) = NS.length := by
      rw [List.length_map]
      show min 63 NS.length = NS.length
      omega
    unfold cutP
    rw [e]
    show ((NS.map PV.int).drop 0).take (NS.length - 0) = _
    rw [List.drop_zero]
    exact List.take_of_length_le (by rw [List.length_map]; omega)
  have c : cp0__law_hand ⟨[.val (.scr (NS.map .int)), .no, .no], [tb 0 "_law_refused_right"]⟩ = .ok (.lst ((NS.map iabs).map .int), true) ⟨[.val (.scr (NS.map .int)), .no, .no], [tb 0 "_law_refused_right"]⟩ := by
    refine (lcO_Q (E := PV.int) (F := PV.int) (g := iabs) (xs := NS) (ys := NS.map iabs) (e1 := [.val (.scr (NS.map .int)), .no, .no]) (t := [tb 0 "_law_refused_right"]) ?_ ?_ fun x => ⟨[.val (.scr (NS.map .int)), .no, .val (.int x)], rfl, ⟨[.val (.scr (NS.map .int)), .no, .val (.int x)], [tb 0 "_law_refused_right"]⟩, ?_, rfl, rfl⟩).trans rfl
    · have k : cutG (.scr (NS.map .int)) none (some (63 : Int)) = some (.lst (NS.map .int), true) := by
        show some (PV.lst _, true) = _
        rw [cut]
      push_cast [te0__law_draw, jf0__law_draw, jf1__law_draw, ixG_lst, setU_lst, lixG_ok, pow_10_18, t_and, i_andT, Nat.reduceAdd, Nat.reduceSub, Nat.reduceLT, Nat.reduceLeDiff, Int.reduceLT, Int.reduceLE, Int.reduceNeg, Int.reducePow, Int.reduceToNat, k]
    · have : 63 ≤ sizeLine := by decide
      exact if_pos (by rw [List.length_map]; omega)
    · push_cast [te0__law_draw, jf0__law_draw, jf1__law_draw, ixG_lst, setU_lst, lixG_ok, pow_10_18, t_and, i_andT, Nat.reduceAdd, Nat.reduceSub, Nat.reduceLT, Nat.reduceLeDiff, Int.reduceLT, Int.reduceLE, Int.reduceNeg, Int.reducePow, Int.reduceToNat]
  refine ⟨⟨HandP ((NS.map iabs).map .int) 0 0 (67 + 285 * (((NS.map iabs).map PV.int).length : Int)) 0, _, 0, 0, _, 0, ?_, by omega, by omega, rfl⟩, ?_⟩
  · intro x hx
    obtain ⟨i, _, rfl⟩ := List.mem_map.mp hx
    unfold iabs
    split <;> omega
  · show _ = FR.ok (HandP ((NS.map iabs).map .int) 0 0 (67 + 285 * (((NS.map iabs).map PV.int).length : Int)) 0) true [tb 0 "_law_refused_right"]
    generalize (NS.map iabs).map PV.int = l at c
    push_cast [F__law_hand, b__law_hand, c, te0__law_draw, jf0__law_draw, jf1__law_draw, ixG_lst, setU_lst, lixG_ok, pow_10_18, t_and, i_andT, Nat.reduceAdd, Nat.reduceSub, Nat.reduceLT, Nat.reduceLeDiff, Int.reduceLT, Int.reduceLE, Int.reduceNeg, Int.reducePow, Int.reduceToNat, HandP]
theorem x1_is_tuple_ok (thing : List Int) (least : Int) (most : Int) (T : DT) : xe0_is_tuple ⟨[.val ((eU eI) thing), .val (eI least), .val (eI most)], T⟩ = .ok (.bl ((decide (least ≤ (thing.length : Int))) && (decide ((thing.length : Int) ≤ most)))) ⟨[.val ((eU eI) thing), .val (eI least), .val (eI most)], T⟩ := by
  (push_cast [xe0_is_tuple, t_and, t_or, e_and, e_or, i_andT, i_orT, i_andE, i_orE, i_int, k_if, k_ch3, Nat.reduceAdd, Nat.reduceSub, Nat.reduceLT, Nat.reduceLeDiff, Int.reduceLT, Int.reduceLE, Int.reduceNeg, Int.reducePow, Int.reduceToNat]; try with_reducible rfl)
theorem x0_is_tuple_ok (thing : List Int) (least : Int) (most : Int) (T : DT) : xe1_is_tuple ⟨[.val ((eU eI) thing), .val (eI least), .val (eI most)], T⟩ = .ok (.bl ((decide (least ≤ (thing.length : Int))) && (decide ((thing.length : Int) ≤ most)))) ⟨[.val ((eU eI) thing), .val (eI least), .val (eI most)], T⟩ := by
  have K_1 := x1_is_tuple_ok thing least most T
  try push_cast [DR.bind_ok] at K_1
  (push_cast [xe1_is_tuple, K_1, t_and, t_or, e_and, e_or, i_andT, i_orT, i_andE, i_orE, i_int, k_if, k_ch3, Nat.reduceAdd, Nat.reduceSub, Nat.reduceLT, Nat.reduceLeDiff, Int.reduceLT, Int.reduceLE, Int.reduceNeg, Int.reducePow, Int.reduceToNat]; try with_reducible rfl)
def m_is_tuple (thing : List Int) (least : Int) (most : Int) : Bool :=
  ((decide (least ≤ (thing.length : Int))) && (decide ((thing.length : Int) ≤ most)))
theorem w_is_tuple (thing : List Int) (least : Int) (most : Int) (T : DT) {V : Bool} (H : m_is_tuple thing least most = V) : F_is_tuple [(eU eI) thing, eI least, eI most] T = .ok (eB V) false T := by
  unfold m_is_tuple at H
  have K_2 := x0_is_tuple_ok thing least most T
  try push_cast [DR.bind_ok] at K_2
  subst H
  (push_cast [F_is_tuple, b_is_tuple, K_2, Nat.reduceAdd, Nat.reduceSub, Nat.reduceLT, Nat.reduceLeDiff, Int.reduceLT, Int.reduceLE, Int.reduceNeg, Int.reducePow, Int.reduceToNat]; try with_reducible rfl)
theorem x0_is_integer_ok (thing : Int) (T : DT) : xe0_is_integer ⟨[.val (eI thing)], T⟩ = .ok (.bl true) ⟨[.val (eI thing)], T⟩ := by
  (push_cast [xe0_is_integer, t_and, t_or, e_and, e_or, i_andT, i_orT, i_andE, i_orE, i_int, k_if, k_ch3, Nat.reduceAdd, Nat.reduceSub, Nat.reduceLT, Nat.reduceLeDiff, Int.reduceLT, Int.reduceLE, Int.reduceNeg, Int.reducePow, Int.reduceToNat]; try with_reducible rfl)
def m_is_integer (thing : Int) : Bool :=
  true
theorem w_is_integer (thing : Int) (T : DT) {V : Bool} (H : m_is_integer thing = V) : F_is_integer [eI thing] T = .ok (eB V) false T := by
  unfold m_is_integer at H
  have K_1 := x0_is_integer_ok thing T
  try push_cast [DR.bind_ok] at K_1
  subst H
  (push_cast [F_is_integer, b_is_integer, K_1, Nat.reduceAdd, Nat.reduceSub, Nat.reduceLT, Nat.reduceLeDiff, Int.reduceLT, Int.reduceLE, Int.reduceNeg, Int.reducePow, Int.reduceToNat]; try with_reducible rfl)
theorem x1_is_within_ok (thing : Int) (least : Int) (most : Int) (T : DT) : xe0_is_within ⟨[.val (eI thing), .val (eI least), .val (eI most)], T⟩ = .ok (.bl ((decide (least ≤ thing)) && (decide (thing ≤ most)))) ⟨[.val (eI thing), .val (eI least), .val (eI most)], T⟩ := by
  (push_cast [xe0_is_within, t_and, t_or, e_and, e_or, i_andT, i_orT, i_andE, i_orE, i_int, k_if, k_ch3, Nat.reduceAdd, Nat.reduceSub, Nat.reduceLT, Nat.reduceLeDiff, Int.reduceLT, Int.reduceLE, Int.reduceNeg, Int.reducePow, Int.reduceToNat]; try with_reducible rfl)
theorem x0_is_within_ok (thing : Int) (least : Int) (most : Int) (T : DT) : xe1_is_within ⟨[.val (eI thing), .val (eI least), .val (eI most)], T⟩ = .ok (.bl ((m_is_integer thing) && ((decide (least ≤ thing)) && (decide (thing ≤ most))))) ⟨[.val (eI thing), .val (eI least), .val (eI most)], T⟩ := by
  have K_1 : F_is_integer [(.int thing)] T = .ok (.bl (m_is_integer thing)) false T := w_is_integer thing T rfl
  have K_2 := x1_is_within_ok thing least most T
  try push_cast [DR.bind_ok] at K_2
  (push_cast [xe1_is_within, K_1, K_2, t_and, t_or, e_and, e_or, i_andT, i_orT, i_andE, i_orE, i_int, k_if, k_ch3, Nat.reduceAdd, Nat.reduceSub, Nat.reduceLT, Nat.reduceLeDiff, Int.reduceLT, Int.reduceLE, Int.reduceNeg, Int.reducePow, Int.reduceToNat]; try with_reducible rfl)
def m_is_within (thing : Int) (least : Int) (most : Int) : Bool :=
  ((m_is_integer thing) && ((decide (least ≤ thing)) && (decide (thing ≤ most))))
theorem w_is_within (thing : Int) (least : Int) (most : Int) (T : DT) {V : Bool} (H : m_is_within thing least most = V) : F_is_within [eI thing, eI least, eI most] T = .ok (eB V) false T := by
  unfold m_is_within at H
  have K_3 := x0_is_within_ok thing least most T
  try push_cast [DR.bind_ok] at K_3
  subst H
  (push_cast [F_is_within, b_is_within, K_3, Nat.reduceAdd, Nat.reduceSub, Nat.reduceLT, Nat.reduceLeDiff, Int.reduceLT, Int.reduceLE, Int.reduceNeg, Int.reducePow, Int.reduceToNat]; try with_reducible rfl)
theorem x0_is_floor_ok (thing : List Int) (T : DT) : te0_is_floor ⟨[.val ((eU eI) thing), .no, .no, .no], T⟩ = .ok ((!(m_is_tuple thing 4 40)) || (!decide (((thing.length : Int) % 4) = 0))) ⟨[.val ((eU eI) thing), .no, .no, .no], T⟩ := by
  have K_1 : F_is_tuple [(.tup false (List.map eI thing)), (.int 4), (.int 40)] T = .ok (.bl (m_is_tuple thing 4 40)) false T := w_is_tuple thing 4 40 T rfl
  (push_cast [te0_is_floor, K_1, t_and, t_or, e_and, e_or, i_andT, i_orT, i_andE, i_orE, i_int, k_if, k_ch3, Nat.reduceAdd, Nat.reduceSub, Nat.reduceLT, Nat.reduceLeDiff, Int.reduceLT, Int.reduceLE, Int.reduceNeg, Int.reducePow, Int.reduceToNat]; try with_reducible rfl)
theorem c0_is_floor_ok (thing : List Int) (T : DT) (XS : List Int) (HX : (seqI (nameE 0)) ⟨[.val ((eU eI) thing), .no, .no, .no], T⟩ = .ok (XS.map eI) ⟨[.val ((eU eI) thing), .no, .no, .no], T⟩) {Y : List Bool} (H : lenO (XS.map fun Y0 => (m_is_within Y0 (-1000) 1000)) = some Y) : cp0_is_floor ⟨[.val ((eU eI) thing), .no, .no, .no], T⟩ = .ok (.lst (Y.map eB), true) ⟨[.val ((eU eI) thing), .no, .no, .no], T⟩ := by
  refine (lcO_Q (E := eI) (F := eB) (g := fun Y0 => (m_is_within Y0 (-1000) 1000)) HX H fun Y0 => ⟨[.val ((eU eI) thing), .val (eI Y0), .no, .no], rfl, ⟨[.val ((eU eI) thing), .val (eI Y0), .no, .no], T⟩, ?_, rfl, rfl⟩).trans (by rfl)
  have K_4 : F_is_within [(.int Y0), (.int (-1000)), (.int 1000)] T = .ok (.bl (m_is_within Y0 (-1000) 1000)) false T := w_is_within Y0 (-1000) 1000 T rfl
  (push_cast [K_4, t_and, t_or, e_and, e_or, i_andT, i_orT, i_andE, i_orE, i_int, k_if, k_ch3, Nat.reduceAdd, Nat.reduceSub, Nat.reduceLT, Nat.reduceLeDiff, Int.reduceLT, Int.reduceLE, Int.reduceNeg, Int.reducePow, Int.reduceToNat]; try with_reducible rfl)
theorem c1_is_floor_ok (thing : List Int) (T : DT) (XS : List (Int × Int)) (HX : (zipMI (nameE 0) (plainE (binO addO (plainE (cutN 0 (someQ (constE (.int 1))) noQ)) (plainE (cutN 0 noQ (someQ (constE (.int 1)))))))) ⟨[.val ((eU eI) thing), .no, .no, .no], T⟩ = .ok (XS.map (eP2 eI eI)) ⟨[.val ((eU eI) thing), .no, .no, .no], T⟩) {Y : List Bool} (H : lenO (XS.map fun Y1 => (decide ((iabs (Y1.1 - Y1.2)) ≤ 1))) = some Y) : cp1_is_floor ⟨[.val ((eU eI) thing), .no, .no, .no], T⟩ = .ok (.lst (Y.map eB), true) ⟨[.val ((eU eI) thing), .no, .no, .no], T⟩ := by
  refine (lcO_Q (E := (eP2 eI eI)) (F := eB) (g := fun Y1 => (decide ((iabs (Y1.1 - Y1.2)) ≤ 1))) HX H fun Y1 => ⟨[.val ((eU eI) thing), .no, .val (eI Y1.1), .val (eI Y1.2)], rfl, ⟨[.val ((eU eI) thing), .no, .val (eI Y1.1), .val (eI Y1.2)], T⟩, ?_, rfl, rfl⟩).trans (by rfl)
  (push_cast [bind_ok, t_and, t_or, e_and, e_or, i_andT, i_orT, i_andE, i_orE, i_int, k_if, k_ch3, Nat.reduceAdd, Nat.reduceSub, Nat.reduceLT, Nat.reduceLeDiff, Int.reduceLT, Int.reduceLE, Int.reduceNeg, Int.reducePow, Int.reduceToNat]; try with_reducible rfl)
def m_is_floor (thing : List Int) : Option Bool :=
  if ((!(m_is_tuple thing 4 40)) || (!decide (((thing.length : Int) % 4) = 0))) = true then
    some false
  else
  (lenO (thing.map fun Y0 => (m_is_within Y0 (-1000) 1000))).bind fun y_5 =>
  if (!(y_5.all id)) = true then
    some false
  else
  (appO (cutT thing (some 1) none) (cutT thing none (some 1))).bind fun v_10 =>
  (lenO ((List.zip thing v_10).map fun Y1 => (decide ((iabs (Y1.1 - Y1.2)) ≤ 1)))).bind fun y_12 =>
  some (y_12.all id)
theorem w_is_floor (thing : List Int) (T : DT) {V : Bool} (H : m_is_floor thing = some V) : F_is_floor [(eU eI) thing] T = .ok (eB V) false T := by
  unfold m_is_floor at H
  have K_2 := x0_is_floor_ok thing T
  try push_cast [DR.bind_ok] at K_2
  rcases iteB_inv H with ⟨C_3, H⟩ | ⟨C_3, H⟩
  · -- +
    obtain rfl := Option.some.inj H
    (push_cast [F_is_floor, b_is_floor, K_2, C_3, Nat.reduceAdd, Nat.reduceSub, Nat.reduceLT, Nat.reduceLeDiff, Int.reduceLT, Int.reduceLE, Int.reduceNeg, Int.reducePow, Int.reduceToNat]; try with_reducible rfl)
  · -- -
    obtain ⟨y_5, Hy_5, H⟩ := Option.bind_eq_some_iff.mp H
    have K_6 : (seqI (nameE 0)) ⟨[.val ((eU eI) thing), .no, .no, .no], T⟩ = .ok (thing.map eI) ⟨[.val ((eU eI) thing), .no, .no, .no], T⟩ := by (push_cast [K_2, C_3, Nat.reduceAdd, Nat.reduceSub, Nat.reduceLT, Nat.reduceLeDiff, Int.reduceLT, Int.reduceLE, Int.reduceNeg, Int.reducePow, Int.reduceToNat]; try with_reducible rfl)
    have Ky_5 := c0_is_floor_ok thing T thing K_6 Hy_5
    try push_cast [DR.bind_ok] at Ky_5
    rcases iteB_inv H with ⟨C_7, H⟩ | ⟨C_7, H⟩
    · -- +
      obtain rfl := Option.some.inj H
      (push_cast [F_is_floor, b_is_floor, K_2, C_3, Ky_5, C_7, Nat.reduceAdd, Nat.reduceSub, Nat.reduceLT, Nat.reduceLeDiff, Int.reduceLT, Int.reduceLE, Int.reduceNeg, Int.reducePow, Int.reduceToNat]; try with_reducible rfl)
    · -- -
      have K_8 : cutG (.tup false (List.map eI thing)) (some 1) none = some ((.tup false (List.map eI (cutT thing (some 1) none))), false) := cutG_U false eI thing _ _
      have K_9 : cutG (.tup false (List.map eI thing)) none (some 1) = some ((.tup false (List.map eI (cutT thing none (some 1)))), false) := cutG_U false eI thing _ _
      obtain ⟨v_10, Hv_10, H⟩ := Option.bind_eq_some_iff.mp H
      have Kv_10 : addO (.tup false (List.map eI (cutT thing (some 1) none))) (.tup false (List.map eI (cutT thing none (some 1)))) = some ((.tup false (List.map eI v_10)), false) := by
        have := addO_U eI (cutT thing (some 1) none) (cutT thing none (some 1))
        rw [Hv_10] at this
        exact this
      have K_11 := zipP_t eI eI thing v_10
      obtain ⟨y_12, Hy_12, H⟩ := Option.bind_eq_some_iff.mp H
      have K_13 : (zipMI (nameE 0) (plainE (binO addO (plainE (cutN 0 (someQ (constE (.int 1))) noQ)) (plainE (cutN 0 noQ (someQ (constE (.int 1)))))))) ⟨[.val ((eU eI) thing), .no, .no, .no], T⟩ = .ok ((List.zip thing v_10).map (eP2 eI eI)) ⟨[.val ((eU eI) thing), .no, .no, .no], T⟩ := by (push_cast [K_2, C_3, Ky_5, C_7, K_8, K_9, Kv_10, K_11, Nat.reduceAdd, Nat.reduceSub, Nat.reduceLT, Nat.reduceLeDiff, Int.reduceLT, Int.reduceLE, Int.reduceNeg, Int.reducePow, Int.reduceToNat]; try with_reducible rfl)
      have Ky_12 := c1_is_floor_ok thing T (List.zip thing v_10) K_13 Hy_12
      try push_cast [DR.bind_ok] at Ky_12
      obtain rfl := Option.some.inj H
      (push_cast [F_is_floor, b_is_floor, K_2, C_3, Ky_5, C_7, K_8, K_9, Kv_10, K_11, Ky_12, Nat.reduceAdd, Nat.reduceSub, Nat.reduceLT, Nat.reduceLeDiff, Int.reduceLT, Int.reduceLE, Int.reduceNeg, Int.reducePow, Int.reduceToNat]; try with_reducible rfl)
def m_check_floor (thing : List Int) : Option Unit :=
  (m_is_floor thing).bind fun r_1 =>
  if (!r_1) = true then
    none
  else
  some ()
theorem w_check_floor (thing : List Int) (T : DT) {V : Unit} (H : m_check_floor thing = some V) : F_check_floor [(eU eI) thing] T = .ok (eN V) false T := by
  unfold m_check_floor at H
  obtain ⟨r_1, Hr_1, H⟩ := Option.bind_eq_some_iff.mp H
  have Kr_1 : F_is_floor [(.tup false (List.map eI thing))] T = .ok (.bl r_1) false T := w_is_floor thing T Hr_1
  rcases iteB_inv H with ⟨C_2, H⟩ | ⟨C_2, H⟩
  · -- +
    cases H
  · -- -
    obtain rfl := Option.some.inj H
    (push_cast [F_check_floor, b_check_floor, Kr_1, C_2, Nat.reduceAdd, Nat.reduceSub, Nat.reduceLT, Nat.reduceLeDiff, Int.reduceLT, Int.reduceLE, Int.reduceNeg, Int.reducePow, Int.reduceToNat]; try with_reducible rfl)
def b0_rocks (floor : List Int) (many : Int) (quarter : Int) (at_ : Int) (Y0 : Int) : Option Int :=
  (mulT quarter Y0).bind fun v_3 =>
  (modO (at_ + v_3) many).bind fun v_4 =>
  (idx floor v_4).bind fun v_5 =>
  some v_5
theorem c0_rocks_ok (floor : List Int) (many : Int) (quarter : Int) (Z3 : Sl) (at_ : Int) (Z5 : Sl) (T : DT) (XS : List Int) (HX : (range1I (constE (.int 4))) ⟨[.val ((eU eI) floor), .val (eI many), .val (eI quarter), Z3, .val (eI at_), Z5, .no], T⟩ = .ok (XS.map eI) ⟨[.val ((eU eI) floor), .val (eI many), .val (eI quarter), Z3, .val (eI at_), Z5, .no], T⟩) {Y : List Int} (H : compM (b0_rocks floor many quarter at_) XS = some Y) : cp0_rocks ⟨[.val ((eU eI) floor), .val (eI many), .val (eI quarter), Z3, .val (eI at_), Z5, .no], T⟩ = .ok (.lst (Y.map eI), true) ⟨[.val ((eU eI) floor), .val (eI many), .val (eI quarter), Z3, .val (eI at_), Z5, .no], T⟩ := by
  refine (lcO_M (E := eI) (F := eI) (f := b0_rocks floor many quarter at_) HX H fun Y0 V H => ⟨[.val ((eU eI) floor), .val (eI many), .val (eI quarter), Z3, .val (eI at_), Z5, .val (eI Y0)], rfl, ?_⟩).trans (by rfl)
  unfold b0_rocks at H
  obtain ⟨v_3, Hv_3, H⟩ := Option.bind_eq_some_iff.mp H
  obtain ⟨v_4, Hv_4, H⟩ := Option.bind_eq_some_iff.mp H
  obtain ⟨v_5, Hv_5, H⟩ := Option.bind_eq_some_iff.mp H
  have Kv_5 : ixG (.tup false (List.map eI floor)) (.int v_4) = some (.int v_5) := by
    have := ixG_U false eI floor v_4
    rw [Hv_5] at this
    exact this
  obtain rfl := Option.some.inj H
  refine ⟨⟨[.val ((eU eI) floor), .val (eI many), .val (eI quarter), Z3, .val (eI at_), Z5, .val (eI Y0)], T⟩, ?_, rfl, rfl⟩
  (push_cast [Hv_3, Hv_4, Kv_5, Nat.reduceAdd, Nat.reduceSub, Nat.reduceLT, Nat.reduceLeDiff, Int.reduceLT, Int.reduceLE, Int.reduceNeg, Int.reducePow, Int.reduceToNat]; try with_reducible rfl)
def s0_rocks (floor : List Int) (many : Int) (quarter : Int) (found : List Int) (X0 : Int) : Option (((List Int))) :=
  (compM (b0_rocks floor many quarter X0) (rng 0 4)).bind fun y_6 =>
  (idx y_6 0).bind fun v_8 =>
  (idx y_6 2).bind fun v_9 =>
  (idx y_6 1).bind fun v_10 =>
  (idx y_6 3).bind fun v_11 =>
  (snoc found (((v_8 + v_9) - v_10) - v_11)).bind fun found_12 =>
  some found_12
def I0_rocks (floor : List Int) (many : Int) (quarter : Int) (T : DT) (Q : (List Int)) (E : DS) : Prop := ∃ D4 D5, E = ⟨[.val ((eU eI) floor), .val (eI many), .val (eI quarter), .own ((eL eI) Q), D4, D5, .no], T⟩
theorem l0_rocks_bd (floor : List Int) (many : Int) (quarter : Int) (T : DT) (found : List Int) (X0 : Int) (E : DS) (HI : I0_rocks floor many quarter T found E) {O : ((List Int))} (H : s0_rocks floor many quarter found X0 = some O) : ∃ E1, asgT (.nm 4) (eI X0) E.e = some E1 ∧ ∃ E2, (bd0_rocks ⟨E1, E.t⟩ = .ok .nx E2 ∨ bd0_rocks ⟨E1, E.t⟩ = .ok .ct E2) ∧ I0_rocks floor many quarter T O E2 := by
  obtain ⟨D4, D5, rfl⟩ := HI
  refine ⟨[.val ((eU eI) floor), .val (eI many), .val (eI quarter), .own ((eL eI) found), .val (eI X0), D5, .no], rfl, ?_⟩
  unfold s0_rocks at H
  obtain ⟨y_6, Hy_6, H⟩ := Option.bind_eq_some_iff.mp H
  have K_7 : (range1I (constE (.int 4))) ⟨[.val ((eU eI) floor), .val (eI many), .val (eI quarter), .own ((eL eI) found), .val (eI X0), D5, .no], T⟩ = .ok ((rng 0 4).map eI) ⟨[.val ((eU eI) floor), .val (eI many), .val (eI quarter), .own ((eL eI) found), .val (eI X0), D5, .no], T⟩ := by (push_cast [rngO_ok, Nat.reduceAdd, Nat.reduceSub, Nat.reduceLT, Nat.reduceLeDiff, Int.reduceLT, Int.reduceLE, Int.reduceNeg, Int.reducePow, Int.reduceToNat]; try with_reducible rfl)
  have Ky_6 := c0_rocks_ok floor many quarter (.own ((eL eI) found)) X0 D5 T (rng 0 4) K_7 Hy_6
  try push_cast [DR.bind_ok] at Ky_6
  obtain ⟨v_8, Hv_8, H⟩ := Option.bind_eq_some_iff.mp H
  have Kv_8 : ixG (.lst (List.map eI y_6)) (.int 0) = some (.int v_8) := by
    have := ixG_L eI y_6 0
    rw [Hv_8] at this
    exact this
  obtain ⟨v_9, Hv_9, H⟩ := Option.bind_eq_some_iff.mp H
  have Kv_9 : ixG (.lst (List.map eI y_6)) (.int 2) = some (.int v_9) := by
    have := ixG_L eI y_6 2
    rw [Hv_9] at this
    exact this
  obtain ⟨v_10, Hv_10, H⟩ := Option.bind_eq_some_iff.mp H
  have Kv_10 : ixG (.lst (List.map eI y_6)) (.int 1) = some (.int v_10) := by
    have := ixG_L eI y_6 1
    rw [Hv_10] at this
    exact this
  obtain ⟨v_11, Hv_11, H⟩ := Option.bind_eq_some_iff.mp H
  have Kv_11 : ixG (.lst (List.map eI y_6)) (.int 3) = some (.int v_11) := by
    have := ixG_L eI y_6 3
    rw [Hv_11] at this
    exact this
  obtain ⟨found_12, Hfound_12, H⟩ := Option.bind_eq_some_iff.mp H
  have Kfound_12 : appU (.int (((v_8 + v_9) - v_10) - v_11)) (.lst (List.map eI found)) = some ((.lst (List.map eI found_12)), .non) := by
    have := appU_L eI found (((v_8 + v_9) - v_10) - v_11)
    rw [Hfound_12] at this
    exact this
  obtain rfl := Option.some.inj H
  refine ⟨⟨[.val ((eU eI) floor), .val (eI many), .val (eI quarter), .own ((eL eI) found_12), .val (eI X0), .val ((eL eI) y_6), .no], T⟩, .inl ?_, ⟨.val (eI X0), .val ((eL eI) y_6), rfl⟩⟩
  (push_cast [bd0_rocks, Ky_6, Kv_8, Kv_9, Kv_10, Kv_11, Kfound_12, Nat.reduceAdd, Nat.reduceSub, Nat.reduceLT, Nat.reduceLeDiff, Int.reduceLT, Int.reduceLE, Int.reduceNeg, Int.reducePow, Int.reduceToNat]; try with_reducible rfl)
def m_rocks (floor : List Int) : Option (List Int) :=
  (m_check_floor floor).bind fun r_1 =>
  (rngO 0 (floor.length : Int)).bind fun g_2 =>
  (foldO (fun Q X0 => s0_rocks floor (floor.length : Int) ((floor.length : Int) / 4) Q X0) g_2 ([] : List Int)).bind fun l_13 =>
  some l_13
theorem w_rocks (floor : List Int) (T : DT) {V : (List Int)} (H : m_rocks floor = some V) : F_rocks [(eU eI) floor] T = .ok ((eL eI) V) false T := by
  unfold m_rocks at H
  obtain ⟨r_1, Hr_1, H⟩ := Option.bind_eq_some_iff.mp H
  have Kr_1 : F_check_floor [(.tup false (List.map eI floor))] T = .ok .non false T := w_check_floor floor T Hr_1
  obtain ⟨g_2, Hg_2, H⟩ := Option.bind_eq_some_iff.mp H
  obtain ⟨l_13, Hl_13, H⟩ := Option.bind_eq_some_iff.mp H
  have K_14 : it0_rocks ⟨[.val ((eU eI) floor), .val (eI (floor.length : Int)), .val (eI ((floor.length : Int) / 4)), .own ((eL eI) ([] : List Int)), .no, .no, .no], T⟩ = .ok (g_2.map eI) ⟨[.val ((eU eI) floor), .val (eI (floor.length : Int)), .val (eI ((floor.length : Int) / 4)), .own ((eL eI) ([] : List Int)), .no, .no, .no], T⟩ := by (push_cast [it0_rocks, Kr_1, Hg_2, Nat.reduceAdd, Nat.reduceSub, Nat.reduceLT, Nat.reduceLeDiff, Int.reduceLT, Int.reduceLE, Int.reduceNeg, Int.reducePow, Int.reduceToNat]; try with_reducible rfl)
  have Kl_13 := for_fold (I := I0_rocks floor (floor.length : Int) ((floor.length : Int) / 4) T) (tg := (.nm 4)) (b := bd0_rocks) (E := eI) (fun Q E X0 O HI H => l0_rocks_bd floor (floor.length : Int) ((floor.length : Int) / 4) T Q X0 E HI H) g_2 ([] : List Int) ⟨[.val ((eU eI) floor), .val (eI (floor.length : Int)), .val (eI ((floor.length : Int) / 4)), .own ((eL eI) ([] : List Int)), .no, .no, .no], T⟩ _ ⟨.no, .no, rfl⟩ Hl_13
  obtain ⟨E_17, Kl_13, ⟨D_15, D_16, rfl⟩⟩ := Kl_13
  have K_18 : lp0_rocks ⟨[.val ((eU eI) floor), .val (eI (floor.length : Int)), .val (eI ((floor.length : Int) / 4)), .own ((eL eI) ([] : List Int)), .no, .no, .no], T⟩ = .ok .nx ⟨[.val ((eU eI) floor), .val (eI (floor.length : Int)), .val (eI ((floor.length : Int) / 4)), .own ((eL eI) l_13), D_15, D_16, .no], T⟩ := by
    show forS _ _ _ _ = _
    rw [forS_ap, K_14, bind_ok]; exact Kl_13
  try push_cast [DR.bind_ok] at K_18
  obtain rfl := Option.some.inj H
  (push_cast [F_rocks, b_rocks, Kr_1, Hg_2, K_18, Nat.reduceAdd, Nat.reduceSub, Nat.reduceLT, Nat.reduceLeDiff, Int.reduceLT, Int.reduceLE, Int.reduceNeg, Int.reducePow, Int.reduceToNat]; try with_reducible rfl)
theorem c0_stands_at_ok (floor : List Int) (T : DT) (XS : List (Int × Int)) (HX : (enumAI (plainE (callO F_rocks (consA (nameE 0) nilA)))) ⟨[.val ((eU eI) floor), .no, .no], T⟩ = .ok (XS.map (eP2 eI eI)) ⟨[.val ((eU eI) floor), .no, .no], T⟩) {Y : List Int} (H : lenO ((XS.filter fun Y0 => (decide ((iabs Y0.2) ≤ 2))).map fun Y0 => Y0.1) = some Y) : cp0_stands_at ⟨[.val ((eU eI) floor), .no, .no], T⟩ = .ok (.lst (Y.map eI), true) ⟨[.val ((eU eI) floor), .no, .no], T⟩ := by
  refine (lcO_P (E := (eP2 eI eI)) (F := eI) (p := fun Y0 => (decide ((iabs Y0.2) ≤ 2))) (g := fun Y0 => Y0.1) HX H fun Y0 => ⟨[.val ((eU eI) floor), .val (eI Y0.1), .val (eI Y0.2)], rfl, ⟨[.val ((eU eI) floor), .val (eI Y0.1), .val (eI Y0.2)], T⟩, ?_, fun _ => ⟨rfl, rfl⟩, fun HP => ⟨⟨[.val ((eU eI) floor), .val (eI Y0.1), .val (eI Y0.2)], T⟩, ?_, rfl, rfl⟩⟩).trans (by rfl)
  · (push_cast [bind_ok, t_and, t_or, e_and, e_or, i_andT, i_orT, i_andE, i_orE, i_int, k_if, k_ch3, Nat.reduceAdd, Nat.reduceSub, Nat.reduceLT, Nat.reduceLeDiff, Int.reduceLT, Int.reduceLE, Int.reduceNeg, Int.reducePow, Int.reduceToNat]; try with_reducible rfl)
  · have HP : decide ((iabs Y0.2) ≤ 2) = true := by simpa using HP
    (push_cast [HP, t_and, t_or, e_and, e_or, i_andT, i_orT, i_andE, i_orE, i_int, k_if, k_ch3, Nat.reduceAdd, Nat.reduceSub, Nat.reduceLT, Nat.reduceLeDiff, Int.reduceLT, Int.reduceLE, Int.reduceNeg, Int.reducePow, Int.reduceToNat]; try with_reducible rfl)
def m_stands_at (floor : List Int) : Option Int :=
  (m_rocks floor).bind fun r_1 =>
  (lenO (((enumT 0 r_1).filter fun Y0 => (decide ((iabs Y0.2) ≤ 2))).map fun Y0 => Y0.1)).bind fun y_3 =>
  (idx y_3 0).bind fun v_5 =>
  some v_5
theorem w_stands_at (floor : List Int) (T : DT) {V : Int} (H : m_stands_at floor = some V) : F_stands_at [(eU eI) floor] T = .ok (eI V) false T := by
  unfold m_stands_at at H
  obtain ⟨r_1, Hr_1, H⟩ := Option.bind_eq_some_iff.mp H
  have Kr_1 : F_rocks [(.tup false (List.map eI floor))] T = .ok (.lst (List.map eI r_1)) false T := w_rocks floor T Hr_1
  have K_2 := enumP_t eI 0 r_1
  obtain ⟨y_3, Hy_3, H⟩ := Option.bind_eq_some_iff.mp H
  have K_4 : (enumAI (plainE (callO F_rocks (consA (nameE 0) nilA)))) ⟨[.val ((eU eI) floor), .no, .no], T⟩ = .ok ((enumT 0 r_1).map (eP2 eI eI)) ⟨[.val ((eU eI) floor), .no, .no], T⟩ := by (push_cast [Kr_1, K_2, Nat.reduceAdd, Nat.reduceSub, Nat.reduceLT, Nat.reduceLeDiff, Int.reduceLT, Int.reduceLE, Int.reduceNeg, Int.reducePow, Int.reduceToNat]; try with_reducible rfl)
  have Ky_3 := c0_stands_at_ok floor T (enumT 0 r_1) K_4 Hy_3
  try push_cast [DR.bind_ok] at Ky_3
  obtain ⟨v_5, Hv_5, H⟩ := Option.bind_eq_some_iff.mp H
  have Kv_5 : ixG (.lst (List.map eI y_3)) (.int 0) = some (.int v_5) := by
    have := ixG_L eI y_3 0
    rw [Hv_5] at this
    exact this
  obtain rfl := Option.some.inj H
  (push_cast [F_stands_at, b_stands_at, Kr_1, K_2, Ky_3, Kv_5, Nat.reduceAdd, Nat.reduceSub, Nat.reduceLT, Nat.reduceLeDiff, Int.reduceLT, Int.reduceLE, Int.reduceNeg, Int.reducePow, Int.reduceToNat]; try with_reducible rfl)
def s0__law_floor  (hd : Hd) (row : List Int) (X0 : Int) : Option ((Hd × (List Int))) :=
  (idx row (-1)).bind fun v_4 =>
  (m__law_draw hd 3).bind fun r_5 =>
  (snoc row ((v_4 + r_5.1) - 1)).bind fun row_6 =>
  some (r_5.2, row_6)
def I0__law_floor (Z1 : Sl) (Q : Hd × (List Int)) (E : DS) : Prop := ∃ D3, E = ⟨[.val (.cell 1), Z1, .own ((eL eI) Q.2), D3, .no, .no], [tb 0 "_law_refused_right", Q.1.1]⟩
theorem l0__law_floor_bd (Z1 : Sl) (hd : Hd) (row : List Int) (X0 : Int) (E : DS) (HI : I0__law_floor Z1 (hd, row) E) {O : (Hd × (List Int))} (H : s0__law_floor  hd row X0 = some O) : ∃ E1, asgT (.nm 3) (eI X0) E.e = some E1 ∧ ∃ E2, (bd0__law_floor ⟨E1, E.t⟩ = .ok .nx E2 ∨ bd0__law_floor ⟨E1, E.t⟩ = .ok .ct E2) ∧ I0__law_floor Z1 O E2 := by
  obtain ⟨D3, rfl⟩ := HI
  refine ⟨[.val (.cell 1), Z1, .own ((eL eI) row), .val (eI X0), .no, .no], rfl, ?_⟩
  unfold s0__law_floor at H
  obtain ⟨v_4, Hv_4, H⟩ := Option.bind_eq_some_iff.mp H
  have Kv_4 : ixG (.lst (List.map eI row)) (.int (-1)) = some (.int v_4) := by
    have := ixG_L eI row (-1)
    rw [Hv_4] at this
    exact this
  obtain ⟨r_5, Hr_5, H⟩ := Option.bind_eq_some_iff.mp H
  have Kr_5 := w__law_draw hd 3 Hr_5
  obtain ⟨row_6, Hrow_6, H⟩ := Option.bind_eq_some_iff.mp H
  have Krow_6 : appU (.int ((v_4 + r_5.1) - 1)) (.lst (List.map eI row)) = some ((.lst (List.map eI row_6)), .non) := by
    have := appU_L eI row ((v_4 + r_5.1) - 1)
    rw [Hrow_6] at this
    exact this
  obtain rfl := Option.some.inj H
  refine ⟨⟨[.val (.cell 1), Z1, .own ((eL eI) row_6), .val (eI X0), .no, .no], [tb 0 "_law_refused_right", r_5.2.1]⟩, .inl ?_, ⟨.val (eI X0), rfl⟩⟩
  (push_cast [bd0__law_floor, Kv_4, Kr_5, Krow_6, Nat.reduceAdd, Nat.reduceSub, Nat.reduceLT, Nat.reduceLeDiff, Int.reduceLT, Int.reduceLE, Int.reduceNeg, Int.reducePow, Int.reduceToNat]; try with_reducible rfl)
def m__law_floor (hd : Hd) : Option ((List Int) × Hd) :=
  (m__law_draw hd 6).bind fun r_1 =>
  (m__law_draw r_1.2 11).bind fun r_2 =>
  (rngO 0 ((2 * (1 + r_1.1)) - 1)).bind fun g_3 =>
  (foldO (fun Q X0 => s0__law_floor  Q.1 Q.2 X0) g_3 (r_2.2, [(r_2.1 - 5)])).bind fun l_7 =>
  (appO l_7.2 l_7.2.reverse).bind fun v_12 =>
  (m__law_draw l_7.1 (v_12.length : Int)).bind fun r_13 =>
  (appO (cutT v_12 (some r_13.1) none) (cutT v_12 none (some r_13.1))).bind fun v_16 =>
  some (v_16, r_13.2)
theorem w__law_floor (hd : Hd) {V : ((List Int) × Hd)} (H : m__law_floor hd = some V) : F__law_floor [.cell 1] [tb 0 "_law_refused_right", hd.1] = .ok ((eU eI) V.1) false [tb 0 "_law_refused_right", V.2.1] := by
  unfold m__law_floor at H
  obtain ⟨r_1, Hr_1, H⟩ := Option.bind_eq_some_iff.mp H
  have Kr_1 := w__law_draw hd 6 Hr_1
  obtain ⟨r_2, Hr_2, H⟩ := Option.bind_eq_some_iff.mp H
  have Kr_2 := w__law_draw r_1.2 11 Hr_2
  obtain ⟨g_3, Hg_3, H⟩ := Option.bind_eq_some_iff.mp H
  obtain ⟨l_7, Hl_7, H⟩ := Option.bind_eq_some_iff.mp H
  have K_8 : it0__law_floor ⟨[.val (.cell 1), .val (eI (2 * (1 + r_1.1))), .own ((eL eI) ([(r_2.1 - 5)])), .no, .no, .no], [tb 0 "_law_refused_right", r_2.2.1]⟩ = .ok (g_3.map eI) ⟨[.val (.cell 1), .val (eI (2 * (1 + r_1.1))), .own ((eL eI) ([(r_2.1 - 5)])), .no, .no, .no], [tb 0 "_law_refused_right", r_2.2.1]⟩ := by (push_cast [it0__law_floor, Kr_1, Kr_2, Hg_3, Nat.reduceAdd, Nat.reduceSub, Nat.reduceLT, Nat.reduceLeDiff, Int.reduceLT, Int.reduceLE, Int.reduceNeg, Int.reducePow, Int.reduceToNat]; try with_reducible rfl)
  have Kl_7 := for_fold (I := I0__law_floor (.val (eI (2 * (1 + r_1.1))))) (tg := (.nm 3)) (b := bd0__law_floor) (E := eI) (fun Q E X0 O HI H => l0__law_floor_bd (.val (eI (2 * (1 + r_1.1)))) Q.1 Q.2 X0 E HI H) g_3 (r_2.2, [(r_2.1 - 5)]) ⟨[.val (.cell 1), .val (eI (2 * (1 + r_1.1))), .own ((eL eI) ([(r_2.1 - 5)])), .no, .no, .no], [tb 0 "_law_refused_right", r_2.2.1]⟩ _ ⟨.no, rfl⟩ Hl_7
  obtain ⟨E_10, Kl_7, ⟨D_9, rfl⟩⟩ := Kl_7
  have K_11 : lp0__law_floor ⟨[.val (.cell 1), .val (eI (2 * (1 + r_1.1))), .own ((eL eI) ([(r_2.1 - 5)])), .no, .no, .no], [tb 0 "_law_refused_right", r_2.2.1]⟩ = .ok .nx ⟨[.val (.cell 1), .val (eI (2 * (1 + r_1.1))), .own ((eL eI) l_7.2), D_9, .no, .no], [tb 0 "_law_refused_right", l_7.1.1]⟩ := by
    show forS _ _ _ _ = _
    rw [forS_ap, K_8, bind_ok]; exact Kl_7
  try push_cast [DR.bind_ok] at K_11
  obtain ⟨v_12, Hv_12, H⟩ := Option.bind_eq_some_iff.mp H
  have Kv_12 : addO (.lst (List.map eI l_7.2)) (.lst (List.map eI l_7.2.reverse)) = some ((.lst (List.map eI v_12)), true) := by
    have := addO_L eI l_7.2 l_7.2.reverse
    rw [Hv_12] at this
    exact this
  obtain ⟨r_13, Hr_13, H⟩ := Option.bind_eq_some_iff.mp H
  have Kr_13 := w__law_draw l_7.1 (v_12.length : Int) Hr_13
  have K_14 : cutG (.lst (List.map eI v_12)) (some r_13.1) none = some ((.lst (List.map eI (cutT v_12 (some r_13.1) none))), true) := cutG_L eI v_12 _ _
  have K_15 : cutG (.lst (List.map eI v_12)) none (some r_13.1) = some ((.lst (List.map eI (cutT v_12 none (some r_13.1)))), true) := cutG_L eI v_12 _ _
  obtain ⟨v_16, Hv_16, H⟩ := Option.bind_eq_some_iff.mp H
  have Kv_16 : addO (.lst (List.map eI (cutT v_12 (some r_13.1) none))) (.lst (List.map eI (cutT v_12 none (some r_13.1)))) = some ((.lst (List.map eI v_16)), true) := by
    have := addO_L eI (cutT v_12 (some r_13.1) none) (cutT v_12 none (some r_13.1))
    rw [Hv_16] at this
    exact this
  obtain rfl := Option.some.inj H
  (push_cast [F__law_floor, b__law_floor, Kr_1, Kr_2, Hg_3, K_11, Kv_12, Kr_13, K_14, K_15, Kv_16, Nat.reduceAdd, Nat.reduceSub, Nat.reduceLT, Nat.reduceLeDiff, Int.reduceLT, Int.reduceLE, Int.reduceNeg, Int.reducePow, Int.reduceToNat]; try with_reducible rfl)
def b0__law_rocks (floor : List Int) (many : Int) (at_ : Int) (Y0 : Int) : Option Int :=
  (mulT (many / 4) Y0).bind fun v_2 =>
  (modO (at_ + v_2) many).bind fun v_3 =>
  (idx floor v_3).bind fun v_4 =>
  some v_4
theorem c0__law_rocks_ok (floor : List Int) (many : Int) (Z2 : Sl) (at_ : Int) (Z4 : Sl) (T : DT) (XS : List Int) (HX : (range1I (constE (.int 4))) ⟨[.val ((eU eI) floor), .val (eI many), Z2, .val (eI at_), Z4, .no], T⟩ = .ok (XS.map eI) ⟨[.val ((eU eI) floor), .val (eI many), Z2, .val (eI at_), Z4, .no], T⟩) {Y : List Int} (H : compM (b0__law_rocks floor many at_) XS = some Y) : cp0__law_rocks ⟨[.val ((eU eI) floor), .val (eI many), Z2, .val (eI at_), Z4, .no], T⟩ = .ok (.lst (Y.map eI), true) ⟨[.val ((eU eI) floor), .val (eI many), Z2, .val (eI at_), Z4, .no], T⟩ := by
  refine (lcO_M (E := eI) (F := eI) (f := b0__law_rocks floor many at_) HX H fun Y0 V H => ⟨[.val ((eU eI) floor), .val (eI many), Z2, .val (eI at_), Z4, .val (eI Y0)], rfl, ?_⟩).trans (by rfl)
  unfold b0__law_rocks at H
  obtain ⟨v_2, Hv_2, H⟩ := Option.bind_eq_some_iff.mp H
  obtain ⟨v_3, Hv_3, H⟩ := Option.bind_eq_some_iff.mp H
  obtain ⟨v_4, Hv_4, H⟩ := Option.bind_eq_some_iff.mp H
  have Kv_4 : ixG (.tup false (List.map eI floor)) (.int v_3) = some (.int v_4) := by
    have := ixG_U false eI floor v_3
    rw [Hv_4] at this
    exact this
  obtain rfl := Option.some.inj H
  refine ⟨⟨[.val ((eU eI) floor), .val (eI many), Z2, .val (eI at_), Z4, .val (eI Y0)], T⟩, ?_, rfl, rfl⟩
  (push_cast [Hv_2, Hv_3, Kv_4, Nat.reduceAdd, Nat.reduceSub, Nat.reduceLT, Nat.reduceLeDiff, Int.reduceLT, Int.reduceLE, Int.reduceNeg, Int.reducePow, Int.reduceToNat]; try with_reducible rfl)
def s0__law_rocks (floor : List Int) (many : Int) (found : List Int) (X0 : Int) : Option (((List Int))) :=
  (compM (b0__law_rocks floor many X0) (rng 0 4)).bind fun y_5 =>
  (idx y_5 0).bind fun v_7 =>
  (idx y_5 2).bind fun v_8 =>
  (idx y_5 1).bind fun v_9 =>
  (idx y_5 3).bind fun v_10 =>
  (snoc found (((v_7 + v_8) - v_9) - v_10)).bind fun found_11 =>
  some found_11
def I0__law_rocks (floor : List Int) (many : Int) (T : DT) (Q : (List Int)) (E : DS) : Prop := ∃ D3 D4, E = ⟨[.val ((eU eI) floor), .val (eI many), .own ((eL eI) Q), D3, D4, .no], T⟩
theorem l0__law_rocks_bd (floor : List Int) (many : Int) (T : DT) (found : List Int) (X0 : Int) (E : DS) (HI : I0__law_rocks floor many T found E) {O : ((List Int))} (H : s0__law_rocks floor many found X0 = some O) : ∃ E1, asgT (.nm 3) (eI X0) E.e = some E1 ∧ ∃ E2, (bd0__law_rocks ⟨E1, E.t⟩ = .ok .nx E2 ∨ bd0__law_rocks ⟨E1, E.t⟩ = .ok .ct E2) ∧ I0__law_rocks floor many T O E2 := by
  obtain ⟨D3, D4, rfl⟩ := HI
  refine ⟨[.val ((eU eI) floor), .val (eI many), .own ((eL eI) found), .val (eI X0), D4, .no], rfl, ?_⟩
  unfold s0__law_rocks at H
  obtain ⟨y_5, Hy_5, H⟩ := Option.bind_eq_some_iff.mp H
  have K_6 : (range1I (constE (.int 4))) ⟨[.val ((eU eI) floor), .val (eI many), .own ((eL eI) found), .val (eI X0), D4, .no], T⟩ = .ok ((rng 0 4).map eI) ⟨[.val ((eU eI) floor), .val (eI many), .own ((eL eI) found), .val (eI X0), D4, .no], T⟩ := by (push_cast [rngO_ok, Nat.reduceAdd, Nat.reduceSub, Nat.reduceLT, Nat.reduceLeDiff, Int.reduceLT, Int.reduceLE, Int.reduceNeg, Int.reducePow, Int.reduceToNat]; try with_reducible rfl)
  have Ky_5 := c0__law_rocks_ok floor many (.own ((eL eI) found)) X0 D4 T (rng 0 4) K_6 Hy_5
  try push_cast [DR.bind_ok] at Ky_5
  obtain ⟨v_7, Hv_7, H⟩ := Option.bind_eq_some_iff.mp H
  have Kv_7 : ixG (.lst (List.map eI y_5)) (.int 0) = some (.int v_7) := by
    have := ixG_L eI y_5 0
    rw [Hv_7] at this
    exact this
  obtain ⟨v_8, Hv_8, H⟩ := Option.bind_eq_some_iff.mp H
  have Kv_8 : ixG (.lst (List.map eI y_5)) (.int 2) = some (.int v_8) := by
    have := ixG_L eI y_5 2
    rw [Hv_8] at this
    exact this
  obtain ⟨v_9, Hv_9, H⟩ := Option.bind_eq_some_iff.mp H
  have Kv_9 : ixG (.lst (List.map eI y_5)) (.int 1) = some (.int v_9) := by
    have := ixG_L eI y_5 1
    rw [Hv_9] at this
    exact this
  obtain ⟨v_10, Hv_10, H⟩ := Option.bind_eq_some_iff.mp H
  have Kv_10 : ixG (.lst (List.map eI y_5)) (.int 3) = some (.int v_10) := by
    have := ixG_L eI y_5 3
    rw [Hv_10] at this
    exact this
  obtain ⟨found_11, Hfound_11, H⟩ := Option.bind_eq_some_iff.mp H
  have Kfound_11 : appU (.int (((v_7 + v_8) - v_9) - v_10)) (.lst (List.map eI found)) = some ((.lst (List.map eI found_11)), .non) := by
    have := appU_L eI found (((v_7 + v_8) - v_9) - v_10)
    rw [Hfound_11] at this
    exact this
  obtain rfl := Option.some.inj H
  refine ⟨⟨[.val ((eU eI) floor), .val (eI many), .own ((eL eI) found_11), .val (eI X0), .val ((eL eI) y_5), .no], T⟩, .inl ?_, ⟨.val (eI X0), .val ((eL eI) y_5), rfl⟩⟩
  (push_cast [bd0__law_rocks, Ky_5, Kv_7, Kv_8, Kv_9, Kv_10, Kfound_11, Nat.reduceAdd, Nat.reduceSub, Nat.reduceLT, Nat.reduceLeDiff, Int.reduceLT, Int.reduceLE, Int.reduceNeg, Int.reducePow, Int.reduceToNat]; try with_reducible rfl)
def m__law_rocks (floor : List Int) : Option (List Int) :=
  (rngO 0 (floor.length : Int)).bind fun g_1 =>
  (foldO (fun Q X0 => s0__law_rocks floor (floor.length : Int) Q X0) g_1 ([] : List Int)).bind fun l_12 =>
  some l_12
theorem w__law_rocks (floor : List Int) (T : DT) {V : (List Int)} (H : m__law_rocks floor = some V) : F__law_rocks [(eU eI) floor] T = .ok ((eL eI) V) false T := by
  unfold m__law_rocks at H
  obtain ⟨g_1, Hg_1, H⟩ := Option.bind_eq_some_iff.mp H
  obtain ⟨l_12, Hl_12, H⟩ := Option.bind_eq_some_iff.mp H
  have K_13 : it0__law_rocks ⟨[.val ((eU eI) floor), .val (eI (floor.length : Int)), .own ((eL eI) ([] : List Int)), .no, .no, .no], T⟩ = .ok (g_1.map eI) ⟨[.val ((eU eI) floor), .val (eI (floor.length : Int)), .own ((eL eI) ([] : List Int)), .no, .no, .no], T⟩ := by (push_cast [it0__law_rocks, Hg_1, Nat.reduceAdd, Nat.reduceSub, Nat.reduceLT, Nat.reduceLeDiff, Int.reduceLT, Int.reduceLE, Int.reduceNeg, Int.reducePow, Int.reduceToNat]; try with_reducible rfl)
  have Kl_12 := for_fold (I := I0__law_rocks floor (floor.length : Int) T) (tg := (.nm 3)) (b := bd0__law_rocks) (E := eI) (fun Q E X0 O HI H => l0__law_rocks_bd floor (floor.length : Int) T Q X0 E HI H) g_1 ([] : List Int) ⟨[.val ((eU eI) floor), .val (eI (floor.length : Int)), .own ((eL eI) ([] : List Int)), .no, .no, .no], T⟩ _ ⟨.no, .no, rfl⟩ Hl_12
  obtain ⟨E_16, Kl_12, ⟨D_14, D_15, rfl⟩⟩ := Kl_12
  have K_17 : lp0__law_rocks ⟨[.val ((eU eI) floor), .val (eI (floor.length : Int)), .own ((eL eI) ([] : List Int)), .no, .no, .no], T⟩ = .ok .nx ⟨[.val ((eU eI) floor), .val (eI (floor.length : Int)), .own ((eL eI) l_12), D_14, D_15, .no], T⟩ := by
    show forS _ _ _ _ = _
    rw [forS_ap, K_13, bind_ok]; exact Kl_12
  try push_cast [DR.bind_ok] at K_17
  obtain rfl := Option.some.inj H
  (push_cast [F__law_rocks, b__law_rocks, Hg_1, K_17, Nat.reduceAdd, Nat.reduceSub, Nat.reduceLT, Nat.reduceLeDiff, Int.reduceLT, Int.reduceLE, Int.reduceNeg, Int.reducePow, Int.reduceToNat]; try with_reducible rfl)
def x0__law_is_right (floor : List Int) (own : List Int) : Option Bool :=
  (m_is_floor floor).bind fun r_2 =>
  if r_2 = true then
    (m_rocks floor).bind fun r_4 =>
    some (!decide (r_4 = own))
  else
  some true
theorem x0__law_is_right_ok (floor : List Int) (own : List Int) (Z2 : Sl) (T : DT) {W : Bool} (H : x0__law_is_right floor own = some W) : te0__law_is_right ⟨[.val ((eU eI) floor), .val ((eL eI) own), Z2, .no, .no, .no, .no], T⟩ = .ok W ⟨[.val ((eU eI) floor), .val ((eL eI) own), Z2, .no, .no, .no, .no], T⟩ := by
  unfold x0__law_is_right at H
  obtain ⟨r_2, Hr_2, H⟩ := Option.bind_eq_some_iff.mp H
  have Kr_2 : F_is_floor [(.tup false (List.map eI floor))] T = .ok (.bl r_2) false T := w_is_floor floor T Hr_2
  rcases ite_inv H with ⟨C_3, H⟩ | ⟨C_3, H⟩
  · -- +
    replace C_3 := decide_eq_true C_3
    obtain ⟨r_4, Hr_4, H⟩ := Option.bind_eq_some_iff.mp H
    have Kr_4 : F_rocks [(.tup false (List.map eI floor))] T = .ok (.lst (List.map eI r_4)) false T := w_rocks floor T Hr_4
    have K_5 : eqG true (.lst (List.map eI r_4)) (.lst (List.map eI own)) = some (.bl (true != decide (r_4 = own))) := eq_t true (eL eI) r_4 own (by decide)
    obtain rfl := Option.some.inj H
    (push_cast [te0__law_is_right, Kr_2, C_3, Kr_4, K_5, Nat.reduceAdd, Nat.reduceSub, Nat.reduceLT, Nat.reduceLeDiff, Int.reduceLT, Int.reduceLE, Int.reduceNeg, Int.reducePow, Int.reduceToNat]; try with_reducible rfl)
  · -- -
    replace C_3 := decide_eq_false C_3
    obtain rfl := Option.some.inj H
    (push_cast [te0__law_is_right, Kr_2, C_3, Nat.reduceAdd, Nat.reduceSub, Nat.reduceLT, Nat.reduceLeDiff, Int.reduceLT, Int.reduceLE, Int.reduceNeg, Int.reducePow, Int.reduceToNat]; try with_reducible rfl)
def s0__law_is_right (floor : List Int) (own : List Int) (quarter : Int)  (X0 : Int) : Option (Fw (Unit) Bool) :=
  (modO (X0 + quarter) (floor.length : Int)).bind fun v_9 =>
  (idx own v_9).bind fun v_10 =>
  (idx own X0).bind fun v_11 =>
  if v_10 = (0 - v_11) then
    some (.nx ())
  else
  some (.rt false)
def I0__law_is_right (floor : List Int) (own : List Int) (quarter : Int) (T : DT) (Q : Unit) (E : DS) : Prop := ∃ D3, E = ⟨[.val ((eU eI) floor), .val ((eL eI) own), .val (eI quarter), D3, .no, .no, .no], T⟩
theorem l0__law_is_right_bd (floor : List Int) (own : List Int) (quarter : Int) (T : DT)  (X0 : Int) (E : DS) (HI : I0__law_is_right floor own quarter T () E) {O : Fw (Unit) Bool} (H : s0__law_is_right floor own quarter  X0 = some O) : ∃ E1, asgT (.nm 3) (eI X0) E.e = some E1 ∧ BodyOk bd0__law_is_right ⟨E1, E.t⟩ (I0__law_is_right floor own quarter T) (fun V : Bool => (eB V, false)) (fun _ E => E.t = T) O := by
  obtain ⟨D3, rfl⟩ := HI
  refine ⟨[.val ((eU eI) floor), .val ((eL eI) own), .val (eI quarter), .val (eI X0), .no, .no, .no], rfl, ?_⟩
  unfold s0__law_is_right at H
  obtain ⟨v_9, Hv_9, H⟩ := Option.bind_eq_some_iff.mp H
  obtain ⟨v_10, Hv_10, H⟩ := Option.bind_eq_some_iff.mp H
  have Kv_10 : ixG (.lst (List.map eI own)) (.int v_9) = some (.int v_10) := by
    have := ixG_L eI own v_9
    rw [Hv_10] at this
    exact this
  obtain ⟨v_11, Hv_11, H⟩ := Option.bind_eq_some_iff.mp H
  have Kv_11 : ixG (.lst (List.map eI own)) (.int X0) = some (.int v_11) := by
    have := ixG_L eI own X0
    rw [Hv_11] at this
    exact this
  rcases ite_inv H with ⟨C_12, H⟩ | ⟨C_12, H⟩
  · -- +
    replace C_12 := decide_eq_true C_12
    obtain rfl := Option.some.inj H
    refine ⟨⟨[.val ((eU eI) floor), .val ((eL eI) own), .val (eI quarter), .val (eI X0), .no, .no, .no], T⟩, .inl ?_, ⟨.val (eI X0), rfl⟩⟩
    (push_cast [bd0__law_is_right, Hv_9, Kv_10, Kv_11, C_12, Nat.reduceAdd, Nat.reduceSub, Nat.reduceLT, Nat.reduceLeDiff, Int.reduceLT, Int.reduceLE, Int.reduceNeg, Int.reducePow, Int.reduceToNat]; try with_reducible rfl)
  · -- -
    replace C_12 := decide_eq_false C_12
    obtain rfl := Option.some.inj H
    refine ⟨⟨[.val ((eU eI) floor), .val ((eL eI) own), .val (eI quarter), .val (eI X0), .no, .no, .no], T⟩, ?_, rfl⟩
    (push_cast [bd0__law_is_right, Hv_9, Kv_10, Kv_11, C_12, Nat.reduceAdd, Nat.reduceSub, Nat.reduceLT, Nat.reduceLeDiff, Int.reduceLT, Int.reduceLE, Int.reduceNeg, Int.reducePow, Int.reduceToNat]; try with_reducible rfl)
theorem c0__law_is_right_ok (Z0 : Sl) (own : List Int) (Z2 : Sl) (Z3 : Sl) (Z4 : Sl) (T : DT) (XS : List (Int × Int)) (HX : (enumAI (nameE 1)) ⟨[Z0, .val ((eL eI) own), Z2, Z3, Z4, .no, .no], T⟩ = .ok (XS.map (eP2 eI eI)) ⟨[Z0, .val ((eL eI) own), Z2, Z3, Z4, .no, .no], T⟩) {Y : List Int} (H : lenO ((XS.filter fun Y0 => (decide ((iabs Y0.2) ≤ 2))).map fun Y0 => Y0.1) = some Y) : cp0__law_is_right ⟨[Z0, .val ((eL eI) own), Z2, Z3, Z4, .no, .no], T⟩ = .ok (.lst (Y.map eI), true) ⟨[Z0, .val ((eL eI) own), Z2, (rest1 Z3), Z4, .no, .no], T⟩ := by
  refine (lcO_P (E := (eP2 eI eI)) (F := eI) (p := fun Y0 => (decide ((iabs Y0.2) ≤ 2))) (g := fun Y0 => Y0.1) HX H fun Y0 => ⟨[Z0, .val ((eL eI) own), Z2, .val (eI Y0.1), Z4, .no, .val (eI Y0.2)], rfl, ⟨[Z0, .val ((eL eI) own), Z2, .val (eI Y0.1), Z4, .no, .val (eI Y0.2)], T⟩, ?_, fun _ => ⟨rfl, rfl⟩, fun HP => ⟨⟨[Z0, .val ((eL eI) own), Z2, .val (eI Y0.1), Z4, .no, .val (eI Y0.2)], T⟩, ?_, rfl, rfl⟩⟩).trans (by rfl)
  · (push_cast [bind_ok, t_and, t_or, e_and, e_or, i_andT, i_orT, i_andE, i_orE, i_int, k_if, k_ch3, Nat.reduceAdd, Nat.reduceSub, Nat.reduceLT, Nat.reduceLeDiff, Int.reduceLT, Int.reduceLE, Int.reduceNeg, Int.reducePow, Int.reduceToNat]; try with_reducible rfl)
  · have HP : decide ((iabs Y0.2) ≤ 2) = true := by simpa using HP
    (push_cast [HP, t_and, t_or, e_and, e_or, i_andT, i_orT, i_andE, i_orE, i_int, k_if, k_ch3, Nat.reduceAdd, Nat.reduceSub, Nat.reduceLT, Nat.reduceLeDiff, Int.reduceLT, Int.reduceLE, Int.reduceNeg, Int.reducePow, Int.reduceToNat]; try with_reducible rfl)
def x1__law_is_right (own : List Int) (quarter : Int) (first_ : Int) : Option Bool :=
  (lenO (((enumT 0 own).filter fun Y0 => (decide ((iabs Y0.2) ≤ 2))).map fun Y0 => Y0.1)).bind fun y_22 =>
  (idx y_22 0).bind fun v_24 =>
  if first_ = v_24 then
    some (decide (quarter ≤ first_))
  else
  some true
theorem x1__law_is_right_ok (Z0 : Sl) (own : List Int) (quarter : Int) (Z3 : Sl) (first_ : Int) (T : DT) {W : Bool} (H : x1__law_is_right own quarter first_ = some W) : te1__law_is_right ⟨[Z0, .val ((eL eI) own), .val (eI quarter), Z3, .val (eI first_), .no, .no], T⟩ = .ok W ⟨[Z0, .val ((eL eI) own), .val (eI quarter), (rest1 Z3), .val (eI first_), .no, .no], T⟩ := by
  unfold x1__law_is_right at H
  have K_21 := enumP_t eI 0 own
  obtain ⟨y_22, Hy_22, H⟩ := Option.bind_eq_some_iff.mp H
  have K_23 : (enumAI (nameE 1)) ⟨[Z0, .val ((eL eI) own), .val (eI quarter), Z3, .val (eI first_), .no, .no], T⟩ = .ok ((enumT 0 own).map (eP2 eI eI)) ⟨[Z0, .val ((eL eI) own), .val (eI quarter), Z3, .val (eI first_), .no, .no], T⟩ := by (push_cast [K_21, Nat.reduceAdd, Nat.reduceSub, Nat.reduceLT, Nat.reduceLeDiff, Int.reduceLT, Int.reduceLE, Int.reduceNeg, Int.reducePow, Int.reduceToNat]; try with_reducible rfl)
  have Ky_22 := c0__law_is_right_ok Z0 own (.val (eI quarter)) Z3 (.val (eI first_)) T (enumT 0 own) K_23 Hy_22
  try push_cast [DR.bind_ok] at Ky_22
  obtain ⟨v_24, Hv_24, H⟩ := Option.bind_eq_some_iff.mp H
  have Kv_24 : ixG (.lst (List.map eI y_22)) (.int 0) = some (.int v_24) := by
    have := ixG_L eI y_22 0
    rw [Hv_24] at this
    exact this
  rcases ite_inv H with ⟨C_25, H⟩ | ⟨C_25, H⟩
  · -- +
    replace C_25 := decide_eq_true C_25
    obtain rfl := Option.some.inj H
    (push_cast [te1__law_is_right, K_21, Ky_22, Kv_24, C_25, Nat.reduceAdd, Nat.reduceSub, Nat.reduceLT, Nat.reduceLeDiff, Int.reduceLT, Int.reduceLE, Int.reduceNeg, Int.reducePow, Int.reduceToNat]; try with_reducible rfl)
  · -- -
    replace C_25 := decide_eq_false C_25
    obtain rfl := Option.some.inj H
    (push_cast [te1__law_is_right, K_21, Ky_22, Kv_24, C_25, Nat.reduceAdd, Nat.reduceSub, Nat.reduceLT, Nat.reduceLeDiff, Int.reduceLT, Int.reduceLE, Int.reduceNeg, Int.reducePow, Int.reduceToNat]; try with_reducible rfl)
theorem c1__law_is_right_ok (Z0 : Sl) (own : List Int) (quarter : Int) (Z3 : Sl) (Z4 : Sl) (begin : Int) (T : DT) (XS : List Int) (HX : (seqI (plainE (cutN 1 (someQ (nameE 5)) (someQ (plainE (binO addO (nameE 5) (nameE 2))))))) ⟨[Z0, .val ((eL eI) own), .val (eI quarter), Z3, Z4, .val (eI begin), .no], T⟩ = .ok (XS.map eI) ⟨[Z0, .val ((eL eI) own), .val (eI quarter), Z3, Z4, .val (eI begin), .no], T⟩) {Y : List Bool} (H : lenO (XS.map fun Y1 => (decide ((iabs Y1) ≤ 2))) = some Y) : cp1__law_is_right ⟨[Z0, .val ((eL eI) own), .val (eI quarter), Z3, Z4, .val (eI begin), .no], T⟩ = .ok (.lst (Y.map eB), true) ⟨[Z0, .val ((eL eI) own), .val (eI quarter), Z3, Z4, .val (eI begin), .no], T⟩ := by
  refine (lcO_Q (E := eI) (F := eB) (g := fun Y1 => (decide ((iabs Y1) ≤ 2))) HX H fun Y1 => ⟨[Z0, .val ((eL eI) own), .val (eI quarter), Z3, Z4, .val (eI begin), .val (eI Y1)], rfl, ⟨[Z0, .val ((eL eI) own), .val (eI quarter), Z3, Z4, .val (eI begin), .val (eI Y1)], T⟩, ?_, rfl, rfl⟩).trans (by rfl)
  (push_cast [bind_ok, t_and, t_or, e_and, e_or, i_andT, i_orT, i_andE, i_orE, i_int, k_if, k_ch3, Nat.reduceAdd, Nat.reduceSub, Nat.reduceLT, Nat.reduceLeDiff, Int.reduceLT, Int.reduceLE, Int.reduceNeg, Int.reducePow, Int.reduceToNat]; try with_reducible rfl)
def s1__law_is_right (own : List Int) (quarter : Int)  (X1 : Int) : Option (Fw (Unit) Bool) :=
  (lenO ((cutT own (some X1) (some (X1 + quarter))).map fun Y1 => (decide ((iabs Y1) ≤ 2)))).bind fun y_30 =>
  if (!(y_30.any id)) = true then
    some (.rt false)
  else
  some (.nx ())
def I1__law_is_right (Z0 : Sl) (own : List Int) (quarter : Int) (Z3 : Sl) (Z4 : Sl) (T : DT) (Q : Unit) (E : DS) : Prop := ∃ D5, E = ⟨[Z0, .val ((eL eI) own), .val (eI quarter), Z3, Z4, D5, .no], T⟩
theorem l1__law_is_right_bd (Z0 : Sl) (own : List Int) (quarter : Int) (Z3 : Sl) (Z4 : Sl) (T : DT)  (X1 : Int) (E : DS) (HI : I1__law_is_right Z0 own quarter Z3 Z4 T () E) {O : Fw (Unit) Bool} (H : s1__law_is_right own quarter  X1 = some O) : ∃ E1, asgT (.nm 5) (eI X1) E.e = some E1 ∧ BodyOk bd1__law_is_right ⟨E1, E.t⟩ (I1__law_is_right Z0 own quarter Z3 Z4 T) (fun V : Bool => (eB V, false)) (fun _ E => E.t = T) O := by
  obtain ⟨D5, rfl⟩ := HI
  refine ⟨[Z0, .val ((eL eI) own), .val (eI quarter), Z3, Z4, .val (eI X1), .no], rfl, ?_⟩
  unfold s1__law_is_right at H
  have K_29 : cutG (.lst (List.map eI own)) (some X1) (some (X1 + quarter)) = some ((.lst (List.map eI (cutT own (some X1) (some (X1 + quarter))))), true) := cutG_L eI own _ _
  obtain ⟨y_30, Hy_30, H⟩ := Option.bind_eq_some_iff.mp H
  have K_31 : (seqI (plainE (cutN 1 (someQ (nameE 5)) (someQ (plainE (binO addO (nameE 5) (nameE 2))))))) ⟨[Z0, .val ((eL eI) own), .val (eI quarter), Z3, Z4, .val (eI X1), .no], T⟩ = .ok ((cutT own (some X1) (some (X1 + quarter))).map eI) ⟨[Z0, .val ((eL eI) own), .val (eI quarter), Z3, Z4, .val (eI X1), .no], T⟩ := by (push_cast [K_29, Nat.reduceAdd, Nat.reduceSub, Nat.reduceLT, Nat.reduceLeDiff, Int.reduceLT, Int.reduceLE, Int.reduceNeg, Int.reducePow, Int.reduceToNat]; try with_reducible rfl)
  have Ky_30 := c1__law_is_right_ok Z0 own quarter Z3 Z4 X1 T (cutT own (some X1) (some (X1 + quarter))) K_31 Hy_30
  try push_cast [DR.bind_ok] at Ky_30
  rcases iteB_inv H with ⟨C_32, H⟩ | ⟨C_32, H⟩
  · -- +
    obtain rfl := Option.some.inj H
    refine ⟨⟨[Z0, .val ((eL eI) own), .val (eI quarter), Z3, Z4, .val (eI X1), .no], T⟩, ?_, rfl⟩
    (push_cast [bd1__law_is_right, K_29, Ky_30, C_32, Nat.reduceAdd, Nat.reduceSub, Nat.reduceLT, Nat.reduceLeDiff, Int.reduceLT, Int.reduceLE, Int.reduceNeg, Int.reducePow, Int.reduceToNat]; try with_reducible rfl)
  · -- -
    obtain rfl := Option.some.inj H
    refine ⟨⟨[Z0, .val ((eL eI) own), .val (eI quarter), Z3, Z4, .val (eI X1), .no], T⟩, .inl ?_, ⟨.val (eI X1), rfl⟩⟩
    (push_cast [bd1__law_is_right, K_29, Ky_30, C_32, Nat.reduceAdd, Nat.reduceSub, Nat.reduceLT, Nat.reduceLeDiff, Int.reduceLT, Int.reduceLE, Int.reduceNeg, Int.reducePow, Int.reduceToNat]; try with_reducible rfl)
def m__law_is_right (floor : List Int) : Option Bool :=
  (m__law_rocks floor).bind fun r_1 =>
  (x0__law_is_right floor r_1).bind fun w_6 =>
  if w_6 = true then
    some false
  else
  (rngO 0 (floor.length : Int)).bind fun g_8 =>
  (forO (fun Q X0 => s0__law_is_right floor r_1 ((floor.length : Int) / 4)  X0) g_8 ()).bind fun l_13 =>
  sumM l_13 (fun s_17 =>
    (m_stands_at floor).bind fun r_20 =>
    (x1__law_is_right r_1 ((floor.length : Int) / 4) r_20).bind fun w_26 =>
    if w_26 = true then
      some false
    else
    (rng3O 0 (floor.length : Int) ((floor.length : Int) / 4)).bind fun g_28 =>
    (forO (fun Q X1 => s1__law_is_right r_1 ((floor.length : Int) / 4)  X1) g_28 ()).bind fun l_33 =>
    sumM l_33 (fun s_37 =>
      some true)
      (fun r_38 => some r_38))
    (fun r_18 => some r_18)
theorem w__law_is_right (floor : List Int) (T : DT) {V : Bool} (H : m__law_is_right floor = some V) : F__law_is_right [(eU eI) floor] T = .ok (eB V) false T := by
  unfold m__law_is_right at H
  obtain ⟨r_1, Hr_1, H⟩ := Option.bind_eq_some_iff.mp H
  have Kr_1 : F__law_rocks [(.tup false (List.map eI floor))] T = .ok (.lst (List.map eI r_1)) false T := w__law_rocks floor T Hr_1
  obtain ⟨w_6, Hw_6, H⟩ := Option.bind_eq_some_iff.mp H
  have Kw_6 := x0__law_is_right_ok floor r_1 (.val (eI ((floor.length : Int) / 4))) T Hw_6
  try push_cast [DR.bind_ok] at Kw_6
  rcases iteB_inv H with ⟨C_7, H⟩ | ⟨C_7, H⟩
  · -- +
    obtain rfl := Option.some.inj H
    (push_cast [F__law_is_right, b__law_is_right, Kr_1, Kw_6, C_7, Nat.reduceAdd, Nat.reduceSub, Nat.reduceLT, Nat.reduceLeDiff, Int.reduceLT, Int.reduceLE, Int.reduceNeg, Int.reducePow, Int.reduceToNat]; try with_reducible rfl)
  · -- -
    obtain ⟨g_8, Hg_8, H⟩ := Option.bind_eq_some_iff.mp H
    obtain ⟨l_13, Hl_13, H⟩ := Option.bind_eq_some_iff.mp H
    have K_14 : it0__law_is_right ⟨[.val ((eU eI) floor), .val ((eL eI) r_1), .val (eI ((floor.length : Int) / 4)), .no, .no, .no, .no], T⟩ = .ok (g_8.map eI) ⟨[.val ((eU eI) floor), .val ((eL eI) r_1), .val (eI ((floor.length : Int) / 4)), .no, .no, .no, .no], T⟩ := by (push_cast [it0__law_is_right, Kr_1, Kw_6, C_7, Hg_8, Nat.reduceAdd, Nat.reduceSub, Nat.reduceLT, Nat.reduceLeDiff, Int.reduceLT, Int.reduceLE, Int.reduceNeg, Int.reducePow, Int.reduceToNat]; try with_reducible rfl)
    have Kl_13 := for_for (I := I0__law_is_right floor r_1 ((floor.length : Int) / 4) T) (R := (fun V : Bool => (eB V, false))) (J := (fun _ E => E.t = T)) (tg := (.nm 3)) (b := bd0__law_is_right) (E := eI) (fun Q E X0 O HI H => l0__law_is_right_bd floor r_1 ((floor.length : Int) / 4) T  X0 E HI H) g_8 () ⟨[.val ((eU eI) floor), .val ((eL eI) r_1), .val (eI ((floor.length : Int) / 4)), .no, .no, .no, .no], T⟩ _ ⟨.no, rfl⟩ Hl_13
    rcases sumM_inv H with ⟨s_17, HO, H⟩ | ⟨r_18, HO, H⟩
    · subst HO
      obtain ⟨E_16, Kl_13, ⟨D_15, rfl⟩⟩ := Kl_13
      have K_19 : lp0__law_is_right ⟨[.val ((eU eI) floor), .val ((eL eI) r_1), .val (eI ((floor.length : Int) / 4)), .no, .no, .no, .no], T⟩ = .ok .nx ⟨[.val ((eU eI) floor), .val ((eL eI) r_1), .val (eI ((floor.length : Int) / 4)), D_15, .no, .no, .no], T⟩ := by
        show forS _ _ _ _ = _
        rw [forS_ap, K_14, bind_ok]; exact Kl_13
      try push_cast [DR.bind_ok] at K_19
      obtain ⟨r_20, Hr_20, H⟩ := Option.bind_eq_some_iff.mp H
      have Kr_20 : F_stands_at [(.tup false (List.map eI floor))] T = .ok (.int r_20) false T := w_stands_at floor T Hr_20
      obtain ⟨w_26, Hw_26, H⟩ := Option.bind_eq_some_iff.mp H
      have Kw_26 := x1__law_is_right_ok (.val ((eU eI) floor)) r_1 ((floor.length : Int) / 4) D_15 r_20 T Hw_26
      try push_cast [DR.bind_ok] at Kw_26
      rcases iteB_inv H with ⟨C_27, H⟩ | ⟨C_27, H⟩
      · -- +
        obtain rfl := Option.some.inj H
        (push_cast [F__law_is_right, b__law_is_right, Kr_1, Kw_6, C_7, Hg_8, K_19, Kr_20, Kw_26, C_27, Nat.reduceAdd, Nat.reduceSub, Nat.reduceLT, Nat.reduceLeDiff, Int.reduceLT, Int.reduceLE, Int.reduceNeg, Int.reducePow, Int.reduceToNat]; try with_reducible rfl)
      · -- -
        obtain ⟨g_28, Hg_28, H⟩ := Option.bind_eq_some_iff.mp H
        obtain ⟨l_33, Hl_33, H⟩ := Option.bind_eq_some_iff.mp H
        have K_34 : it1__law_is_right ⟨[.val ((eU eI) floor), .val ((eL eI) r_1), .val (eI ((floor.length : Int) / 4)), (rest1 D_15), .val (eI r_20), .no, .no], T⟩ = .ok (g_28.map eI) ⟨[.val ((eU eI) floor), .val ((eL eI) r_1), .val (eI ((floor.length : Int) / 4)), (rest1 D_15), .val (eI r_20), .no, .no], T⟩ := by (push_cast [it1__law_is_right, Kr_1, Kw_6, C_7, Hg_8, K_19, Kr_20, Kw_26, C_27, Hg_28, Nat.reduceAdd, Nat.reduceSub, Nat.reduceLT, Nat.reduceLeDiff, Int.reduceLT, Int.reduceLE, Int.reduceNeg, Int.reducePow, Int.reduceToNat]; try with_reducible rfl)
        have Kl_33 := for_for (I := I1__law_is_right (.val ((eU eI) floor)) r_1 ((floor.length : Int) / 4) ((rest1 D_15)) (.val (eI r_20)) T) (R := (fun V : Bool => (eB V, false))) (J := (fun _ E => E.t = T)) (tg := (.nm 5)) (b := bd1__law_is_right) (E := eI) (fun Q E X1 O HI H => l1__law_is_right_bd (.val ((eU eI) floor)) r_1 ((floor.length : Int) / 4) ((rest1 D_15)) (.val (eI r_20)) T  X1 E HI H) g_28 () ⟨[.val ((eU eI) floor), .val ((eL eI) r_1), .val (eI ((floor.length : Int) / 4)), (rest1 D_15), .val (eI r_20), .no, .no], T⟩ _ ⟨.no, rfl⟩ Hl_33
        rcases sumM_inv H with ⟨s_37, HO, H⟩ | ⟨r_38, HO, H⟩
        · subst HO
          obtain ⟨E_36, Kl_33, ⟨D_35, rfl⟩⟩ := Kl_33
          have K_39 : lp1__law_is_right ⟨[.val ((eU eI) floor), .val ((eL eI) r_1), .val (eI ((floor.length : Int) / 4)), (rest1 D_15), .val (eI r_20), .no, .no], T⟩ = .ok .nx ⟨[.val ((eU eI) floor), .val ((eL eI) r_1), .val (eI ((floor.length : Int) / 4)), (rest1 D_15), .val (eI r_20), D_35, .no], T⟩ := by
            show forS _ _ _ _ = _
            rw [forS_ap, K_34, bind_ok]; exact Kl_33
          try push_cast [DR.bind_ok] at K_39
          obtain rfl := Option.some.inj H
          (push_cast [F__law_is_right, b__law_is_right, Kr_1, Kw_6, C_7, Hg_8, K_19, Kr_20, Kw_26, C_27, Hg_28, K_39, Nat.reduceAdd, Nat.reduceSub, Nat.reduceLT, Nat.reduceLeDiff, Int.reduceLT, Int.reduceLE, Int.reduceNeg, Int.reducePow, Int.reduceToNat]; try with_reducible rfl)
        · subst HO
          obtain ⟨⟨E_40, E_40t⟩, Kl_33, HT⟩ := Kl_33
          replace HT : E_40t = T := HT
          rw [HT] at Kl_33
          have K_39 : lp1__law_is_right ⟨[.val ((eU eI) floor), .val ((eL eI) r_1), .val (eI ((floor.length : Int) / 4)), (rest1 D_15), .val (eI r_20), .no, .no], T⟩ = .ok (.rt (eB r_38) false) ⟨E_40, T⟩ := by
            show forS _ _ _ _ = _
            rw [forS_ap, K_34, bind_ok]; exact Kl_33
          try push_cast [DR.bind_ok] at K_39
          obtain rfl := Option.some.inj H
          (push_cast [F__law_is_right, b__law_is_right, Kr_1, Kw_6, C_7, Hg_8, K_19, Kr_20, Kw_26, C_27, Hg_28, K_39, Nat.reduceAdd, Nat.reduceSub, Nat.reduceLT, Nat.reduceLeDiff, Int.reduceLT, Int.reduceLE, Int.reduceNeg, Int.reducePow, Int.reduceToNat]; try with_reducible rfl)
    · subst HO
      obtain ⟨⟨E_41, E_41t⟩, Kl_13, HT⟩ := Kl_13
      replace HT : E_41t = T := HT
      rw [HT] at Kl_13
      have K_19 : lp0__law_is_right ⟨[.val ((eU eI) floor), .val ((eL eI) r_1), .val (eI ((floor.length : Int) / 4)), .no, .no, .no, .no], T⟩ = .ok (.rt (eB r_18) false) ⟨E_41, T⟩ := by
        show forS _ _ _ _ = _
        rw [forS_ap, K_14, bind_ok]; exact Kl_13
      try push_cast [DR.bind_ok] at K_19
      obtain rfl := Option.some.inj H
      (push_cast [F__law_is_right, b__law_is_right, Kr_1, Kw_6, C_7, Hg_8, K_19, Nat.reduceAdd, Nat.reduceSub, Nat.reduceLT, Nat.reduceLeDiff, Int.reduceLT, Int.reduceLE, Int.reduceNeg, Int.reducePow, Int.reduceToNat]; try with_reducible rfl)
def m__law_any (hd : Hd) (some_ : List Int) : Option (Int × Hd) :=
  (m__law_draw hd (some_.length : Int)).bind fun r_1 =>
  (idx some_ r_1.1).bind fun v_2 =>
  some (v_2, r_1.2)
theorem w__law_any (hd : Hd) (some_ : List Int) {V : (Int × Hd)} (H : m__law_any hd some_ = some V) : F__law_any [.cell 1, (eL eI) some_] [tb 0 "_law_refused_right", hd.1] = .ok (eI V.1) false [tb 0 "_law_refused_right", V.2.1] := by
  unfold m__law_any at H
  obtain ⟨r_1, Hr_1, H⟩ := Option.bind_eq_some_iff.mp H
  have Kr_1 := w__law_draw hd (some_.length : Int) Hr_1
  obtain ⟨v_2, Hv_2, H⟩ := Option.bind_eq_some_iff.mp H
  have Kv_2 : ixG (.lst (List.map eI some_)) (.int r_1.1) = some (.int v_2) := by
    have := ixG_L eI some_ r_1.1
    rw [Hv_2] at this
    exact this
  obtain rfl := Option.some.inj H
  (push_cast [F__law_any, b__law_any, Kr_1, Kv_2, Nat.reduceAdd, Nat.reduceSub, Nat.reduceLT, Nat.reduceLeDiff, Int.reduceLT, Int.reduceLE, Int.reduceNeg, Int.reducePow, Int.reduceToNat]; try with_reducible rfl)
theorem c0__law_bent_right_ok (Z1 : Sl) (bent : List Int) (Z3 : Sl) (T : DT) (XS : List (Int × Int)) (HX : (zipMI (nameE 2) (plainE (binO addO (plainE (cutN 2 (someQ (constE (.int 1))) noQ)) (plainE (cutN 2 noQ (someQ (constE (.int 1)))))))) ⟨[.val (.cell 1), Z1, .own ((eL eI) bent), Z3, .no, .no, .no], T⟩ = .ok (XS.map (eP2 eI eI)) ⟨[.val (.cell 1), Z1, .val ((eL eI) bent), Z3, .no, .no, .no], T⟩) {Y : List Bool} (H : lenO (XS.map fun Y0 => (decide ((iabs (Y0.1 - Y0.2)) ≤ 1))) = some Y) : cp0__law_bent_right ⟨[.val (.cell 1), Z1, .own ((eL eI) bent), Z3, .no, .no, .no], T⟩ = .ok (.lst (Y.map eB), true) ⟨[.val (.cell 1), Z1, .val ((eL eI) bent), Z3, .no, .no, .no], T⟩ := by
  refine (lcO_Q (E := (eP2 eI eI)) (F := eB) (g := fun Y0 => (decide ((iabs (Y0.1 - Y0.2)) ≤ 1))) HX H fun Y0 => ⟨[.val (.cell 1), Z1, .val ((eL eI) bent), Z3, .no, .val (eI Y0.1), .val (eI Y0.2)], rfl, ⟨[.val (.cell 1), Z1, .val ((eL eI) bent), Z3, .no, .val (eI Y0.1), .val (eI Y0.2)], T⟩, ?_, rfl, rfl⟩).trans (by rfl)
  (push_cast [bind_ok, t_and, t_or, e_and, e_or, i_andT, i_orT, i_andE, i_orE, i_int, k_if, k_ch3, Nat.reduceAdd, Nat.reduceSub, Nat.reduceLT, Nat.reduceLeDiff, Int.reduceLT, Int.reduceLE, Int.reduceNeg, Int.reducePow, Int.reduceToNat]; try with_reducible rfl)
def m__law_bent_right (hd : Hd) (floor : List Int) : Option (Bool × Hd) :=
  (m__law_draw hd (floor.length : Int)).bind fun r_1 =>
  (idx floor r_1.1).bind fun v_2 =>
  (m__law_any r_1.2 ([1, (-1), 3])).bind fun r_3 =>
  (setX floor r_1.1 (v_2 + r_3.1)).bind fun bent_4 =>
  (appO (cutT bent_4 (some 1) none) (cutT bent_4 none (some 1))).bind fun v_7 =>
  (lenO ((List.zip bent_4 v_7).map fun Y0 => (decide ((iabs (Y0.1 - Y0.2)) ≤ 1)))).bind fun y_9 =>
  (m_is_floor bent_4).bind fun r_11 =>
  (reprT (PV.bl r_11)).bind fun v_12 =>
  (reprT (PV.bl (y_9.all id))).bind fun v_13 =>
  (eqP false (PV.str v_12) (PV.str v_13)).bind fun q_14 =>
  some (q_14, r_3.2)
theorem w__law_bent_right (hd : Hd) (floor : List Int) {V : (Bool × Hd)} (H : m__law_bent_right hd floor = some V) : F__law_bent_right [.cell 1, (eU eI) floor] [tb 0 "_law_refused_right", hd.1] = .ok (eB V.1) false [tb 0 "_law_refused_right", V.2.1] := by
  unfold m__law_bent_right at H
  obtain ⟨r_1, Hr_1, H⟩ := Option.bind_eq_some_iff.mp H
  have Kr_1 := w__law_draw hd (floor.length : Int) Hr_1
  obtain ⟨v_2, Hv_2, H⟩ := Option.bind_eq_some_iff.mp H
  have Kv_2 : ixG (.lst (List.map eI floor)) (.int r_1.1) = some (.int v_2) := by
    have := ixG_L eI floor r_1.1
    rw [Hv_2] at this
    exact this
  obtain ⟨r_3, Hr_3, H⟩ := Option.bind_eq_some_iff.mp H
  have Kr_3 : F__law_any [.cell 1, (.lst [(.int 1), (.int (-1)), (.int 3)])] [tb 0 "_law_refused_right", r_1.2.1] = .ok (.int r_3.1) false [tb 0 "_law_refused_right", r_3.2.1] := w__law_any r_1.2 ([1, (-1), 3]) Hr_3
  obtain ⟨bent_4, Hbent_4, H⟩ := Option.bind_eq_some_iff.mp H
  have Kbent_4 : setU (.int r_1.1) (.int (v_2 + r_3.1)) (.lst (List.map eI floor)) = some ((.lst (List.map eI bent_4)), .non) := by
    have := setU_L eI floor r_1.1 (v_2 + r_3.1)
    rw [Hbent_4] at this
    exact this
  have K_5 : cutG (.lst (List.map eI bent_4)) (some 1) none = some ((.lst (List.map eI (cutT bent_4 (some 1) none))), true) := cutG_L eI bent_4 _ _
  have K_6 : cutG (.lst (List.map eI bent_4)) none (some 1) = some ((.lst (List.map eI (cutT bent_4 none (some 1)))), true) := cutG_L eI bent_4 _ _
  obtain ⟨v_7, Hv_7, H⟩ := Option.bind_eq_some_iff.mp H
  have Kv_7 : addO (.lst (List.map eI (cutT bent_4 (some 1) none))) (.lst (List.map eI (cutT bent_4 none (some 1)))) = some ((.lst (List.map eI v_7)), true) := by
    have := addO_L eI (cutT bent_4 (some 1) none) (cutT bent_4 none (some 1))
    rw [Hv_7] at this
    exact this
  have K_8 := zipP_t eI eI bent_4 v_7
  obtain ⟨y_9, Hy_9, H⟩ := Option.bind_eq_some_iff.mp H
  have K_10 : (zipMI (nameE 2) (plainE (binO addO (plainE (cutN 2 (someQ (constE (.int 1))) noQ)) (plainE (cutN 2 noQ (someQ (constE (.int 1)))))))) ⟨[.val (.cell 1), .val ((eU eI) floor), .own ((eL eI) bent_4), .val (eI r_1.1), .no, .no, .no], [tb 0 "_law_refused_right", r_3.2.1]⟩ = .ok ((List.zip bent_4 v_7).map (eP2 eI eI)) ⟨[.val (.cell 1), .val ((eU eI) floor), .val ((eL eI) bent_4), .val (eI r_1.1), .no, .no, .no], [tb 0 "_law_refused_right", r_3.2.1]⟩ := by (push_cast [Kr_1, Kv_2, Kr_3, Kbent_4, K_5, K_6, Kv_7, K_8, Nat.reduceAdd, Nat.reduceSub, Nat.reduceLT, Nat.reduceLeDiff, Int.reduceLT, Int.reduceLE, Int.reduceNeg, Int.reducePow, Int.reduceToNat]; try with_reducible rfl)
  have Ky_9 := c0__law_bent_right_ok (.val ((eU eI) floor)) bent_4 (.val (eI r_1.1)) [tb 0 "_law_refused_right", r_3.2.1] (List.zip bent_4 v_7) K_10 Hy_9
  try push_cast [DR.bind_ok] at Ky_9
  obtain ⟨r_11, Hr_11, H⟩ := Option.bind_eq_some_iff.mp H
  have Kr_11 : F_is_floor [(.tup false (List.map eI bent_4))] ([tb 0 "_law_refused_right", r_3.2.1]) = .ok (.bl r_11) false ([tb 0 "_law_refused_right", r_3.2.1]) := w_is_floor bent_4 ([tb 0 "_law_refused_right", r_3.2.1]) Hr_11
  obtain ⟨v_12, Hv_12, H⟩ := Option.bind_eq_some_iff.mp H
  have Kv_12 : reprD (PV.bl r_11) = some (.str v_12, false) := reprT_ok Hv_12
  obtain ⟨v_13, Hv_13, H⟩ := Option.bind_eq_some_iff.mp H
  have Kv_13 : reprD (PV.bl (y_9.all id)) = some (.str v_13, false) := reprT_ok Hv_13
  obtain ⟨q_14, Hq_14, H⟩ := Option.bind_eq_some_iff.mp H
  have Kq_14 : eqG false (PV.str v_12) (PV.str v_13) = some (.bl q_14) := eqP_ok Hq_14
  try push_cast [DR.bind_ok] at Kq_14
  obtain rfl := Option.some.inj H
  (push_cast [F__law_bent_right, b__law_bent_right, Kr_1, Kv_2, Kr_3, Kbent_4, K_5, K_6, Kv_7, K_8, Ky_9, Kr_11, Kv_12, Kv_13, Kq_14, Nat.reduceAdd, Nat.reduceSub, Nat.reduceLT, Nat.reduceLeDiff, Int.reduceLT, Int.reduceLE, Int.reduceNeg, Int.reducePow, Int.reduceToNat]; try with_reducible rfl)
def m__law_any_1 (hd : Hd) (some_ : List PV) : Option (PV × Hd) :=
  (m__law_draw hd (some_.length : Int)).bind fun r_1 =>
  (idx some_ r_1.1).bind fun v_2 =>
  some (v_2, r_1.2)
theorem w__law_any_1 (hd : Hd) (some_ : List PV) {V : (PV × Hd)} (H : m__law_any_1 hd some_ = some V) : F__law_any [.cell 1, (eL eA) some_] [tb 0 "_law_refused_right", hd.1] = .ok (eA V.1) false [tb 0 "_law_refused_right", V.2.1] := by
  unfold m__law_any_1 at H
  obtain ⟨r_1, Hr_1, H⟩ := Option.bind_eq_some_iff.mp H
  have Kr_1 := w__law_draw hd (some_.length : Int) Hr_1
  obtain ⟨v_2, Hv_2, H⟩ := Option.bind_eq_some_iff.mp H
  have Kv_2 : ixG (.lst some_) (.int r_1.1) = some v_2 := by
    have := ixG_L eA some_ r_1.1
    rw [Hv_2] at this
    simpa only [map_eA, eA_ap, Option.map_some] using this
  obtain rfl := Option.some.inj H
  (push_cast [F__law_any, b__law_any, Kr_1, Kv_2, Nat.reduceAdd, Nat.reduceSub, Nat.reduceLT, Nat.reduceLeDiff, Int.reduceLT, Int.reduceLE, Int.reduceNeg, Int.reducePow, Int.reduceToNat]; try with_reducible rfl)
theorem u0__law_refused_right_ok (odd : PV) : lamAct lb0__law_refused_right 3 [2] [(eA odd)] = actF (fun t => F_rocks [odd] t) := by
  funext t
  unfold lamAct actF
  have e : lamE 3 [2] [(eA odd)] = [.no, .no, .val (eA odd)] := rfl
  rw [e]
  have k : lb0__law_refused_right ⟨[.no, .no, .val (eA odd)], t⟩ = actR (F_rocks [odd] t) [.no, .no, .val (eA odd)] := by
    (push_cast [lb0__law_refused_right, kFr_actR, Nat.reduceAdd, Nat.reduceSub, Nat.reduceLT, Nat.reduceLeDiff, Int.reduceLT, Int.reduceLE, Int.reduceNeg, Int.reducePow, Int.reduceToNat]; try with_reducible rfl)
  rw [k]
  exact actR_ok _ _
theorem u1__law_refused_right_ok (odd : PV) : lamAct lb1__law_refused_right 3 [2] [(eA odd)] = actF (fun t => F_stands_at [odd] t) := by
  funext t
  unfold lamAct actF
  have e : lamE 3 [2] [(eA odd)] = [.no, .no, .val (eA odd)] := rfl
  rw [e]
  have k : lb1__law_refused_right ⟨[.no, .no, .val (eA odd)], t⟩ = actR (F_stands_at [odd] t) [.no, .no, .val (eA odd)] := by
    (push_cast [lb1__law_refused_right, kFr_actR, Nat.reduceAdd, Nat.reduceSub, Nat.reduceLT, Nat.reduceLeDiff, Int.reduceLT, Int.reduceLE, Int.reduceNeg, Int.reducePow, Int.reduceToNat]; try with_reducible rfl)
  rw [k]
  exact actR_ok _ _
def m__law_refused_right (hd : Hd) : Option (Bool × Hd) :=
  (repTO ([0]) 6).bind fun v_1 =>
  (repTO ([1001]) 4).bind fun v_2 =>
  (repTO ([0]) 44).bind fun v_3 =>
  (repTO ([true]) 4).bind fun v_4 =>
  (appO ([PV.non, (PV.tup false []), (PV.tup false [(PV.int 0), (PV.int 0), (PV.int 0)]), (PV.tup false (List.map eI v_1)), (PV.tup false [(PV.int 0), (PV.int 0), (PV.int 0), (PV.int 2)]), (PV.lst [(PV.int 0), (PV.int 0), (PV.int 0), (PV.int 0)]), (PV.tup false [(PV.int 0), (PV.int 0), (PV.int 0), PV.non]), (PV.tup false [(PV.int 0), (PV.int 0), (PV.int 0), (PV.str ("0" : Str))]), (PV.tup false (List.map eI v_2))]) ([(PV.tup false (List.map eI v_3)), (PV.dT []), (PV.tup false (List.map eB v_4))])).bind fun v_5 =>
  (m__law_any_1 hd v_5).bind fun r_6 =>
  (rawO eB false (fun t => F_is_floor [r_6.1] t)).bind fun r_7 =>
  if r_7 = false then
    (rawL eS F__law_word (actF (fun t => F_rocks [r_6.1] t))).bind fun w_9 =>
    (rawL eS F__law_word (actF (fun t => F_stands_at [r_6.1] t))).bind fun w_10 =>
    (eqP false (PV.lst [(PV.str w_9), (PV.str w_10)]) (PV.lst [(PV.str ("floor" : Str)), (PV.str ("floor" : Str))])).bind fun q_11 =>
    some (q_11, r_6.2)
  else
  some (false, r_6.2)
theorem w__law_refused_right (hd : Hd) {V : (Bool × Hd)} (H : m__law_refused_right hd = some V) : F__law_refused_right [.cell 1] [tb 0 "_law_refused_right", hd.1] = .ok (eB V.1) false [tb 0 "_law_refused_right", V.2.1] := by
  unfold m__law_refused_right at H
  obtain ⟨v_1, Hv_1, H⟩ := Option.bind_eq_some_iff.mp H
  have Kv_1 : mul2O (.tup false [(.int 0)]) (.int 6) = some ((.tup false (List.map eI v_1)), false) := by
    have := mul2O_U eI ([0]) 6
    rw [Hv_1] at this
    exact this
  obtain ⟨v_2, Hv_2, H⟩ := Option.bind_eq_some_iff.mp H
  have Kv_2 : mul2O (.tup false [(.int 1001)]) (.int 4) = some ((.tup false (List.map eI v_2)), false) := by
    have := mul2O_U eI ([1001]) 4
    rw [Hv_2] at this
    exact this
  obtain ⟨v_3, Hv_3, H⟩ := Option.bind_eq_some_iff.mp H
  have Kv_3 : mul2O (.tup false [(.int 0)]) (.int 44) = some ((.tup false (List.map eI v_3)), false) := by
    have := mul2O_U eI ([0]) 44
    rw [Hv_3] at this
    exact this
  obtain ⟨v_4, Hv_4, H⟩ := Option.bind_eq_some_iff.mp H
  have Kv_4 : mul2O (.tup false [(.bl true)]) (.int 4) = some ((.tup false (List.map eB v_4)), false) := by
    have := mul2O_U eB ([true]) 4
    rw [Hv_4] at this
    exact this
  obtain ⟨v_5, Hv_5, H⟩ := Option.bind_eq_some_iff.mp H
  have Kv_5 : addO (.lst ([PV.non, (PV.tup false []), (PV.tup false [(PV.int 0), (PV.int 0), (PV.int 0)]), (PV.tup false (List.map eI v_1)), (PV.tup false [(PV.int 0), (PV.int 0), (PV.int 0), (PV.int 2)]), (PV.lst [(PV.int 0), (PV.int 0), (PV.int 0), (PV.int 0)]), (PV.tup false [(PV.int 0), (PV.int 0), (PV.int 0), PV.non]), (PV.tup false [(PV.int 0), (PV.int 0), (PV.int 0), (PV.str ("0" : Str))]), (PV.tup false (List.map eI v_2))])) (.lst [(PV.tup false (List.map eI v_3)), (PV.dT []), (PV.tup false (List.map eB v_4))]) = some ((.lst v_5), true) := by
    have := addO_L eA ([PV.non, (PV.tup false []), (PV.tup false [(PV.int 0), (PV.int 0), (PV.int 0)]), (PV.tup false (List.map eI v_1)), (PV.tup false [(PV.int 0), (PV.int 0), (PV.int 0), (PV.int 2)]), (PV.lst [(PV.int 0), (PV.int 0), (PV.int 0), (PV.int 0)]), (PV.tup false [(PV.int 0), (PV.int 0), (PV.int 0), PV.non]), (PV.tup false [(PV.int 0), (PV.int 0), (PV.int 0), (PV.str ("0" : Str))]), (PV.tup false (List.map eI v_2))]) ([(PV.tup false (List.map eI v_3)), (PV.dT []), (PV.tup false (List.map eB v_4))])
    rw [Hv_5] at this
    simpa only [map_eA, eA_ap, Option.map_some] using this
  obtain ⟨r_6, Hr_6, H⟩ := Option.bind_eq_some_iff.mp H
  have Kr_6 := w__law_any_1 hd v_5 Hr_6
  push_cast [DR.bind_ok] at Kr_6
  obtain ⟨r_7, Hr_7, H⟩ := Option.bind_eq_some_iff.mp H
  have Kr_7 : F_is_floor [r_6.1] ([tb 0 "_law_refused_right", r_6.2.1]) = .ok (.bl r_7) false ([tb 0 "_law_refused_right", r_6.2.1]) := rawO_ok Hr_7 _
  rcases ite_inv H with ⟨C_8, H⟩ | ⟨C_8, H⟩
  · -- +
    replace C_8 := decide_eq_true C_8
    obtain ⟨w_9, Hw_9, H⟩ := Option.bind_eq_some_iff.mp H
    have Kw_9 : lamO 0 (AB 0) (lamQ "_law_refused_right") 3 [2] F__law_word lb0__law_refused_right ⟨[.val (.cell 1), .val ((eL eA) ([PV.non, (PV.tup false []), (PV.tup false [(PV.int 0), (PV.int 0), (PV.int 0)]), (PV.tup false (List.map eI v_1)), (PV.tup false [(PV.int 0), (PV.int 0), (PV.int 0), (PV.int 2)]), (PV.lst [(PV.int 0), (PV.int 0), (PV.int 0), (PV.int 0)]), (PV.tup false [(PV.int 0), (PV.int 0), (PV.int 0), PV.non]), (PV.tup false [(PV.int 0), (PV.int 0), (PV.int 0), (PV.str ("0" : Str))]), (PV.tup false (List.map eI v_2))])), .val (eA r_6.1)], [tb 0 "_law_refused_right", r_6.2.1]⟩ = .ok ((.str w_9), false) ⟨[.val (.cell 1), .val ((eL eA) ([PV.non, (PV.tup false []), (PV.tup false [(PV.int 0), (PV.int 0), (PV.int 0)]), (PV.tup false (List.map eI v_1)), (PV.tup false [(PV.int 0), (PV.int 0), (PV.int 0), (PV.int 2)]), (PV.lst [(PV.int 0), (PV.int 0), (PV.int 0), (PV.int 0)]), (PV.tup false [(PV.int 0), (PV.int 0), (PV.int 0), PV.non]), (PV.tup false [(PV.int 0), (PV.int 0), (PV.int 0), (PV.str ("0" : Str))]), (PV.tup false (List.map eI v_2))])), .val (eA r_6.1)], [tb 0 "_law_refused_right", r_6.2.1]⟩ := lamO_ok (ps := [(eA r_6.1)]) (by rfl) rfl (u0__law_refused_right_ok r_6.1) Hw_9
    try push_cast [DR.bind_ok] at Kw_9
    obtain ⟨w_10, Hw_10, H⟩ := Option.bind_eq_some_iff.mp H
    have Kw_10 : lamO 0 (AB 0) (lamQ "_law_refused_right") 3 [2] F__law_word lb1__law_refused_right ⟨[.val (.cell 1), .val ((eL eA) ([PV.non, (PV.tup false []), (PV.tup false [(PV.int 0), (PV.int 0), (PV.int 0)]), (PV.tup false (List.map eI v_1)), (PV.tup false [(PV.int 0), (PV.int 0), (PV.int 0), (PV.int 2)]), (PV.lst [(PV.int 0), (PV.int 0), (PV.int 0), (PV.int 0)]), (PV.tup false [(PV.int 0), (PV.int 0), (PV.int 0), PV.non]), (PV.tup false [(PV.int 0), (PV.int 0), (PV.int 0), (PV.str ("0" : Str))]), (PV.tup false (List.map eI v_2))])), .val (eA r_6.1)], [tb 0 "_law_refused_right", r_6.2.1]⟩ = .ok ((.str w_10), false) ⟨[.val (.cell 1), .val ((eL eA) ([PV.non, (PV.tup false []), (PV.tup false [(PV.int 0), (PV.int 0), (PV.int 0)]), (PV.tup false (List.map eI v_1)), (PV.tup false [(PV.int 0), (PV.int 0), (PV.int 0), (PV.int 2)]), (PV.lst [(PV.int 0), (PV.int 0), (PV.int 0), (PV.int 0)]), (PV.tup false [(PV.int 0), (PV.int 0), (PV.int 0), PV.non]), (PV.tup false [(PV.int 0), (PV.int 0), (PV.int 0), (PV.str ("0" : Str))]), (PV.tup false (List.map eI v_2))])), .val (eA r_6.1)], [tb 0 "_law_refused_right", r_6.2.1]⟩ := lamO_ok (ps := [(eA r_6.1)]) (by rfl) rfl (u1__law_refused_right_ok r_6.1) Hw_10
    try push_cast [DR.bind_ok] at Kw_10
    obtain ⟨q_11, Hq_11, H⟩ := Option.bind_eq_some_iff.mp H
    have Kq_11 : eqG false (PV.lst [(PV.str w_9), (PV.str w_10)]) (PV.lst [(PV.str ("floor" : Str)), (PV.str ("floor" : Str))]) = some (.bl q_11) := eqP_ok Hq_11
    try push_cast [DR.bind_ok] at Kq_11
    obtain rfl := Option.some.inj H
    (push_cast [F__law_refused_right, b__law_refused_right, Kv_1, Kv_2, Kv_3, Kv_4, Kv_5, Kr_6, Kr_7, C_8, Kw_9, Kw_10, Kq_11, Nat.reduceAdd, Nat.reduceSub, Nat.reduceLT, Nat.reduceLeDiff, Int.reduceLT, Int.reduceLE, Int.reduceNeg, Int.reducePow, Int.reduceToNat]; try with_reducible rfl)
  · -- -
    replace C_8 := decide_eq_false C_8
    obtain rfl := Option.some.inj H
    (push_cast [F__law_refused_right, b__law_refused_right, Kv_1, Kv_2, Kv_3, Kv_4, Kv_5, Kr_6, Kr_7, C_8, Nat.reduceAdd, Nat.reduceSub, Nat.reduceLT, Nat.reduceLeDiff, Int.reduceLT, Int.reduceLE, Int.reduceNeg, Int.reducePow, Int.reduceToNat]; try with_reducible rfl)
def x0_law  : Option Bool :=
  (m_rocks ([1, 0, 1, 0])).bind fun r_1 =>
  if r_1 = [2, (-2), 2, (-2)] then
    (repTO ([7]) 8).bind fun v_4 =>
    (m_stands_at v_4).bind fun r_5 =>
    some (!decide (r_5 = 0))
  else
  some true
theorem x0_law_ok (Z0 : Sl) (T : DT) {W : Bool} (H : x0_law  = some W) : te0_law ⟨[Z0, .val (.cell 1), .no, .no], T⟩ = .ok W ⟨[Z0, .val (.cell 1), .no, .no], T⟩ := by
  unfold x0_law at H
  obtain ⟨r_1, Hr_1, H⟩ := Option.bind_eq_some_iff.mp H
  have Kr_1 : F_rocks [(.tup false [(.int 1), (.int 0), (.int 1), (.int 0)])] T = .ok (.lst (List.map eI r_1)) false T := w_rocks ([1, 0, 1, 0]) T Hr_1
  have K_2 : eqG true (.lst (List.map eI r_1)) (.lst [(.int 2), (.int (-2)), (.int 2), (.int (-2))]) = some (.bl (true != decide (r_1 = [2, (-2), 2, (-2)]))) := eq_t true (eL eI) r_1 ([2, (-2), 2, (-2)]) (by decide)
  rcases ite_inv H with ⟨C_3, H⟩ | ⟨C_3, H⟩
  · -- +
    replace C_3 := decide_eq_true C_3
    obtain ⟨v_4, Hv_4, H⟩ := Option.bind_eq_some_iff.mp H
    have Kv_4 : mul2O (.tup false [(.int 7)]) (.int 8) = some ((.tup false (List.map eI v_4)), false) := by
      have := mul2O_U eI ([7]) 8
      rw [Hv_4] at this
      exact this
    obtain ⟨r_5, Hr_5, H⟩ := Option.bind_eq_some_iff.mp H
    have Kr_5 : F_stands_at [(.tup false (List.map eI v_4))] T = .ok (.int r_5) false T := w_stands_at v_4 T Hr_5
    obtain rfl := Option.some.inj H
    (push_cast [te0_law, Kr_1, K_2, C_3, Kv_4, Kr_5, Nat.reduceAdd, Nat.reduceSub, Nat.reduceLT, Nat.reduceLeDiff, Int.reduceLT, Int.reduceLE, Int.reduceNeg, Int.reducePow, Int.reduceToNat]; try with_reducible rfl)
  · -- -
    replace C_3 := decide_eq_false C_3
    obtain rfl := Option.some.inj H
    (push_cast [te0_law, Kr_1, K_2, C_3, Nat.reduceAdd, Nat.reduceSub, Nat.reduceLT, Nat.reduceLeDiff, Int.reduceLT, Int.reduceLE, Int.reduceNeg, Int.reducePow, Int.reduceToNat]; try with_reducible rfl)
def x1_law (floor : List Int) (hd : Hd) : Option (Bool × Hd) :=
  (m__law_is_right floor).bind fun r_9 =>
  if (!r_9) = true then
    some (true, hd)
  else
  (m__law_bent_right hd floor).bind fun r_11 =>
  if (!r_11.1) = true then
    some (true, r_11.2)
  else
  (m__law_refused_right r_11.2).bind fun r_13 =>
  some ((!r_13.1), r_13.2)
theorem x1_law_ok (Z0 : Sl) (Z2 : Sl) (floor : List Int) (hd : Hd) {W : (Bool × Hd)} (H : x1_law floor hd = some W) : te1_law ⟨[Z0, .val (.cell 1), Z2, .val ((eU eI) floor)], [tb 0 "_law_refused_right", hd.1]⟩ = .ok W.1 ⟨[Z0, .val (.cell 1), Z2, .val ((eU eI) floor)], [tb 0 "_law_refused_right", W.2.1]⟩ := by
  unfold x1_law at H
  obtain ⟨r_9, Hr_9, H⟩ := Option.bind_eq_some_iff.mp H
  have Kr_9 : F__law_is_right [(.tup false (List.map eI floor))] ([tb 0 "_law_refused_right", hd.1]) = .ok (.bl r_9) false ([tb 0 "_law_refused_right", hd.1]) := w__law_is_right floor ([tb 0 "_law_refused_right", hd.1]) Hr_9
  rcases iteB_inv H with ⟨C_10, H⟩ | ⟨C_10, H⟩
  · -- +
    obtain rfl := Option.some.inj H
    (push_cast [te1_law, Kr_9, C_10, Nat.reduceAdd, Nat.reduceSub, Nat.reduceLT, Nat.reduceLeDiff, Int.reduceLT, Int.reduceLE, Int.reduceNeg, Int.reducePow, Int.reduceToNat]; try with_reducible rfl)
  · -- -
    obtain ⟨r_11, Hr_11, H⟩ := Option.bind_eq_some_iff.mp H
    have Kr_11 : F__law_bent_right [.cell 1, (.tup false (List.map eI floor))] [tb 0 "_law_refused_right", hd.1] = .ok (.bl r_11.1) false [tb 0 "_law_refused_right", r_11.2.1] := w__law_bent_right hd floor Hr_11
    rcases iteB_inv H with ⟨C_12, H⟩ | ⟨C_12, H⟩
    · -- +
      obtain rfl := Option.some.inj H
      (push_cast [te1_law, Kr_9, C_10, Kr_11, C_12, Nat.reduceAdd, Nat.reduceSub, Nat.reduceLT, Nat.reduceLeDiff, Int.reduceLT, Int.reduceLE, Int.reduceNeg, Int.reducePow, Int.reduceToNat]; try with_reducible rfl)
    · -- -
      obtain ⟨r_13, Hr_13, H⟩ := Option.bind_eq_some_iff.mp H
      have Kr_13 : F__law_refused_right [.cell 1] [tb 0 "_law_refused_right", r_11.2.1] = .ok (.bl r_13.1) false [tb 0 "_law_refused_right", r_13.2.1] := w__law_refused_right r_11.2 Hr_13
      obtain rfl := Option.some.inj H
      (push_cast [te1_law, Kr_9, C_10, Kr_11, C_12, Kr_13, Nat.reduceAdd, Nat.reduceSub, Nat.reduceLT, Nat.reduceLeDiff, Int.reduceLT, Int.reduceLE, Int.reduceNeg, Int.reducePow, Int.reduceToNat]; try with_reducible rfl)
def s0_law  (hd : Hd) (X0 : Int) : Option (Fw (Hd) (Bool × Hd)) :=
  (m__law_floor hd).bind fun r_8 =>
  (x1_law r_8.1 r_8.2).bind fun w_14 =>
  if w_14.1 = true then
    some (.rt (false, w_14.2))
  else
  some (.nx w_14.2)
def I0_law (Z0 : Sl) (Q : Hd) (E : DS) : Prop := ∃ D2 D3, E = ⟨[Z0, .val (.cell 1), D2, D3], [tb 0 "_law_refused_right", Q.1]⟩
theorem l0_law_bd (Z0 : Sl) (hd : Hd) (X0 : Int) (E : DS) (HI : I0_law Z0 hd E) {O : Fw (Hd) (Bool × Hd)} (H : s0_law  hd X0 = some O) : ∃ E1, asgT (.nm 2) (eI X0) E.e = some E1 ∧ BodyOk bd0_law ⟨E1, E.t⟩ (I0_law Z0) (fun V : (Bool × Hd) => (eB V.1, false)) (fun V E => E.t = [tb 0 "_law_refused_right", V.2.1]) O := by
  obtain ⟨D2, D3, rfl⟩ := HI
  refine ⟨[Z0, .val (.cell 1), .val (eI X0), D3], rfl, ?_⟩
  unfold s0_law at H
  obtain ⟨r_8, Hr_8, H⟩ := Option.bind_eq_some_iff.mp H
  have Kr_8 : F__law_floor [.cell 1] [tb 0 "_law_refused_right", hd.1] = .ok (.tup false (List.map eI r_8.1)) false [tb 0 "_law_refused_right", r_8.2.1] := w__law_floor hd Hr_8
  obtain ⟨w_14, Hw_14, H⟩ := Option.bind_eq_some_iff.mp H
  have Kw_14 := x1_law_ok Z0 (.val (eI X0)) r_8.1 r_8.2 Hw_14
  try push_cast [DR.bind_ok] at Kw_14
  rcases iteB_inv H with ⟨C_15, H⟩ | ⟨C_15, H⟩
  · -- +
    obtain rfl := Option.some.inj H
    refine ⟨⟨[Z0, .val (.cell 1), .val (eI X0), .val ((eU eI) r_8.1)], [tb 0 "_law_refused_right", w_14.2.1]⟩, ?_, rfl⟩
    (push_cast [bd0_law, Kr_8, Kw_14, C_15, Nat.reduceAdd, Nat.reduceSub, Nat.reduceLT, Nat.reduceLeDiff, Int.reduceLT, Int.reduceLE, Int.reduceNeg, Int.reducePow, Int.reduceToNat]; try with_reducible rfl)
  · -- -
    obtain rfl := Option.some.inj H
    refine ⟨⟨[Z0, .val (.cell 1), .val (eI X0), .val ((eU eI) r_8.1)], [tb 0 "_law_refused_right", w_14.2.1]⟩, .inl ?_, ⟨.val (eI X0), .val ((eU eI) r_8.1), rfl⟩⟩
    (push_cast [bd0_law, Kr_8, Kw_14, C_15, Nat.reduceAdd, Nat.reduceSub, Nat.reduceLT, Nat.reduceLeDiff, Int.reduceLT, Int.reduceLE, Int.reduceNeg, Int.reducePow, Int.reduceToNat]; try with_reducible rfl)
def m_law (hd : Hd) : Option (Bool × Hd) :=
  (x0_law ).bind fun w_6 =>
  if w_6 = true then
    some (false, hd)
  else
  (forO (fun Q X0 => s0_law  Q X0) (rng 0 3) hd).bind fun l_16 =>
  sumM l_16 (fun s_21 =>
    some (true, s_21))
    (fun r_22 => some r_22)
theorem w_law (NS : List Int) (hd : Hd) (HN : F__law_hand [.scr (NS.map .int)] [tb 0 "_law_refused_right"] = .ok hd.1 true [tb 0 "_law_refused_right"]) {V : (Bool × Hd)} (H : m_law hd = some V) : F_law [.scr (NS.map .int)] [tb 0 "_law_refused_right"] = .ok (eB V.1) false [tb 0 "_law_refused_right", V.2.1] := by
  unfold m_law at H
  obtain ⟨w_6, Hw_6, H⟩ := Option.bind_eq_some_iff.mp H
  have Kw_6 := x0_law_ok ((.val (.scr (NS.map .int)))) [tb 0 "_law_refused_right", hd.1] Hw_6
  try push_cast [DR.bind_ok] at Kw_6
  rcases iteB_inv H with ⟨C_7, H⟩ | ⟨C_7, H⟩
  · -- +
    obtain rfl := Option.some.inj H
    (push_cast [F_law, b_law, HN, Kw_6, C_7, Nat.reduceAdd, Nat.reduceSub, Nat.reduceLT, Nat.reduceLeDiff, Int.reduceLT, Int.reduceLE, Int.reduceNeg, Int.reducePow, Int.reduceToNat]; try with_reducible rfl)
  · -- -
    obtain ⟨l_16, Hl_16, H⟩ := Option.bind_eq_some_iff.mp H
    have K_17 : it0_law ⟨[(.val (.scr (NS.map .int))), .val (.cell 1), .no, .no], [tb 0 "_law_refused_right", hd.1]⟩ = .ok ((rng 0 3).map eI) ⟨[(.val (.scr (NS.map .int))), .val (.cell 1), .no, .no], [tb 0 "_law_refused_right", hd.1]⟩ := by (push_cast [it0_law, HN, Kw_6, C_7, rngO_ok, Nat.reduceAdd, Nat.reduceSub, Nat.reduceLT, Nat.reduceLeDiff, Int.reduceLT, Int.reduceLE, Int.reduceNeg, Int.reducePow, Int.reduceToNat]; try with_reducible rfl)
    have Kl_16 := for_for (I := I0_law ((.val (.scr (NS.map .int))))) (R := (fun V : (Bool × Hd) => (eB V.1, false))) (J := (fun V E => E.t = [tb 0 "_law_refused_right", V.2.1])) (tg := (.nm 2)) (b := bd0_law) (E := eI) (fun Q E X0 O HI H => l0_law_bd ((.val (.scr (NS.map .int)))) Q X0 E HI H) (rng 0 3) hd ⟨[(.val (.scr (NS.map .int))), .val (.cell 1), .no, .no], [tb 0 "_law_refused_right", hd.1]⟩ _ ⟨.no, .no, rfl⟩ Hl_16
    rcases sumM_inv H with ⟨s_21, HO, H⟩ | ⟨r_22, HO, H⟩
    · subst HO
      obtain ⟨E_20, Kl_16, ⟨D_18, D_19, rfl⟩⟩ := Kl_16
      have K_23 : lp0_law ⟨[(.val (.scr (NS.map .int))), .val (.cell 1), .no, .no], [tb 0 "_law_refused_right", hd.1]⟩ = .ok .nx ⟨[(.val (.scr (NS.map .int))), .val (.cell 1), D_18, D_19], [tb 0 "_law_refused_right", s_21.1]⟩ := by
        show forS _ _ _ _ = _
        rw [forS_ap, K_17, bind_ok]; exact Kl_16
      try push_cast [DR.bind_ok] at K_23
      obtain rfl := Option.some.inj H
      (push_cast [F_law, b_law, HN, Kw_6, C_7, K_23, Nat.reduceAdd, Nat.reduceSub, Nat.reduceLT, Nat.reduceLeDiff, Int.reduceLT, Int.reduceLE, Int.reduceNeg, Int.reducePow, Int.reduceToNat]; try with_reducible rfl)
    · subst HO
      obtain ⟨⟨E_24, E_24t⟩, Kl_16, HT⟩ := Kl_16
      replace HT : E_24t = [tb 0 "_law_refused_right", r_22.2.1] := HT
      rw [HT] at Kl_16
      have K_23 : lp0_law ⟨[(.val (.scr (NS.map .int))), .val (.cell 1), .no, .no], [tb 0 "_law_refused_right", hd.1]⟩ = .ok (.rt (eB r_22.1) false) ⟨E_24, [tb 0 "_law_refused_right", r_22.2.1]⟩ := by
        show forS _ _ _ _ = _
        rw [forS_ap, K_17, bind_ok]; exact Kl_16
      try push_cast [DR.bind_ok] at K_23
      obtain rfl := Option.some.inj H
      (push_cast [F_law, b_law, HN, Kw_6, C_7, K_23, Nat.reduceAdd, Nat.reduceSub, Nat.reduceLT, Nat.reduceLeDiff, Int.reduceLT, Int.reduceLE, Int.reduceNeg, Int.reducePow, Int.reduceToNat]; try with_reducible rfl)
end K67
namespace K67
open PySem DR TM TL
/-- a floor of 4 q places -/
structure Fl (l : List Int) (q : Nat) : Prop where
  len : l.length = 4 * q
  q1 : 1 ≤ q
  q2 : q ≤ 6
  bd : ∀ x ∈ l, -500 ≤ x ∧ x ≤ 500
  st : ∀ i, i < 4 * q → iabs (l.getD i 0 - l.getD ((i + 1) % (4 * q)) 0) ≤ 1
theorem rot_getD {l : List Int} {k i : Nat} (hk : k ≤ l.length) (hi : i < l.length) : (l.drop k ++ l.take k).getD i 0 = l.getD ((i + k) % l.length) 0 := by
  rw [List.getD_eq_getElem?_getD, List.getD_eq_getElem?_getD, List.getElem?_append]
  rw [List.length_drop]
  split
  · rename_i h
    rw [List.getElem?_drop, Nat.mod_eq_of_lt (by omega), Nat.add_comm]
  · rename_i h
    rw [List.getElem?_take, if_pos (by omega)]
    have : (i + k) % l.length = i - (l.length - k) := by
      rw [Nat.mod_eq_sub_mod (by omega), Nat.mod_eq_of_lt (by omega)]
      omega
    rw [this]
theorem iabs_le {x : Int} {k : Int} : iabs x ≤ k ↔ -k ≤ x ∧ x ≤ k := by
  unfold iabs
  split <;> omega
/-! ### the judge -/
theorem rot1 {l : List Int} (h : 1 ≤ l.length) (hs : l.length ≤ 1000) : appO (cutT l (some 1) none) (cutT l none (some 1)) = some (l.drop 1 ++ l.take 1) := by
  rw [cut_drop (by decide), cut_take (by decide)]
  exact appO_ok (by simp only [List.length_drop, List.length_take]; omega)
theorem zip_getD {l k : List Int} {i : Nat} (h : l.length = k.length) (hi : i < l.length) : (List.zip l k).getD i (0, 0) = (l.getD i 0, k.getD i 0) := by
  have hk : i < k.length := by omega
  rw [List.getD_eq_getElem?_getD, List.getD_eq_getElem?_getD, List.getD_eq_getElem?_getD, (List.getElem?_zip_eq_some (z := (l[i], k[i]))).mpr ⟨List.getElem?_eq_getElem hi, List.getElem?_eq_getElem hk⟩, List.getElem?_eq_getElem hi, List.getElem?_eq_getElem hk]
  rfl
theorem within_ok {l : List Int} (h : ∀ x ∈ l, -1000 ≤ x ∧ x ≤ 1000) : (l.map fun Y0 => m_is_within Y0 (-1000) 1000).all id = true := by
  simp only [List.all_map, List.all_eq_true]
  intro x hx
  have := h x hx
  simp [m_is_within, m_is_integer, this.1, this.2]
theorem is_floor_eq {l : List Int} {q : Nat} (hl : l.length = 4 * q) (h1 : 1 ≤ q) (h2 : q ≤ 6) (hb : ∀ x ∈ l, -1000 ≤ x ∧ x ≤ 1000) :
    m_is_floor l = some (((List.zip l (l.drop 1 ++ l.take 1)).map fun Y1 => (decide ((iabs (Y1.1 - Y1.2)) ≤ 1))).all id) := by
  unfold m_is_floor
  have c1 : m_is_tuple l 4 40 = true := by
    unfold m_is_tuple
    simp only [Bool.and_eq_true, decide_eq_true_eq]
    omega
  have c2 : ((l.length : Int) % 4) = 0 := by omega
  rw [c1, c2]
  rw [if_neg (by decide), lenO_ok (by rw [List.length_map]; omega), sb, within_ok hb]
  rw [if_neg (by decide), rot1 (by omega) (by omega), sb, lenO_ok (by simp only [List.length_map, List.length_zip]; omega), sb]
theorem Fl.zip {l : List Int} {q : Nat} (F : Fl l q) : ((List.zip l (l.drop 1 ++ l.take 1)).map fun Y1 => (decide ((iabs (Y1.1 - Y1.2)) ≤ 1))).all id = true := by
  have hl := F.len
  have h1 := F.q1
  have hr : (l.drop 1 ++ l.take 1).length = l.length := by simp only [List.length_append, List.length_drop, List.length_take]; omega
  simp only [List.all_map, List.all_eq_true]
  intro p hp
  obtain ⟨i, hi, e⟩ := List.mem_iff_getElem.mp hp
  have hz : i < l.length := by rw [List.length_zip] at hi; omega
  have e2 : (List.zip l (l.drop 1 ++ l.take 1)).getD i (0, 0) = p := by
    rw [List.getD_eq_getElem?_getD, List.getElem?_eq_getElem hi, e]
    rfl
  rw [zip_getD hr.symm hz, rot_getD (by omega) hz] at e2
  rw [← e2]
  have := F.st i (by omega)
  rw [← hl] at this
  simpa using this
theorem Fl.is {l : List Int} {q : Nat} (F : Fl l q) : m_is_floor l = some true := by
  rw [is_floor_eq F.len F.q1 F.q2 (fun x hx => by have := F.bd x hx; omega), F.zip]
/-! ### rocks -/
def rk (l : List Int) (q at_ : Nat) : Int := l.getD (at_ % (4 * q)) 0 + l.getD ((at_ + 2 * q) % (4 * q)) 0 - l.getD ((at_ + q) % (4 * q)) 0 - l.getD ((at_ + 3 * q) % (4 * q)) 0
def rks (l : List Int) (q : Nat) : List Int := (List.range (4 * q)).map (rk l q)
theorem feet {l : List Int} {q : Nat} (hl : l.length = 4 * q) (h1 : 1 ≤ q) (h2 : q ≤ 6) (at_ k : Nat) (hk : k < 4) :
    ((mulT (q : Int) (k : Int)).bind fun v_3 => (modO ((at_ : Int) + v_3) (4 * q : Nat)).bind fun v_4 => (idx l v_4).bind fun v_5 => some v_5) = some (l.getD ((at_ + k * q) % (4 * q)) 0) := by
  rw [mulT_l (by omega) (by omega), sb, modO_pos (by omega), sb]
  have e : (((at_ : Int) + (q : Int) * (k : Int)) % ((4 * q : Nat) : Int)) = (((at_ + k * q) % (4 * q) : Nat) : Int) := by
    rw [Int.natCast_emod, Int.natCast_add, Int.natCast_mul k q, Int.mul_comm (k : Int)]
  have hlt : (at_ + k * q) % (4 * q) < 4 * q := Nat.mod_lt _ (by omega)
  rw [e, idx_nat 0 (by omega), sb]
theorem rng4 : rng 0 4 = [((0 : Nat) : Int), ((1 : Nat) : Int), ((2 : Nat) : Int), ((3 : Nat) : Int)] := by decide
theorem compM4 {f : Int → Option Int} {g : Nat → Int} (h : ∀ k : Nat, k < 4 → f (k : Int) = some (g k)) : compM f (rng 0 4) = some [g 0, g 1, g 2, g 3] := by
  rw [rng4]
  unfold compM
  simp only [mapO, h 0 (by decide), h 1 (by decide), h 2 (by decide), h 3 (by decide)]
  rfl
theorem rock_step {l : List Int} {q : Nat} (hl : l.length = 4 * q) (h1 : 1 ≤ q) (h2 : q ≤ 6) {found : List Int} (hf : found.length < 1000) {f : Int → Option Int} (at_ : Nat)
    (hc : ∀ k : Nat, k < 4 → f (k : Int) = some (l.getD ((at_ + k * q) % (4 * q)) 0)) :
    ((compM f (rng 0 4)).bind fun y_6 => (idx y_6 0).bind fun v_8 => (idx y_6 2).bind fun v_9 => (idx y_6 1).bind fun v_10 => (idx y_6 3).bind fun v_11 => (snoc found (((v_8 + v_9) - v_10) - v_11)).bind fun found_12 => some found_12) = some (found ++ [rk l q at_]) := by
  rw [compM4 hc, sb]
  rw [idx_head, sb, show ∀ a b c d : Int, idx [a, b, c, d] 2 = some c from fun a b c d => rfl, sb, show ∀ a b c d : Int, idx [a, b, c, d] 1 = some b from fun a b c d => rfl, sb, show ∀ a b c d : Int, idx [a, b, c, d] 3 = some d from fun a b c d => rfl, sb]
  rw [snoc_ok (by omega), sb]
  unfold rk
  simp only [Nat.zero_mul, Nat.add_zero, Nat.one_mul]
theorem rocks_fold {l : List Int} {q : Nat} (hl : l.length = 4 * q) (h1 : 1 ≤ q) (h2 : q ≤ 6) {f : List Int → Int → Option (List Int)}
    (hf : ∀ (s : List Int) (i : Nat), i < 4 * q → s.length < 1000 → f s (i : Int) = some (s ++ [rk l q i])) :
    foldO f ((List.range (4 * q)).map fun (i : Nat) => (i : Int)) [] = some (rks l q) := by
  obtain ⟨s, e, h⟩ := fold_rng (f := f) (fun k s => s = (List.range k).map (rk l q)) (4 * q) [] rfl fun i s hi h => by
    refine ⟨_, hf s i hi (by rw [h, List.length_map, List.length_range]; omega), ?_⟩
    rw [h, List.range_succ, List.map_append]
    rfl
  rw [e, h]
  rfl
theorem law_rocks_ok {l : List Int} {q : Nat} (hl : l.length = 4 * q) (h1 : 1 ≤ q) (h2 : q ≤ 6) : m__law_rocks l = some (rks l q) := by
  unfold m__law_rocks
  rw [rngO_0 (by omega), sb, hl]
  rw [rocks_fold hl h1 h2 (fun s i hi hs => ?_), sb]
  unfold s0__law_rocks
  refine rock_step hl h1 h2 hs i fun (k : Nat) hk => ?_
  unfold b0__law_rocks
  rw [show ((4 * q : Nat) : Int) / 4 = (q : Int) by omega]
  exact feet hl h1 h2 i k hk
theorem Fl.rocks {l : List Int} {q : Nat} (F : Fl l q) : m_rocks l = some (rks l q) := by
  have hl := F.len
  have h1 := F.q1
  have h2 := F.q2
  unfold m_rocks m_check_floor
  rw [F.is, sb, if_neg (by decide), sb, rngO_0 (by omega), sb, hl]
  rw [rocks_fold hl h1 h2 (fun s i hi hs => ?_), sb]
  unfold s0_rocks
  refine rock_step hl h1 h2 hs i fun (k : Nat) hk => ?_
  unfold b0_rocks
  rw [show ((4 * q : Nat) : Int) / 4 = (q : Int) by omega]
  exact feet hl h1 h2 i k hk
/-! ### what the law asks -/
theorem rks_len (l : List Int) (q : Nat) : (rks l q).length = 4 * q := by simp [rks]
theorem rks_at {l : List Int} {q i : Nat} (hi : i < 4 * q) : (rks l q).getD i 0 = rk l q i := by
  unfold rks
  rw [List.getD_eq_getElem?_getD, List.getElem?_map, List.getElem?_range hi]
  rfl
theorem rk_mod (l : List Int) (q i : Nat) : rk l q (i % (4 * q)) = rk l q i := by
  unfold rk
  simp only [Nat.mod_add_mod, Nat.mod_mod]
theorem rk_turn (l : List Int) (q i : Nat) : rk l q (i + q) = 0 - rk l q i := by
  unfold rk
  have e1 : i + q + 2 * q = i + 3 * q := by omega
  have e2 : i + q + q = i + 2 * q := by omega
  have e3 : i + q + 3 * q = i + 4 * q := by omega
  rw [e1, e2, e3, Nat.add_mod_right]
  omega
theorem Fl.step {l : List Int} {q : Nat} (F : Fl l q) (j : Nat) : iabs (l.getD (j % (4 * q)) 0 - l.getD ((j + 1) % (4 * q)) 0) ≤ 1 := by
  have h1 := F.q1
  have := F.st (j % (4 * q)) (Nat.mod_lt _ (by omega))
  rw [Nat.mod_add_mod] at this
  exact this
theorem Fl.rk_step {l : List Int} {q : Nat} (F : Fl l q) (i : Nat) : -4 ≤ rk l q i - rk l q (i + 1) ∧ rk l q i - rk l q (i + 1) ≤ 4 := by
  have a := iabs_le.mp (F.step i)
  have b := iabs_le.mp (F.step (i + 2 * q))
  have c := iabs_le.mp (F.step (i + q))
  have d := iabs_le.mp (F.step (i + 3 * q))
  unfold rk
  rw [show i + 1 + 2 * q = i + 2 * q + 1 by omega, show i + 1 + q = i + q + 1 by omega, show i + 1 + 3 * q = i + 3 * q + 1 by omega]
  omega
/-- a table stands within each quarter -/
theorem Fl.stands {l : List Int} {q : Nat} (F : Fl l q) (b : Nat) : ∃ j, j < q ∧ iabs (rk l q (b + j)) ≤ 2 := by
  have h1 := F.q1
  refine Classical.byContradiction fun no => ?_
  have big : ∀ j, j < q → 2 < rk l q (b + j) ∨ rk l q (b + j) < -2 := fun j hj => by
    refine Classical.byContradiction fun h => no ⟨j, hj, iabs_le.mpr ⟨by omega, by omega⟩⟩
  have t := rk_turn l q b
  have same : ∀ j, j ≤ q → (2 < rk l q b → 2 < rk l q (b + j)) ∧ (rk l q b < -2 → rk l q (b + j) < -2) := fun j => by
    induction j with
    | zero => intro _; exact ⟨id, id⟩
    | succ j ih =>
      intro hj
      have s := F.rk_step (b + j)
      rw [show b + (j + 1) = b + j + 1 by omega]
      obtain ⟨i1, i2⟩ := ih (by omega)
      have g : 2 < rk l q (b + j + 1) ∨ rk l q (b + j + 1) < -2 := by
        by_cases hq : j + 1 < q
        · exact big (j + 1) hq
        · have : j + 1 = q := by omega
          have e : b + j + 1 = b + q := by omega
          rw [e, t]
          have := big 0 (by omega)
          rw [Nat.add_zero] at this
          omega
      refine ⟨fun h => ?_, fun h => ?_⟩
      · have := i1 h
        omega
      · have := i2 h
        omega
  have s := same q (Nat.le_refl _)
  have g := big 0 (by omega)
  rw [Nat.add_zero] at g
  rw [t] at s
  omega
end K67
namespace K67
open PySem DR TM TL
theorem cut_mid {l : List Int} {a b : Int} (h0 : 0 ≤ a) (h1 : a ≤ b) (h2 : b ≤ l.length) : cutT l (some a) (some b) = (l.take b.toNat).drop a.toNat := by
  unfold cutT
  have e1 : HT.sIx l.length 0 (some a) = a.toNat := by
    unfold HT.sIx
    dsimp only
    rw [if_neg (by omega)]
    omega
  have e2 : HT.sIx l.length l.length (some b) = b.toNat := by
    unfold HT.sIx
    dsimp only
    rw [if_neg (by omega)]
    omega
  rw [e1, e2, List.drop_take]
theorem range_drop (n m : Nat) : (List.range (n + m)).drop n = (List.range m).map fun j => n + j := by
  rw [List.range_add, List.drop_left' (by simp)]
/-- what stands, in order -/
theorem stands_list (o : List Int) : (((enumT 0 o).filter fun Y0 => (decide ((iabs Y0.2) ≤ 2))).map fun Y0 => Y0.1).length ≤ o.length := by
  rw [List.length_map]
  refine Nat.le_trans (List.length_filter_le _ _) ?_
  rw [enum_len]
  exact Nat.le_refl _
theorem first_of {o : List Int} {n q : Nat} (hn : o.length = n) (hq : q ≤ n) (h : ∃ j, j < q ∧ iabs (o.getD j 0) ≤ 2) : ∃ v, (((enumT 0 o).filter fun Y0 => (decide ((iabs Y0.2) ≤ 2))).map fun Y0 => Y0.1).head? = some v ∧ 0 ≤ v ∧ v < q := by
  obtain ⟨j, hj, hb⟩ := h
  have : (enumT 0 o).filter (fun Y0 => decide ((iabs Y0.2) ≤ 2)) = ((enumT 0 o).take q).filter (fun Y0 => decide ((iabs Y0.2) ≤ 2)) ++ ((enumT 0 o).drop q).filter (fun Y0 => decide ((iabs Y0.2) ≤ 2)) := by
    rw [← List.filter_append, List.take_append_drop]
  rw [this]
  have e : enumT 0 o = (List.range o.length).map fun (i : Nat) => (((0 + i : Nat) : Int), o.getD i 0) := enumT_eq 0 o 0
  have mem : ((j : Int), o.getD j 0) ∈ ((enumT 0 o).take q).filter (fun Y0 => decide ((iabs Y0.2) ≤ 2)) := by
    refine List.mem_filter.mpr ⟨?_, by simpa using hb⟩
    rw [e, ← List.map_take, List.take_range]
    refine List.mem_map.mpr ⟨j, List.mem_range.mpr (by omega), by simp⟩
  cases hc : ((enumT 0 o).take q).filter (fun Y0 => decide ((iabs Y0.2) ≤ 2)) with
  | nil => rw [hc] at mem; cases mem
  | cons a r =>
    refine ⟨a.1, rfl, ?_⟩
    have ha : a ∈ ((enumT 0 o).take q).filter (fun Y0 => decide ((iabs Y0.2) ≤ 2)) := by rw [hc]; exact List.mem_cons_self ..
    have ha := (List.mem_filter.mp ha).1
    rw [e, ← List.map_take, List.take_range] at ha
    obtain ⟨i, hi, rfl⟩ := List.mem_map.mp ha
    have := List.mem_range.mp hi
    dsimp only
    omega
theorem idx0 {l : List Int} {v : Int} (h : l.head? = some v) : idx l 0 = some v := by
  cases l with
  | nil => cases h
  | cons a r => cases h; exact idx_head
theorem Fl.first {l : List Int} {q : Nat} (F : Fl l q) : ∃ v, (((enumT 0 (rks l q)).filter fun Y0 => (decide ((iabs Y0.2) ≤ 2))).map fun Y0 => Y0.1).head? = some v ∧ 0 ≤ v ∧ v < q := by
  have h1 := F.q1
  refine first_of (rks_len l q) (by omega) ?_
  obtain ⟨j, hj, hb⟩ := F.stands 0
  refine ⟨j, hj, ?_⟩
  rw [rks_at (by omega)]
  rw [Nat.zero_add] at hb
  exact hb
theorem is_right_ok {l : List Int} {q : Nat} (F : Fl l q) : m__law_is_right l = some true := by
  have hl := F.len
  have h1 := F.q1
  have h2 := F.q2
  have ol := rks_len l q
  obtain ⟨v, hv, v0, v1⟩ := F.first
  have e0 := law_rocks_ok hl h1 h2
  have e1 : x0__law_is_right l (rks l q) = some false := by
    unfold x0__law_is_right
    rw [F.is, sb, if_pos rfl, F.rocks, sb, decide_eq_true rfl]
    rfl
  have e2 : forO (fun (Q : Unit) X0 => s0__law_is_right l (rks l q) ((l.length : Int) / 4) X0) ((List.range (4 * q)).map fun (i : Nat) => (i : Int)) () = some (.inl ()) := for_all fun x hx => by
    obtain ⟨i, hi, rfl⟩ := List.mem_map.mp hx
    have hi := List.mem_range.mp hi
    unfold s0__law_is_right
    rw [hl, show ((4 * q : Nat) : Int) / 4 = (q : Int) by omega, modO_pos (by omega), sb]
    have hlt : (i + q) % (4 * q) < 4 * q := Nat.mod_lt _ (by omega)
    have ec : (((i : Int) + (q : Int)) % ((4 * q : Nat) : Int)) = (((i + q) % (4 * q) : Nat) : Int) := by
      rw [Int.natCast_emod, Int.natCast_add]
    rw [ec, idx_nat 0 (by omega), sb, idx_nat 0 (by omega), sb, rks_at hlt, rks_at hi, rk_mod, rk_turn, if_pos rfl]
  have e3 : m_stands_at l = some v := by
    unfold m_stands_at
    rw [F.rocks, sb, lenO_ok (Nat.le_trans (stands_list _) (by omega)), sb, idx0 hv, sb]
  have e4 : x1__law_is_right (rks l q) ((l.length : Int) / 4) v = some false := by
    unfold x1__law_is_right
    rw [lenO_ok (Nat.le_trans (stands_list _) (by omega)), sb, idx0 hv, sb, if_pos rfl, hl, show ((4 * q : Nat) : Int) / 4 = (q : Int) by omega, decide_eq_false (by omega)]
  have e5 : rng3O 0 (l.length : Int) ((l.length : Int) / 4) = some ((List.range 4).map fun (i : Nat) => ((i * q : Nat) : Int)) := by
    rw [hl, show ((4 * q : Nat) : Int) / 4 = (q : Int) by omega]
    have : q = 1 ∨ q = 2 ∨ q = 3 ∨ q = 4 ∨ q = 5 ∨ q = 6 := by omega
    rcases this with rfl | rfl | rfl | rfl | rfl | rfl <;> decide +kernel
  have e6 : forO (fun (Q : Unit) X1 => s1__law_is_right (rks l q) ((l.length : Int) / 4) X1) ((List.range 4).map fun (i : Nat) => ((i * q : Nat) : Int)) () = some (.inl ()) := for_all fun x hx => by
    obtain ⟨i, hi, rfl⟩ := List.mem_map.mp hx
    have hi := List.mem_range.mp hi
    unfold s1__law_is_right
    rw [hl, show ((4 * q : Nat) : Int) / 4 = (q : Int) by omega]
    have hcut : cutT (rks l q) (some ((i * q : Nat) : Int)) (some (((i * q : Nat) : Int) + (q : Int))) = (List.range q).map fun j => rk l q (i * q + j) := by
      have hle : i * q + q ≤ 4 * q := by
        have : (i + 1) * q ≤ 4 * q := Nat.mul_le_mul_right _ (by omega)
        rw [Nat.add_mul, Nat.one_mul] at this
        exact this
      rw [cut_mid (by omega) (by omega) (by omega)]
      rw [show (((i * q : Nat) : Int) + (q : Int)).toNat = i * q + q by omega, Int.toNat_natCast]
      unfold rks
      rw [← List.map_take, List.take_range, ← List.map_drop]
      rw [Nat.min_eq_left hle, range_drop, List.map_map]
      rfl
    rw [hcut, lenO_ok (by rw [List.length_map, List.length_map, List.length_range]; omega), sb]
    obtain ⟨j, hj, hb⟩ := F.stands (i * q)
    have hany : (List.map (fun Y1 => decide (iabs Y1 ≤ 2)) (List.map (fun j => rk l q (i * q + j)) (List.range q))).any id = true := by
      rw [List.map_map, List.any_map, List.any_eq_true]
      exact ⟨j, List.mem_range.mpr hj, by simpa using hb⟩
    rw [hany]
    rfl
  unfold m__law_is_right
  rw [e0, sb, e1, sb, if_neg (by decide), hl, rngO_0 (by omega), sb]
  rw [hl] at e2 e4 e5 e6
  rw [e2, sb, smL, e3, sb, e4, sb, if_neg (by decide), e5, sb, e6, sb, smL]
end K67
namespace K67
open PySem DR TM TL
variable [Adr 1]
structure Row (r : List Int) (n : Nat) : Prop where
  len : r.length = n
  n1 : 1 ≤ n
  bd : ∀ x ∈ r, -(5 + (n : Int)) ≤ x ∧ x ≤ 5 + (n : Int)
  st : ∀ i, i + 1 < n → iabs (r.getD i 0 - r.getD (i + 1) 0) ≤ 1
theorem mirror_getD {r : List Int} {i : Nat} (hi : i < 2 * r.length) : (r ++ r.reverse).getD i 0 = if i < r.length then r.getD i 0 else r.getD (2 * r.length - 1 - i) 0 := by
  rw [List.getD_eq_getElem?_getD, List.getElem?_append]
  split
  · rw [List.getD_eq_getElem?_getD]
  · rw [List.getElem?_reverse (by omega), List.getD_eq_getElem?_getD]
    congr 2
    omega
theorem Row.floor {r : List Int} {n q k : Nat} (R : Row r n) (hn : n = 2 * q) (hq : q ≤ 6) (hk : k < 4 * q) : Fl ((r ++ r.reverse).drop k ++ (r ++ r.reverse).take k) q := by
  have hl := R.len
  have h1 := R.n1
  have hL : (r ++ r.reverse).length = 4 * q := by rw [List.length_append, List.length_reverse]; omega
  have hT : ((r ++ r.reverse).drop k ++ (r ++ r.reverse).take k).length = 4 * q := by
    rw [List.length_append, List.length_drop, List.length_take, hL]
    omega
  have cyc : ∀ i, i < 4 * q → iabs ((r ++ r.reverse).getD i 0 - (r ++ r.reverse).getD ((i + 1) % (4 * q)) 0) ≤ 1 := fun i hi => by
    have hm : (i + 1) % (4 * q) < 4 * q := Nat.mod_lt _ (by omega)
    rw [mirror_getD (by omega), mirror_getD (by omega), hl]
    by_cases c0 : i + 1 = 4 * q
    · rw [c0, Nat.mod_self, if_neg (by omega), if_pos (by omega), show 2 * n - 1 - i = 0 by omega]
      exact iabs_le.mpr (by omega)
    · rw [Nat.mod_eq_of_lt (by omega)]
      by_cases c1 : i + 1 < n
      · rw [if_pos (by omega), if_pos c1]
        exact R.st i c1
      · by_cases c2 : i + 1 = n
        · rw [if_pos (by omega), if_neg (by omega), show 2 * n - 1 - (i + 1) = i by omega]
          exact iabs_le.mpr (by omega)
        · rw [if_neg (by omega), if_neg (by omega)]
          have := iabs_le.mp (R.st (2 * n - 1 - (i + 1)) (by omega))
          rw [show 2 * n - 1 - (i + 1) + 1 = 2 * n - 1 - i by omega] at this
          exact iabs_le.mpr (by omega)
  refine ⟨hT, by omega, hq, fun x hx => ?_, fun i hi => ?_⟩
  · have : x ∈ r := by
      rcases List.mem_append.mp hx with h | h
      · have := List.mem_of_mem_drop h
        simpa using this
      · have := List.mem_of_mem_take h
        simpa using this
    have := R.bd x this
    omega
  · have hm : (i + 1) % (4 * q) < 4 * q := Nat.mod_lt _ (by omega)
    rw [rot_getD (by omega) (by omega), rot_getD (by omega) (by omega), hL, Nat.mod_add_mod]
    have := cyc ((i + k) % (4 * q)) (Nat.mod_lt _ (by omega))
    rw [Nat.mod_add_mod] at this
    rw [show i + 1 + k = i + k + 1 by omega]
    exact this
theorem floor_ok (hd : Hd) : ∃ l q hd', m__law_floor hd = some (l, hd') ∧ Fl l q := by
  obtain ⟨V, e1, a0, a1⟩ := draw_ok hd (m := 6) (by decide) (by decide)
  obtain ⟨U, e2, b0, b1⟩ := draw_ok V.2 (m := 11) (by decide) (by decide)
  obtain ⟨q, hq⟩ : ∃ q : Nat, 1 + V.1 = (q : Int) := ⟨(1 + V.1).toNat, by omega⟩
  obtain ⟨s, e3, R⟩ := fold_rng (f := fun (Q : Hd × List Int) X0 => s0__law_floor Q.1 Q.2 X0) (fun k s => Row s.2 (k + 1)) (2 * q - 1) (U.2, [(U.1 - 5)]) ⟨rfl, by omega, fun x hx => by have := List.mem_singleton.mp hx; omega, fun i hi => absurd hi (by omega)⟩ fun i s hi h => by
    obtain ⟨W, e, c0, c1⟩ := draw_ok s.1 (m := 3) (by decide) (by decide)
    have hl := h.len
    unfold s0__law_floor
    rw [idx_last 0 (by omega), sb, e, sb, snoc_ok (by omega), sb]
    refine ⟨_, rfl, ?_, by omega, fun x hx => ?_, fun j hj => ?_⟩
    · show (s.2 ++ [_]).length = _
      rw [List.length_append, hl]
      rfl
    · have hx : x ∈ s.2 ++ [s.2.getD (s.2.length - 1) 0 + W.1 - 1] := hx
      rcases List.mem_append.mp hx with hx | hx
      · have := h.bd x hx
        omega
      · have hx := List.mem_singleton.mp hx
        have := h.bd _ (TL.getD_mem (l := s.2) (i := s.2.length - 1) (d := 0) (by omega))
        omega
    · show iabs ((s.2 ++ [s.2.getD (s.2.length - 1) 0 + W.1 - 1]).getD j 0 - (s.2 ++ [s.2.getD (s.2.length - 1) 0 + W.1 - 1]).getD (j + 1) 0) ≤ 1
      by_cases c : j + 1 < s.2.length
      · rw [getD_snoc (by omega), getD_snoc c]
        exact h.st j (by omega)
      · rw [getD_snoc (by omega), getD_end (by omega), show s.2.length - 1 = j by omega]
        exact iabs_le.mpr (by omega)
  have R : Row s.2 (2 * q - 1 + 1) := R
  rw [show 2 * q - 1 + 1 = 2 * q by omega] at R
  have hl := R.len
  have hL : (s.2 ++ s.2.reverse).length = 4 * q := by rw [List.length_append, List.length_reverse]; omega
  obtain ⟨W, e4, c0, c1⟩ := draw_ok s.1 (m := ((s.2 ++ s.2.reverse).length : Int)) (by omega) (by omega)
  refine ⟨_, q, W.2, ?_, R.floor (k := W.1.toNat) rfl (by omega) (by omega)⟩
  unfold m__law_floor
  rw [e1, sb, e2, sb, hq, show (2 * (q : Int) - 1) = ((2 * q - 1 : Nat) : Int) by omega, rngO_0 (by omega), sb, e3, sb]
  rw [appO_ok (by rw [List.length_reverse]; omega), sb, e4, sb, cut_drop c0, cut_take c0, appO_ok (by simp only [List.length_drop, List.length_take]; omega), sb]
theorem any_ok (hd : Hd) {l : List Int} (h1 : 0 < l.length) (h2 : l.length < 1000) : ∃ x hd', m__law_any hd l = some (x, hd') ∧ x ∈ l := by
  obtain ⟨V, e, v0, v1⟩ := draw_ok hd (m := (l.length : Int)) (by omega) (by omega)
  unfold m__law_any
  rw [e, sb, idx_ok 0 v0 v1, sb]
  exact ⟨_, _, rfl, TL.getD_mem (by omega)⟩
theorem rep_bl (b : Bool) : reprT (PV.bl b) = some (if b then ("True" : Str) else "False") := by cases b <;> decide +kernel
theorem rep_eq (b : Bool) : eqP false (PV.str (if b then ("True" : Str) else "False")) (PV.str (if b then ("True" : Str) else "False")) = some true := by cases b <;> decide +kernel
theorem bent_ok (hd : Hd) {l : List Int} {q : Nat} (F : Fl l q) : ∃ hd', m__law_bent_right hd l = some (true, hd') := by
  have hl := F.len
  have h1 := F.q1
  have h2 := F.q2
  obtain ⟨V, e1, a0, a1⟩ := draw_ok hd (m := (l.length : Int)) (by omega) (by omega)
  obtain ⟨x, hd2, e2, hx⟩ := any_ok V.2 (l := [1, (-1), 3]) (by decide) (by decide)
  have hx' : -1 ≤ x ∧ x ≤ 3 := by
    simp only [List.mem_cons, List.mem_nil_iff, or_false] at hx
    omega
  have hb : ∀ y ∈ l.set V.1.toNat (l.getD V.1.toNat 0 + x), -1000 ≤ y ∧ y ≤ 1000 := fun y hy => by
    rcases List.mem_or_eq_of_mem_set hy with h | h
    · have := F.bd y h
      omega
    · have := F.bd _ (TL.getD_mem (l := l) (i := V.1.toNat) (d := 0) (by omega))
      omega
  have hL : (l.set V.1.toNat (l.getD V.1.toNat 0 + x)).length = 4 * q := by rw [List.length_set]; exact hl
  refine ⟨hd2, ?_⟩
  unfold m__law_bent_right
  rw [e1, sb, idx_ok 0 a0 a1, sb, e2, sb]
  dsimp only
  rw [setX_ok _ a0 a1, sb]
  rw [rot1 (by omega) (by omega), sb, lenO_ok (by simp only [List.length_map, List.length_zip]; omega), sb]
  rw [is_floor_eq hL h1 h2 hb, sb, rep_bl, sb, sb, rep_eq, sb]
end K67
namespace K67
open PySem DR TM TL
variable [Adr 1]
theorem word_floor {g : DT → FR} (h : ∀ t, g t = .exc ⟨AA 0, none⟩ t) : rawL eS F__law_word (actF g) = some ("floor" : Str) := by
  refine rawL_eq eS_inj fun L t => ?_
  have ha : actF g t = .exc ⟨AA 0, none⟩ t := by
    unfold actF
    rw [h]
  refine word_rt (x := ⟨AA 0, none⟩) (e2 := [.val L, .val (.exn (AA 0) false [])]) (by simp) (by simp) L t ha rfl ?_
  have k1 := isx_at (ks := KS) (cs := [AA 0]) (i := 1) (C := AA 0) (b := false) (fs := []) (e := [.val L, .val (.exn (AA 0) false [])]) (t := t) rfl (by simp) (x := true) (by simp)
  have k2 := isx_at (ks := KS) (cs := KS) (i := 1) (C := AA 0) (b := false) (fs := []) (e := [.val L, .val (.exn (AA 0) false [])]) (t := t) rfl (by simp) (x := true) (by simp)
  show su0__law_word ⟨[.val L, .val (.exn (AA 0) false [])], t⟩ = _
  unfold su0__law_word xo0__law_word te0__law_word retS ifO andT testE
  simp only [Re.bind, if_true, k1, k2, toB_bl]
  rfl
theorem odd_ok {x : PV} (hx : x ∈ ([PV.non, (PV.tup false []), (PV.tup false [(PV.int 0), (PV.int 0), (PV.int 0)]), (PV.tup false (List.map eI (List.replicate 6 0))), (PV.tup false [(PV.int 0), (PV.int 0), (PV.int 0), (PV.int 2)]), (PV.lst [(PV.int 0), (PV.int 0), (PV.int 0), (PV.int 0)]), (PV.tup false [(PV.int 0), (PV.int 0), (PV.int 0), PV.non]), (PV.tup false [(PV.int 0), (PV.int 0), (PV.int 0), (PV.str ("0" : Str))]), (PV.tup false (List.map eI (List.replicate 4 1001))), (PV.tup false (List.map eI (List.replicate 44 0))), (PV.dT []), (PV.tup false (List.map eB (List.replicate 4 true)))] : List PV)) (t : DT) :
    F_is_floor [x] t = .ok (.bl false) false t ∧ F_rocks [x] t = .exc ⟨AA 0, none⟩ t ∧ F_stands_at [x] t = .exc ⟨AA 0, none⟩ t := by
  simp only [List.mem_cons, List.mem_nil_iff, or_false] at hx
  rcases hx with rfl | rfl | rfl | rfl | rfl | rfl | rfl | rfl | rfl | rfl | rfl | rfl <;> exact ⟨by kernel_rfl, by kernel_rfl, by kernel_rfl⟩
theorem any1_ok (hd : Hd) {l : List PV} (h1 : 0 < l.length) (h2 : l.length < 1000) : ∃ x hd', m__law_any_1 hd l = some (x, hd') ∧ x ∈ l := by
  obtain ⟨V, e, v0, v1⟩ := draw_ok hd (m := (l.length : Int)) (by omega) (by omega)
  unfold m__law_any_1
  rw [e, sb, idx_ok .non v0 v1, sb]
  exact ⟨_, _, rfl, TL.getD_mem (by omega)⟩
theorem words_eq : eqP false (PV.lst [(PV.str ("floor" : Str)), (PV.str ("floor" : Str))]) (PV.lst [(PV.str ("floor" : Str)), (PV.str ("floor" : Str))]) = some true := by decide +kernel
theorem refused_ok (hd : Hd) : ∃ hd', m__law_refused_right hd = some (true, hd') := by
  obtain ⟨x, hd2, e2, hx⟩ := any1_ok hd (l := ([PV.non, (PV.tup false []), (PV.tup false [(PV.int 0), (PV.int 0), (PV.int 0)]), (PV.tup false (List.map eI (List.replicate 6 0))), (PV.tup false [(PV.int 0), (PV.int 0), (PV.int 0), (PV.int 2)]), (PV.lst [(PV.int 0), (PV.int 0), (PV.int 0), (PV.int 0)]), (PV.tup false [(PV.int 0), (PV.int 0), (PV.int 0), PV.non]), (PV.tup false [(PV.int 0), (PV.int 0), (PV.int 0), (PV.str ("0" : Str))]), (PV.tup false (List.map eI (List.replicate 4 1001)))] : List PV) ++ [(PV.tup false (List.map eI (List.replicate 44 0))), (PV.dT []), (PV.tup false (List.map eB (List.replicate 4 true)))]) (by simp) (by simp)
  unfold m__law_refused_right
  rw [repTO_ok (by decide), sb, repTO_ok (by decide), sb, repTO_ok (by decide), sb, repTO_ok (by decide), sb]
  rw [show (List.replicate (6 : Int).toNat [(0 : Int)]).flatten = List.replicate 6 0 from rfl, show (List.replicate (4 : Int).toNat [(1001 : Int)]).flatten = List.replicate 4 1001 from rfl, show (List.replicate (44 : Int).toNat [(0 : Int)]).flatten = List.replicate 44 0 from rfl, show (List.replicate (4 : Int).toNat [true]).flatten = List.replicate 4 true from rfl]
  rw [appO_ok (by simp), sb, e2, sb]
  have k := odd_ok hx
  dsimp only
  rw [rawO_eq (v := false) eB_inj (fun t => (k t).1), sb, if_pos rfl, word_floor (fun t => (k t).2.1), sb, word_floor (fun t => (k t).2.2), sb, words_eq, sb]
  exact ⟨_, rfl⟩
theorem seven : x0_law = some false := by decide +kernel
theorem turn_ok (hd : Hd) (x : Int) : ∃ hd', s0_law hd x = some (.nx hd') := by
  obtain ⟨l, q, hd1, e1, F⟩ := floor_ok hd
  obtain ⟨hd2, e2⟩ := bent_ok hd1 F
  obtain ⟨hd3, e3⟩ := refused_ok hd2
  unfold s0_law x1_law
  rw [e1, sb]
  dsimp only
  rw [is_right_ok F, sb, if_neg (by decide), e2, sb, if_neg (by simp), e3, sb, sb, if_neg (by simp)]
  exact ⟨_, rfl⟩
theorem law_ok (hd : Hd) : ∃ hd', m_law hd = some (true, hd') := by
  unfold m_law
  rw [seven, sb, if_neg (by decide)]
  obtain ⟨s, e, _⟩ := for_inv (f := fun Q X0 => s0_law Q X0) (fun _ => True) (l := rng 0 3) (s := hd) trivial fun s x _ _ => by
    obtain ⟨h, e⟩ := turn_ok s x
    exact ⟨h, e, trivial⟩
  rw [e, sb, smL]
  exact ⟨_, rfl⟩
theorem law_holds (NS : List Int) (hl : NS.length ≤ 63) : ∃ t, F_law [.scr (NS.map .int)] [tb 0 "_law_refused_right"] = .ok (.bl true) false t := by
  obtain ⟨hd, e⟩ := hand_ex NS hl
  obtain ⟨hd', k⟩ := law_ok hd
  exact ⟨_, w_law NS hd e k⟩
end K67
open PySem PySem.W PySem.Calls PyProof.Rows
theorem PySem.Challenge.rw_doorroads_k67_whole_tables_that_stand_holds_of (law : ∀ [DR.Adr 1] (ns : List Int), ns.length ≤ 63 → ∃ t, K67.F_law [.scr (ns.map .int)] [K67.tb 0 "_law_refused_right"] = .ok (.bl true) false t) : PySem.Challenge.rw_doorroads_k67_whole_tables_that_stand.Holds := by
  w_on; o_law
  refine HandSHeadRun.head_any (r := K67.R) (q := view K67.R.prog [23]) (H := K67.hk) (ob := K67.ob) (M := 3000) (loose := K67.loose) (d := HandSHeadRun.topDef K67.R.prog 23) (kwd := []) K67.ob_eq
    (by kernel_rfl) (fun s => by kernel_rfl) K67.run (by kernel_rfl) (by kernel_rfl) (by kernel_rfl) (by rfl) (by first | assumption | decide +kernel) (by decide +kernel) ⟨rfl, rfl, rfl, rfl, rfl, by decide +kernel⟩ ?hw ?hc
  case hw => w_witness2
  case hc =>
    refine DR.walkG (l := PySem.Challenge.rw_doorroads_k67_whole_tables_that_stand) (n := 63) (k := 10) (x := "script") (CX := fun w => L2.CX (PySem.Challenge.rw_doorroads_k67_whole_tables_that_stand).prog w) rfl (by decide) (by kernel_rfl) ⟨rfl, by decide, by decide⟩ ?_ DR.cx_closed
    intro w mg fa h Y G hmg0
    obtain ⟨K, KX, c⟩ := Y
    have hmg : mg ("law" : PySem.Str) = some (.ref fa) := by
      have e : (HandSHeadRun.topDef K67.R.prog 23).name = ("law" : PySem.Str) := by kernel_rfl
      rw [← e]
      exact hmg0
    obtain ⟨fd, hb, hF⟩ := K67.facts (w := w) KX G hmg c
    refine ⟨K, KX, fd, K67.tf.map (He.cT K), DR.spF K 1 (@K67.F_law (K67.adrK c)), ?_, ?_, ?_, hb, ?_, hF⟩
    · intro p hp
      obtain ⟨q, hq, rfl⟩ := List.mem_map.mp hp
      exact c.empty q hq
    · intro p hp
      obtain ⟨q, hq, rfl⟩ := List.mem_map.mp hp
      exact c.out q hq
    · intro p hp
      obtain ⟨q, hq, rfl⟩ := List.mem_map.mp hp
      exact PySem.W.codeHd_of_K KX (c.hd q hq)
    · intro H a ns hl hT hS
      refine DR.promiseT (cs := K67.tf.map (He.cT K)) (qs := K67.tq) rfl ?_ (fun ns hl => ?_) H a ns hl hT hS
      · rw [List.map_map]; exact c.tn
      · letI := K67.adrK c
        exact law ns hl
theorem PySem.Challenge.cw_doorroads_k67_whole_tables_that_stand_holds : PySem.Challenge.rw_doorroads_k67_whole_tables_that_stand.Holds := by
  exact PySem.Challenge.rw_doorroads_k67_whole_tables_that_stand_holds_of @K67.law_holds
