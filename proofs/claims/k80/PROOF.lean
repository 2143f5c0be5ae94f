import PyProof.Rows.All
import Wide.All
import OpenK.AllK
import Wide.FinOn
import HandS.ForMost
import HandS.ForExc
import HandS.Walk
import HandS.TryMany
import HandS.CallSlots
import HandS.ExcInit
import HandS.ExcField
import HandS.ExcIs
import HandS.IsInst
import HandS.Wide
import HandS.Conv
import HandS.NoneIn
import HandS.Flow
import HandS.Defaults
import KE.KExcIs
import HandS.TupAny
import HandS.TupMul
import HandS.SortInts
import HandS.Style
import HandS.MakeKw
import KE.KTupSum
import PySem.Challenge.RW_treebench_k80_versions_of_rows
set_option Elab.async false
set_option linter.all false
set_option maxRecDepth 100000
/-! DL: a layer of data over HandS. Values as trees (D), a frame's slots (SD), shared objects (OB); a program's part is a function on these; PE and PS hold of it by one rule a construct. -/
namespace DL
open PySem PySem.Spec PyProof.Rows L2

/-! ### data -/
inductive D where
  | non | bl (b : Bool) | int (i : Int) | str (s : Str)
  | lst (xs : List D) | tup (xs : List D) | dic (ks : List Key) (xs : List D)
  | obj (h : Nat) | fn (a : Addr) | ty (n : String) | scr (xs : List D)
/-- a slot: nothing known, data, a list that this slot alone holds, a caught error -/
structure Ex where
  cls : Str
  fs : List (Str × D)
inductive SD where
  | no | dat (d : D) | own (xs : List D) | exn (e : Ex)
/-- a shared object -/
inductive OB where
  | lst (xs : List D) | dic (ks : List Key) (xs : List D) | ins (C : Addr) (fs : List (Str × D))

section
variable (K : PySem.W.Frag) (ρ : List Addr) (F : Hp)
mutual
def Rp : D → V → Prop
  | .non, v => v = .non
  | .bl b, v => v = .bl b
  | .int i, v => v = .int i
  | .str s, v => v = .str s
  | .lst ds, v => ∃ a vs, v = .ref a ∧ F a = some (.lst vs) ∧ Rps ds vs
  | .tup ds, v => ∃ a vs, v = .ref a ∧ SqT K F a vs ∧ Rps ds vs
  | .dic ks ds, v => ∃ a vs, v = .ref a ∧ F a = some (.dK (ks.zip vs)) ∧ ks.length = vs.length ∧ Rps ds vs
  | .obj h, v => ∃ a, v = .ref a ∧ ρ[h]? = some a
  | .fn a, v => v = .ref a
  | .ty n, v => v = .ty n
  | .scr ds, v => ∃ a vs, v = .ref a ∧ SqL K F a vs ∧ Rps ds vs
def Rps : List D → List V → Prop
  | [], vs => vs = []
  | d :: ds, vs => ∃ v r, vs = v :: r ∧ Rp d v ∧ Rps ds r
end
end

theorem Same.seqT {K : PySem.W.Frag} {H H' : Hp} {a : Addr} {xs : List V} (e : Same H H') (h : SqT K H a xs) : SqT K H' a xs := by
  rcases h with (h | ⟨o, h⟩) | h
  · exact .inl (.inl (e _ _ h))
  · exact .inl (.inr ⟨o, e _ _ h⟩)
  · exact .inr h

theorem pre_get {ρ ρ' : List Addr} (hp : ρ <+: ρ') {i : Nat} {a : Addr} (h : ρ[i]? = some a) : ρ'[i]? = some a := by
  obtain ⟨l, rfl⟩ := hp
  obtain ⟨hi, e⟩ := List.getElem?_eq_some_iff.mp h
  rw [List.getElem?_append_left hi]
  exact h

section
variable {K : PySem.W.Frag} {ρ ρ' : List Addr} {F F' : Hp}
mutual
theorem Rp.mono (hp : ρ <+: ρ') (hs : Same F F') : ∀ {d : D} {v : V}, Rp K ρ F d v → Rp K ρ' F' d v
  | .non, _, h => by unfold Rp at h ⊢; exact h
  | .bl _, _, h => by unfold Rp at h ⊢; exact h
  | .int _, _, h => by unfold Rp at h ⊢; exact h
  | .str _, _, h => by unfold Rp at h ⊢; exact h
  | .lst ds, _, h => by
    unfold Rp at h ⊢
    obtain ⟨a, vs, e, s, r⟩ := h
    exact ⟨a, vs, e, hs _ _ s, Rps.mono hp hs r⟩
  | .tup ds, _, h => by
    unfold Rp at h ⊢
    obtain ⟨a, vs, e, s, r⟩ := h
    exact ⟨a, vs, e, Same.seqT hs s, Rps.mono hp hs r⟩
  | .dic ks ds, _, h => by
    unfold Rp at h ⊢
    obtain ⟨a, vs, e, s, l, r⟩ := h
    exact ⟨a, vs, e, hs _ _ s, l, Rps.mono hp hs r⟩
  | .obj h, _, q => by
    unfold Rp at q ⊢
    obtain ⟨a, e, s⟩ := q
    exact ⟨a, e, pre_get hp s⟩
  | .fn _, _, h => by unfold Rp at h ⊢; exact h
  | .ty _, _, h => by unfold Rp at h ⊢; exact h
  | .scr ds, _, h => by
    unfold Rp at h ⊢
    obtain ⟨a, vs, e, s, r⟩ := h
    exact ⟨a, vs, e, Same.seq hs s, Rps.mono hp hs r⟩
theorem Rps.mono (hp : ρ <+: ρ') (hs : Same F F') : ∀ {ds : List D} {vs : List V}, Rps K ρ F ds vs → Rps K ρ' F' ds vs
  | [], _, h => by unfold Rps at h ⊢; exact h
  | d :: ds, _, h => by
    unfold Rps at h ⊢
    obtain ⟨v, r, e, h1, h2⟩ := h
    exact ⟨v, r, e, Rp.mono hp hs h1, Rps.mono hp hs h2⟩
end
end
section
variable {K : PySem.W.Frag} {ρ : List Addr} {F : Hp}
theorem Rps.len : ∀ {ds : List D} {vs : List V}, Rps K ρ F ds vs → ds.length = vs.length
  | [], _, h => by unfold Rps at h; subst h; rfl
  | d :: ds, _, h => by
    unfold Rps at h
    obtain ⟨v, r, rfl, h1, h2⟩ := h
    simp [Rps.len h2]
theorem Rps.get : ∀ {ds : List D} {vs : List V} {i : Nat} {d : D}, Rps K ρ F ds vs → ds[i]? = some d → ∃ v, vs[i]? = some v ∧ Rp K ρ F d v
  | [], _, _, _, _, e => by simp at e
  | d :: ds, _, 0, d', h, e => by
    unfold Rps at h
    obtain ⟨v, r, rfl, h1, h2⟩ := h
    simp at e
    subst e
    exact ⟨v, rfl, h1⟩
  | d :: ds, _, i + 1, d', h, e => by
    unfold Rps at h
    obtain ⟨v, r, rfl, h1, h2⟩ := h
    obtain ⟨v', e', q⟩ := Rps.get (i := i) h2 (by simpa using e)
    exact ⟨v', by simpa using e', q⟩
theorem Rps.get' : ∀ {ds : List D} {vs : List V} {i : Nat} {v : V}, Rps K ρ F ds vs → vs[i]? = some v → ∃ d, ds[i]? = some d ∧ Rp K ρ F d v
  | [], _, _, _, h, e => by unfold Rps at h; subst h; simp at e
  | d :: ds, _, 0, v', h, e => by
    unfold Rps at h
    obtain ⟨v, r, rfl, h1, h2⟩ := h
    simp at e
    subst e
    exact ⟨d, rfl, h1⟩
  | d :: ds, _, i + 1, v', h, e => by
    unfold Rps at h
    obtain ⟨v, r, rfl, h1, h2⟩ := h
    obtain ⟨d', e', q⟩ := Rps.get' (i := i) h2 (by simpa using e)
    exact ⟨d', by simpa using e', q⟩
theorem Rps.nil : Rps K ρ F [] [] := by unfold Rps; rfl
theorem Rps.cons {d : D} {v : V} {ds : List D} {vs : List V} (h1 : Rp K ρ F d v) (h2 : Rps K ρ F ds vs) : Rps K ρ F (d :: ds) (v :: vs) := by
  unfold Rps
  exact ⟨v, vs, rfl, h1, h2⟩
theorem Rps.append : ∀ {ds es : List D} {vs us : List V}, Rps K ρ F ds vs → Rps K ρ F es us → Rps K ρ F (ds ++ es) (vs ++ us)
  | [], _, _, _, h, q => by unfold Rps at h; subst h; exact q
  | d :: ds, _, _, _, h, q => by
    unfold Rps at h
    obtain ⟨v, r, rfl, h1, h2⟩ := h
    exact Rps.cons h1 (Rps.append h2 q)
theorem Rps.snoc {ds : List D} {vs : List V} {d : D} {v : V} (h : Rps K ρ F ds vs) (q : Rp K ρ F d v) : Rps K ρ F (ds ++ [d]) (vs ++ [v]) := h.append (Rps.cons q Rps.nil)
theorem Rps.take : ∀ {ds : List D} {vs : List V} (n : Nat), Rps K ρ F ds vs → Rps K ρ F (ds.take n) (vs.take n)
  | [], _, n, h => by unfold Rps at h; subst h; simpa using Rps.nil
  | d :: ds, _, 0, h => by simpa using Rps.nil
  | d :: ds, _, n + 1, h => by
    unfold Rps at h
    obtain ⟨v, r, rfl, h1, h2⟩ := h
    exact Rps.cons h1 (Rps.take n h2)
theorem Rps.drop : ∀ {ds : List D} {vs : List V} (n : Nat), Rps K ρ F ds vs → Rps K ρ F (ds.drop n) (vs.drop n)
  | [], _, n, h => by unfold Rps at h; subst h; simpa using Rps.nil
  | d :: ds, _, 0, h => h
  | d :: ds, _, n + 1, h => by
    unfold Rps at h
    obtain ⟨v, r, rfl, h1, h2⟩ := h
    exact Rps.drop n h2
theorem Rps.reverse : ∀ {ds : List D} {vs : List V}, Rps K ρ F ds vs → Rps K ρ F ds.reverse vs.reverse
  | [], _, h => by unfold Rps at h; subst h; exact Rps.nil
  | d :: ds, _, h => by
    unfold Rps at h
    obtain ⟨v, r, rfl, h1, h2⟩ := h
    rw [List.reverse_cons, List.reverse_cons]
    exact (Rps.reverse h2).snoc h1
theorem Rps.set : ∀ {ds : List D} {vs : List V} (i : Nat) {d : D} {v : V}, Rps K ρ F ds vs → Rp K ρ F d v → Rps K ρ F (ds.set i d) (vs.set i v)
  | [], _, _, _, _, h, _ => by unfold Rps at h; subst h; exact Rps.nil
  | d :: ds, _, 0, _, _, h, q => by
    unfold Rps at h
    obtain ⟨v, r, rfl, h1, h2⟩ := h
    exact Rps.cons q h2
  | d :: ds, _, i + 1, _, _, h, q => by
    unfold Rps at h
    obtain ⟨v, r, rfl, h1, h2⟩ := h
    exact Rps.cons h1 (Rps.set i h2 q)
theorem Rps.eraseIdx : ∀ {ds : List D} {vs : List V} (i : Nat), Rps K ρ F ds vs → Rps K ρ F (ds.eraseIdx i) (vs.eraseIdx i)
  | [], _, _, h => by unfold Rps at h; subst h; exact Rps.nil
  | d :: ds, _, 0, h => by
    unfold Rps at h
    obtain ⟨v, r, rfl, h1, h2⟩ := h
    exact h2
  | d :: ds, _, i + 1, h => by
    unfold Rps at h
    obtain ⟨v, r, rfl, h1, h2⟩ := h
    exact Rps.cons h1 (Rps.eraseIdx i h2)
theorem Rps.ints : ∀ {ns : List Int} {vs : List V}, Rps K ρ F (ns.map D.int) vs → vs = ns.map V.int
  | [], _, h => by unfold Rps at h; exact h
  | n :: ns, _, h => by
    have h' : Rps K ρ F (D.int n :: ns.map D.int) _ := h
    unfold Rps at h'
    obtain ⟨v, r, rfl, h1, h2⟩ := h'
    unfold Rp at h1
    rw [h1, Rps.ints h2]
    rfl
theorem Rps.of_ints : ∀ (ns : List Int), Rps K ρ F (ns.map D.int) (ns.map V.int)
  | [] => Rps.nil
  | n :: ns => Rps.cons (by unfold Rp; rfl) (Rps.of_ints ns)
theorem Rps.bls : ∀ {ns : List Bool} {vs : List V}, Rps K ρ F (ns.map D.bl) vs → vs = ns.map V.bl
  | [], _, h => by unfold Rps at h; exact h
  | n :: ns, _, h => by
    have h' : Rps K ρ F (D.bl n :: ns.map D.bl) _ := h
    unfold Rps at h'
    obtain ⟨v, r, rfl, h1, h2⟩ := h'
    unfold Rp at h1
    rw [h1, Rps.bls h2]
    rfl
end

/-! ### the state -/
/-- the entry: its heap, its shared objects, its frozen part -/
structure Bs where
  H0 : Hp
  ρ0 : List Addr
  F0 : Hp
def RpF (K : PySem.W.Frag) (ρ : List Addr) (F : Hp) : List (Str × D) → List (Str × V) → Prop
  | [], fs => fs = []
  | (x, d) :: r, fs => ∃ v s, fs = (x, v) :: s ∧ Rp K ρ F d v ∧ RpF K ρ F r s
theorem RpF.mono {K : PySem.W.Frag} {ρ ρ' : List Addr} {F F' : Hp} (hp : ρ <+: ρ') (hs : Same F F') : ∀ {ds : List (Str × D)} {vs : List (Str × V)}, RpF K ρ F ds vs → RpF K ρ' F' ds vs
  | [], _, h => h
  | (x, d) :: r, _, ⟨v, s, e, h1, h2⟩ => ⟨v, s, e, h1.mono hp hs, RpF.mono hp hs h2⟩
def ObAt (K : PySem.W.Frag) (ρ : List Addr) (F H : Hp) (a : Addr) : OB → Prop
  | .lst ds => ∃ vs, H a = some (.lst vs) ∧ Rps K ρ F ds vs
  | .dic ks ds => ∃ vs, H a = some (.dK (ks.zip vs)) ∧ ks.length = vs.length ∧ Rps K ρ F ds vs
  | .ins C fs => ∃ dx gs, H a = some (.ins C dx gs) ∧ RpF K ρ F fs gs
theorem ObAt.some {K : PySem.W.Frag} {ρ : List Addr} {F H : Hp} {a : Addr} {o : OB} (h : ObAt K ρ F H a o) : ∃ u, H a = some u := by
  cases o with
  | lst ds => obtain ⟨vs, e, _⟩ := h; exact ⟨_, e⟩
  | dic ks ds => obtain ⟨vs, e, _⟩ := h; exact ⟨_, e⟩
  | ins C fs => obtain ⟨dx, gs, e, _⟩ := h; exact ⟨_, e⟩
theorem ObAt.mono {K : PySem.W.Frag} {ρ ρ' : List Addr} {F F' H H' : Hp} {a : Addr} {o : OB} (h : ObAt K ρ F H a o) (hp : ρ <+: ρ') (hs : Same F F') (hh : H' a = H a) : ObAt K ρ' F' H' a o := by
  cases o with
  | lst ds => obtain ⟨vs, e, r⟩ := h; exact ⟨vs, by rw [hh]; exact e, r.mono hp hs⟩
  | dic ks ds => obtain ⟨vs, e, l, r⟩ := h; exact ⟨vs, by rw [hh]; exact e, l, r.mono hp hs⟩
  | ins C fs => obtain ⟨dx, gs, e, r⟩ := h; exact ⟨dx, gs, by rw [hh]; exact e, r.mono hp hs⟩
/-- the shared objects and the frozen part, within the heap; what stood at the entry stands, but for the shared objects -/
structure Wd (K : PySem.W.Frag) (B : Bs) (ρ : List Addr) (F : Hp) (ω : List OB) (H : Hp) : Prop where
  sub : Same F H
  old : ∀ x o, B.H0 x = some o → x ∉ B.ρ0 → H x = some o
  pre : ∃ l, ρ = B.ρ0 ++ l ∧ ∀ a ∈ l, B.H0 a = none
  fsub : Same B.F0 F
  fnew : ∀ x o, F x = some o → B.F0 x = some o ∨ B.H0 x = none
  nd : ρ.Nodup
  nof : ∀ a ∈ ρ, F a = none
  len : ρ.length = ω.length
  obs : ∀ (i : Nat) (a : Addr) (o : OB), ρ[i]? = some a → ω[i]? = some o → ObAt K ρ F H a o
def ExAt (K : PySem.W.Frag) (mg : Str → Option Value) (ρ : List Addr) (F H : Hp) (e : Ex) (C : Value) (dd : Option Addr) : Prop :=
  mg e.cls = some C ∧ (∃ c, C = .ref c) ∧ (e.fs = [] ∨ ∃ d gs, dd = some d ∧ F d = some (.xd gs) ∧ RpF K ρ F e.fs gs)
def SlotAt (K : PySem.W.Frag) (B : Bs) (ρ : List Addr) (F H : Hp) (s : Option (Option V)) : SD → Prop
  | .no => True
  | .dat d => ∃ v, s = some (some v) ∧ Rp K ρ F d v
  | .own ds => ∃ p vs, s = some (some (.ref p)) ∧ H p = some (.lst vs) ∧ Rps K ρ F ds vs ∧ F p = none ∧ p ∉ ρ ∧ B.H0 p = none
  | .exn e => ∃ a, s = some (some (.ref a))
structure Rep (K : PySem.W.Frag) (B : Bs) (ρ : List Addr) (F : Hp) (γ : List SD) (ω : List OB) (σ : L2.St) (H : Hp) : Prop where
  wd : Wd K B ρ F ω H
  len : γ.length = σ.length
  slots : ∀ (i : Nat) (sd : SD), γ[i]? = some sd → SlotAt K B ρ F H σ[i]? sd
  apart : ∀ (i j : Nat) (di dj : List D) (p : Addr), γ[i]? = some (.own di) → γ[j]? = some (.own dj) → σ[i]? = some (some (.ref p)) → σ[j]? = some (some (.ref p)) → i = j

/-- more is frozen, more is in the heap; nothing that stood is changed -/
structure Grow (F H F' H' : Hp) : Prop where
  ff : Same F F'
  hh : Same H H'
  sub : Same F' H'
  new : ∀ x o, F' x = some o → F x = some o ∨ H x = none
theorem Grow.refl {F H : Hp} (h : Same F H) : Grow F H F H := ⟨Same.refl _, Same.refl _, h, fun _ _ e => .inl e⟩
theorem Grow.trans {F H F1 H1 F2 H2 : Hp} (a : Grow F H F1 H1) (b : Grow F1 H1 F2 H2) : Grow F H F2 H2 :=
  ⟨a.ff.trans b.ff, a.hh.trans b.hh, b.sub, fun x o e => by
    rcases b.new x o e with h | h
    · exact a.new x o h
    · exact .inr (a.hh.free h)⟩
/-- a new object, frozen at once -/
theorem Grow.put {F H : Hp} {p : Addr} {o : HO} (h : Same F H) (hp : H p = none) : Grow F H (upd F p o) (upd H p o) := by
  have hf : F p = none := h.free hp
  refine ⟨fun x u e => ?_, fun x u e => ?_, fun x u e => ?_, fun x u e => ?_⟩
  · rw [upd_ne (ne_of_none e hf)]; exact e
  · rw [upd_ne (ne_of_none e hp)]; exact e
  · by_cases q : x = p
    · subst q; rw [upd_same] at e ⊢; exact e
    · rw [upd_ne q] at e ⊢; exact h x u e
  · by_cases q : x = p
    · subst q; exact .inr hp
    · rw [upd_ne q] at e; exact .inl e

section
variable {K : PySem.W.Frag} {B : Bs} {ρ : List Addr} {F F' : Hp} {γ : List SD} {ω : List OB} {σ : L2.St} {H H' : Hp}
theorem Wd.at_some (w : Wd K B ρ F ω H) {a : Addr} (h : a ∈ ρ) : ∃ u, H a = some u := by
  obtain ⟨i, hi, e⟩ := List.getElem_of_mem h
  have hi' : i < ω.length := by rw [← w.len]; exact hi
  exact (w.obs i a ω[i] (by rw [List.getElem?_eq_getElem hi, e]) (List.getElem?_eq_getElem hi')).some
theorem Wd.fresh0 (w : Wd K B ρ F ω H) {x : Addr} (h : H x = none) : B.H0 x = none := by
  cases q : B.H0 x with
  | none => rfl
  | some o =>
    by_cases hx : x ∈ B.ρ0
    · obtain ⟨l, e, _⟩ := w.pre
      obtain ⟨u, hu⟩ := w.at_some (a := x) (by rw [e]; exact List.mem_append_left _ hx)
      rw [h] at hu; cases hu
    · rw [w.old x o q hx] at h; cases h
theorem Wd.grow (w : Wd K B ρ F ω H) (g : Grow F H F' H') : Wd K B ρ F' ω H' where
  sub := g.sub
  old := fun x o e n => g.hh _ _ (w.old x o e n)
  pre := w.pre
  fsub := w.fsub.trans g.ff
  fnew := fun x o e => by
    rcases g.new x o e with h | h
    · exact w.fnew x o h
    · exact .inr (w.fresh0 h)
  nd := w.nd
  nof := fun a ha => by
    cases q : F' a with
    | none => rfl
    | some o =>
      rcases g.new a o q with h | h
      · rw [w.nof a ha] at h; cases h
      · obtain ⟨u, hu⟩ := w.at_some ha
        rw [h] at hu; cases hu
  len := w.len
  obs := fun i a o h1 h2 => by
    have q := w.obs i a o h1 h2
    obtain ⟨u, hu⟩ := q.some
    exact q.mono (List.prefix_refl _) g.ff (by rw [g.hh _ _ hu, hu])
theorem Rep.grow (r : Rep K B ρ F γ ω σ H) (g : Grow F H F' H') : Rep K B ρ F' γ ω σ H' := by
  refine ⟨r.wd.grow g, r.len, fun i sd h => ?_, r.apart⟩
  have q := r.slots i sd h
  cases sd with
  | no => trivial
  | dat d => obtain ⟨v, e, p⟩ := q; exact ⟨v, e, p.mono (List.prefix_refl _) g.ff⟩
  | own ds =>
    obtain ⟨p, vs, e, hp, rs, f, np, h0⟩ := q
    refine ⟨p, vs, e, g.hh _ _ hp, rs.mono (List.prefix_refl _) g.ff, ?_, np, h0⟩
    cases q : F' p with
    | none => rfl
    | some o =>
      rcases g.new p o q with h | h
      · rw [f] at h; cases h
      · rw [h] at hp; cases hp
  | exn e => exact q
end
end DL

set_option Elab.async false
set_option linter.all false
set_option maxRecDepth 100000
namespace DL
open PySem PySem.Spec PyProof.Rows L2

/-! ### results -/
inductive Res (α : Type) where
  | ok (a : α) (γ : List SD) (ω : List OB)
  | exc (e : Ex) (γ : List SD) (ω : List OB)
  | bad
/-- an expression's meaning; a test's; an argument list's -/
abbrev M (α : Type) := List SD → List OB → Res α
abbrev EF := M D
def Res.bind {α β : Type} (r : Res α) (k : α → M β) : Res β :=
  match r with
  | .ok a γ ω => k a γ ω
  | .exc e γ ω => .exc e γ ω
  | .bad => .bad
def M.bind {α β : Type} (m : M α) (k : α → M β) : M β := fun γ ω => (m γ ω).bind k
def M.pure {α : Type} (a : α) : M α := fun γ ω => .ok a γ ω
def M.bad {α : Type} : M α := fun _ _ => .bad
def M.of {α : Type} (o : Option α) : M α := match o with | some a => M.pure a | none => M.bad

/-- what is read off a value of data by kind -/
class Den (α : Type) (β : outParam Type) where
  rel : PySem.W.Frag → List Addr → Hp → α → β → Prop
  mono : ∀ {K : PySem.W.Frag} {ρ ρ' : List Addr} {F F' : Hp} {a : α} {b : β}, ρ <+: ρ' → Same F F' → rel K ρ F a b → rel K ρ' F' a b
instance : Den D V := ⟨Rp, fun hp hs h => h.mono hp hs⟩
instance : Den (List D) (List V) := ⟨Rps, fun hp hs h => h.mono hp hs⟩
instance : Den Bool Bool := ⟨fun _ _ _ a b => a = b, fun _ _ h => h⟩
instance : Den (Option Int) (Option Int) := ⟨fun _ _ _ a b => a = b, fun _ _ h => h⟩

section
variable (K : PySem.W.Frag) (mg : Str → Option Value) (W : WX)
/-- the end R that a reading wants, granted by a result -/
def Sat {α β : Type} [Den α β] (B : Bs) (ρ : List Addr) (F : Hp) (σ : L2.St) (Q : β → Hp → Prop) : Res α → Prop
  | .ok d γ ω => ∀ v ρ' F' H', Rep K B ρ' F' γ ω σ H' → ρ <+: ρ' → Same F F' → Den.rel K ρ' F' d v → Q v H'
  | .exc e γ ω => ∀ C dd ρ' F' H', Rep K B ρ' F' γ ω σ H' → ρ <+: ρ' → Same F F' → ExAt K mg ρ' F' H' e C dd → W C dd σ H'
  | .bad => False
/-- a reading by a meaning -/
def dX {α β : Type} [Den α β] (f : M α) : L2.St → Hp → (β → Hp → Prop) → Prop := fun σ H Q => ∃ B ρ F γ ω, Rep K B ρ F γ ω σ H ∧ Sat K mg W B ρ F σ Q (f γ ω)
/-- a frame's flow -/
inductive Fl where
  | nx | rt (d : D) | bk | ct
def SatS (B : Bs) (ρ : List Addr) (F : Hp) (E : Ends) : Res Fl → Prop
  | .ok .nx γ ω => ∀ σ ρ' F' H', Rep K B ρ' F' γ ω σ H' → ρ <+: ρ' → Same F F' → E.nx σ H'
  | .ok (.rt d) γ ω => ∀ v σ ρ' F' H', Rep K B ρ' F' γ ω σ H' → ρ <+: ρ' → Same F F' → Rp K ρ' F' d v → E.rt v H'
  | .ok .bk γ ω => ∀ σ ρ' F' H', Rep K B ρ' F' γ ω σ H' → ρ <+: ρ' → Same F F' → E.bk σ H'
  | .ok .ct γ ω => ∀ σ ρ' F' H', Rep K B ρ' F' γ ω σ H' → ρ <+: ρ' → Same F F' → E.ct σ H'
  | .exc e γ ω => ∀ C dd σ ρ' F' H', Rep K B ρ' F' γ ω σ H' → ρ <+: ρ' → Same F F' → ExAt K mg ρ' F' H' e C dd → W C dd σ H'
  | .bad => False
def dS (g : M Fl) : TS := fun E σ H => ∃ B ρ F γ ω, Rep K B ρ F γ ω σ H ∧ SatS K mg W B ρ F E (g γ ω)
end

section
variable {K : PySem.W.Frag} {mg : Str → Option Value} {W : WX} {B : Bs} {ρ : List Addr} {F : Hp} {γ : List SD} {ω : List OB} {σ : L2.St} {H : Hp}
theorem pre_trans {a b c : List Addr} (h : a <+: b) (k : b <+: c) : a <+: c := List.IsPrefix.trans h k
/-- the wants grow weaker from a later state -/
theorem Sat.later {α β : Type} [Den α β] {ρ' : List Addr} {F' : Hp} {Q : β → Hp → Prop} {r : Res α} (hp : ρ <+: ρ') (hs : Same F F') (h : Sat K mg W B ρ F σ Q r) : Sat K mg W B ρ' F' σ Q r := by
  cases r with
  | ok d γ ω => exact fun v ρ2 F2 H2 r p s q => h v ρ2 F2 H2 r (hp.trans p) (hs.trans s) q
  | exc e γ ω => exact fun C dd ρ2 F2 H2 r p s q => h C dd ρ2 F2 H2 r (hp.trans p) (hs.trans s) q
  | bad => exact h
theorem SatS.later {ρ' : List Addr} {F' : Hp} {E : Ends} {r : Res Fl} (hp : ρ <+: ρ') (hs : Same F F') (h : SatS K mg W B ρ F E r) : SatS K mg W B ρ' F' E r := by
  cases r with
  | ok d γ ω =>
    cases d with
    | nx => exact fun σ ρ2 F2 H2 r p s => h σ ρ2 F2 H2 r (hp.trans p) (hs.trans s)
    | rt d => exact fun v σ ρ2 F2 H2 r p s q => h v σ ρ2 F2 H2 r (hp.trans p) (hs.trans s) q
    | bk => exact fun σ ρ2 F2 H2 r p s => h σ ρ2 F2 H2 r (hp.trans p) (hs.trans s)
    | ct => exact fun σ ρ2 F2 H2 r p s => h σ ρ2 F2 H2 r (hp.trans p) (hs.trans s)
  | exc e γ ω => exact fun C dd σ ρ2 F2 H2 r p s q => h C dd σ ρ2 F2 H2 r (hp.trans p) (hs.trans s) q
  | bad => exact h
/-- THE STEP: a first part, then what is done with it (at its value and a later state) -/
theorem Sat.bind {α β α' β' : Type} [Den α β] [Den α' β'] {Q : β → Hp → Prop} {Q' : β' → Hp → Prop} {m : Res α} {k : α → M α'} (h : Sat K mg W B ρ F σ Q' (m.bind k))
    (go : ∀ d v γ1 ω1 ρ1 F1 H1, Rep K B ρ1 F1 γ1 ω1 σ H1 → ρ <+: ρ1 → Same F F1 → Den.rel K ρ1 F1 d v → Sat K mg W B ρ1 F1 σ Q' (k d γ1 ω1) → Q v H1) : Sat K mg W B ρ F σ Q m := by
  cases m with
  | ok d γ ω => exact fun v ρ1 F1 H1 r p s q => go d v γ ω ρ1 F1 H1 r p s q (h.later p s)
  | exc e γ ω => exact h
  | bad => exact h
/-- the same, ending a statement -/
theorem SatS.bind {α β : Type} [Den α β] {Q : β → Hp → Prop} {E : Ends} {m : Res α} {k : α → M Fl} (h : SatS K mg W B ρ F E (m.bind k))
    (go : ∀ d v γ1 ω1 ρ1 F1 H1, Rep K B ρ1 F1 γ1 ω1 σ H1 → ρ <+: ρ1 → Same F F1 → Den.rel K ρ1 F1 d v → SatS K mg W B ρ1 F1 E (k d γ1 ω1) → Q v H1) : Sat K mg W B ρ F σ Q m := by
  cases m with
  | ok d γ ω => exact fun v ρ1 F1 H1 r p s q => go d v γ ω ρ1 F1 H1 r p s q (h.later p s)
  | exc e γ ω => exact fun C dd ρ1 F1 H1 r p s q => h C dd σ ρ1 F1 H1 r p s q
  | bad => exact h
/-- a step that only grows the heap -/
theorem Sat.grown {α β : Type} [Den α β] {Q : β → Hp → Prop} {d : α} {v : β} {F' H' : Hp} (h : Sat K mg W B ρ F σ Q (.ok d γ ω)) (r : Rep K B ρ F γ ω σ H) (g : Grow F H F' H') (q : Den.rel K ρ F' d v) : Q v H' :=
  h v ρ F' H' (r.grow g) (List.prefix_refl _) g.ff q
theorem Sat.here {α β : Type} [Den α β] {Q : β → Hp → Prop} {d : α} {v : β} (h : Sat K mg W B ρ F σ Q (.ok d γ ω)) (r : Rep K B ρ F γ ω σ H) (q : Den.rel K ρ F d v) : Q v H :=
  h v ρ F H r (List.prefix_refl _) (Same.refl _) q
end

/-! ### expressions -/
/-- the judgement: e means f, in the context X, exceptions wished for by W -/
abbrev DE (X : Cx) (W : WX) (e : Expr) (f : EF) : Prop := PE X e (dX X.K X.mg W f)
abbrev DT (X : Cx) (W : WX) (e : Expr) (f : M Bool) : Prop := PT X e (dX X.K X.mg W f)
abbrev DA (X : Cx) (W : WX) (es : List Expr) (f : M (List D)) : Prop := PA X es (dX X.K X.mg W f)
abbrev DO (X : Cx) (W : WX) (e : Option Expr) (f : M (Option Int)) : Prop := PO X e (dX X.K X.mg W f)
theorem _root_.L2.PE.imp {X : Cx} {e : Expr} {t t' : TE} (h : PE X e t) (k : ∀ σ H Q, t' σ H Q → t σ H Q) : PE X e t' := ⟨fun pins s σ H Q I q => h.run pins s σ H Q I (k σ H Q q)⟩
theorem _root_.L2.PT.imp {X : Cx} {e : Expr} {t t' : TT} (h : PT X e t) (k : ∀ σ H Q, t' σ H Q → t σ H Q) : PT X e t' := ⟨fun pins s σ H Q I q => h.run pins s σ H Q I (k σ H Q q)⟩
theorem _root_.L2.PW.imp {X : Cx} {e : Expr} {t t' : TT} (h : PW X e t) (k : ∀ σ H Q, t' σ H Q → t σ H Q) : PW X e t' := ⟨fun w pins s σ H Q I q => h.run w pins s σ H Q I (k σ H Q q)⟩
theorem _root_.L2.PA.imp {X : Cx} {es : List Expr} {t t' : TA} (h : PA X es t) (k : ∀ σ H Q, t' σ H Q → t σ H Q) : PA X es t' := ⟨fun pos pins s σ H Q I q => h.run pos pins s σ H Q I (k σ H Q q)⟩
theorem _root_.L2.PO.imp {X : Cx} {e : Option Expr} {t t' : TO} (h : PO X e t) (k : ∀ σ H Q, t' σ H Q → t σ H Q) : PO X e t' := ⟨fun pins s σ H Q I q => h.run pins s σ H Q I (k σ H Q q)⟩
theorem _root_.L2.PS.imp {X : Cx} {e : Stmt} {t t' : TS} (h : PS X e t) (k : ∀ D σ H, t' D σ H → t D σ H) : PS X e t' := ⟨fun pins s σ H D I q => h.run pins s σ H D I (k D σ H q)⟩
theorem _root_.L2.PSs.imp {X : Cx} {e : List Stmt} {t t' : TS} (h : PSs X e t) (k : ∀ D σ H, t' D σ H → t D σ H) : PSs X e t' := ⟨fun pins s σ H D I q => h.run pins s σ H D I (k D σ H q)⟩

/-- a slot's data -/
def eVar (i : Nat) : EF := fun γ ω => match γ[i]? with
  | some (.dat d) => .ok d γ ω
  | _ => .bad
/-- a slot's own list, let go: from now on it is data -/
def eFrz (i : Nat) : EF := fun γ ω => match γ[i]? with
  | some (.own ds) => .ok (.lst ds) (γ.set i (.dat (.lst ds))) ω
  | _ => .bad
section
variable {X : Cx} {W : WX}
theorem de_var {i : Nat} {x : Str} {pos : Pos} (h : PE X (.Name x pos) (tVar i)) : DE X W (.Name x pos) (eVar i) := by
  refine h.imp fun σ H Q ⟨B, ρ, F, γ, ω, r, q⟩ => ?_
  unfold eVar at q
  split at q
  · rename_i d e
    obtain ⟨v, e1, e2⟩ := r.slots i _ e
    exact ⟨v, e1, q.here r e2⟩
  · exact q.elim
theorem Rep.freeze {K : PySem.W.Frag} {B : Bs} {ρ : List Addr} {F : Hp} {γ : List SD} {ω : List OB} {σ : L2.St} {H : Hp} {i : Nat} {ds : List D} (r : Rep K B ρ F γ ω σ H) (h : γ[i]? = some (.own ds)) :
    ∃ p vs F', σ[i]? = some (some (.ref p)) ∧ Same F F' ∧ F' p = some (.lst vs) ∧ Rps K ρ F' ds vs ∧ Rep K B ρ F' (γ.set i (.dat (.lst ds))) ω σ H := by
  obtain ⟨p, vs, e, hp, rs, f, np, h0⟩ := r.slots i _ h
  have ff : Same F (upd F p (.lst vs)) := fun x o q => by rw [upd_ne (ne_of_none q f)]; exact q
  have rs' : Rps K ρ (upd F p (.lst vs)) ds vs := rs.mono (List.prefix_refl _) ff
  have hi : i < γ.length := (List.getElem?_eq_some_iff.mp h).1
  refine ⟨p, vs, _, e, ff, upd_same, rs', ⟨?_, by simpa using r.len, fun j sd hj => ?_, fun j k dj dk q h1 h2 h3 h4 => ?_⟩⟩
  · exact { sub := fun x o q => by
              by_cases hx : x = p
              · subst hx; rw [upd_same] at q; cases q; exact hp
              · rw [upd_ne hx] at q; exact r.wd.sub x o q
            old := r.wd.old
            pre := r.wd.pre
            fsub := r.wd.fsub.trans ff
            fnew := fun x o q => by
              by_cases hx : x = p
              · subst hx; exact .inr h0
              · rw [upd_ne hx] at q; exact r.wd.fnew x o q
            nd := r.wd.nd
            nof := fun a ha => by
              have ne : a ≠ p := fun z => by subst z; exact np ha
              rw [upd_ne ne]; exact r.wd.nof a ha
            len := r.wd.len
            obs := fun j a o h1 h2 => (r.wd.obs j a o h1 h2).mono (List.prefix_refl _) ff rfl }
  · by_cases hj' : j = i
    · subst hj'
      rw [List.getElem?_set_self hi] at hj
      cases hj
      refine ⟨.ref p, e, ?_⟩
      unfold Rp
      exact ⟨p, vs, rfl, upd_same, rs'⟩
    · rw [List.getElem?_set_ne (Ne.symm hj')] at hj
      have q := r.slots j sd hj
      cases sd with
      | no => trivial
      | dat d => obtain ⟨v, e1, e2⟩ := q; exact ⟨v, e1, e2.mono (List.prefix_refl _) ff⟩
      | own es =>
        obtain ⟨p', vs', e', hp', rs2, f', np', h0'⟩ := q
        have ne : p' ≠ p := fun z => hj' (r.apart j i es ds p (by rw [hj]) h (by rw [e', z]) e)
        exact ⟨p', vs', e', hp', rs2.mono (List.prefix_refl _) ff, by rw [upd_ne ne]; exact f', np', h0'⟩
      | exn e => exact q
  · have n1 : j ≠ i := fun z => by subst z; rw [List.getElem?_set_self hi] at h1; cases h1
    have n2 : k ≠ i := fun z => by subst z; rw [List.getElem?_set_self hi] at h2; cases h2
    rw [List.getElem?_set_ne (Ne.symm n1)] at h1
    rw [List.getElem?_set_ne (Ne.symm n2)] at h2
    exact r.apart j k dj dk q h1 h2 h3 h4
theorem de_frz {i : Nat} {x : Str} {pos : Pos} (h : PE X (.Name x pos) (tVar i)) : DE X W (.Name x pos) (eFrz i) := by
  refine h.imp fun σ H Q ⟨B, ρ, F, γ, ω, r, q⟩ => ?_
  unfold eFrz at q
  split at q
  · rename_i ds e
    obtain ⟨p, vs, F', e1, ff, e2, e3, r'⟩ := r.freeze e
    exact ⟨.ref p, e1, q _ ρ F' H r' (List.prefix_refl _) ff (by show Rp _ _ _ _ _; unfold Rp; exact ⟨p, vs, rfl, e2, e3⟩)⟩
  · exact q.elim
/-- constants -/
def eC (d : D) : EF := M.pure d
theorem de_c {e : Expr} {v : V} {d : D} (h : PE X e (tC v)) (hr : ∀ K ρ F, Rp K ρ F d v) : DE X W e (eC d) :=
  h.imp fun σ H Q ⟨B, ρ, F, γ, ω, r, q⟩ => q.here r (hr _ _ _)
theorem de_int {i j pos} : DE X W (.Constant (.int i) j pos) (eC (.int i)) := de_c pe_int fun _ _ _ => by unfold Rp; rfl
theorem de_bl {b j pos} : DE X W (.Constant (.bool b) j pos) (eC (.bl b)) := de_c pe_bl fun _ _ _ => by unfold Rp; rfl
theorem de_non {j pos} : DE X W (.Constant .none j pos) (eC .non) := de_c pe_non fun _ _ _ => by unfold Rp; rfl
theorem de_str {x j pos} : DE X W (.Constant (.str x) j pos) (eC (.str x)) := de_c pe_str fun _ _ _ => by unfold Rp; rfl

/-- two parts and an operation on their values -/
abbrev O1 := List OB → D → Option D
abbrev O2 := List OB → D → D → Option D
abbrev OC := List OB → List D → Option D
abbrev OS := List OB → D → Option Int → Option Int → Option D
def e2 (op : O2) (fa fb : EF) : EF := fa.bind fun x => fb.bind fun y γ ω => M.of (op ω x y) γ ω
/-- op is right for the operation r on values -/
def Op2 (K : PySem.W.Frag) (r : R2) (op : O2) : Prop := ∀ (B : Bs) (ρ : List Addr) (F H : Hp) (ω : List OB) (a b c : D) (x y : V) (Q : VK), Wd K B ρ F ω H → Rp K ρ F a x → Rp K ρ F b y → op ω a b = some c →
  (∀ v F' H', Grow F H F' H' → Rp K ρ F' c v → Q v H') → r x y H Q
theorem d2_use {K : PySem.W.Frag} {mg : Str → Option Value} {fa fb : EF} {op : O2} {r : R2} (ho : Op2 K r op) {σ : L2.St} {H : Hp} {Q : VK} (h : dX K mg W (e2 op fa fb) σ H Q) :
    dX K mg W fa σ H fun x H1 => dX K mg W fb σ H1 fun y H2 => r x y H2 Q := by
  obtain ⟨B, ρ, F, γ, ω, rp, q⟩ := h
  refine ⟨B, ρ, F, γ, ω, rp, Sat.bind q fun dx x γ1 ω1 ρ1 F1 H1 r1 p1 s1 q1 q => ?_⟩
  refine ⟨B, ρ1, F1, γ1, ω1, r1, Sat.bind q fun dy y γ2 ω2 ρ2 F2 H2 r2 p2 s2 q2 q => ?_⟩
  cases e : op ω2 dx dy with
  | none => rw [e] at q; exact q.elim
  | some c =>
    rw [e] at q
    exact ho B ρ2 F2 H2 ω2 dx dy c x y Q r2.wd (Rp.mono p2 s2 q1) q2 e fun v F' H' g rv => q.grown r2 g rv
theorem de_op {a b : Expr} {pos : Pos} {op : Operator} {fa fb : EF} {r : R2} {o : O2} (hr : OpR X (binaryOp op) r) (ho : Op2 X.K r o) (ha : DE X W a fa) (hb : DE X W b fb) : DE X W (.BinOp a op b pos) (e2 o fa fb) :=
  (pe_op hr ha hb).imp fun _ _ _ h => d2_use ho h
theorem de_cmp {a b : Expr} {pos : Pos} {op : CmpOp} {fa fb : EF} {r : R2} {o : O2} (hr : OpR X (compareOp op) r) (ho : Op2 X.K r o) (ha : DE X W a fa) (hb : DE X W b fb) (hm : behindInMarks op b = false) : DE X W (.Compare a [op] [b] pos) (e2 o fa fb) :=
  (pe_cmpR hr ha hb hm).imp fun _ _ _ h => d2_use ho h
/-- a value as a test: a bool -/
def asB (d : D) : Option Bool := match d with | .bl b => some b | _ => none
def tB (f : EF) : M Bool := f.bind fun d => M.of (asB d)
theorem tB_use {K : PySem.W.Frag} {mg : Str → Option Value} {f : EF} {σ : L2.St} {H : Hp} {Q : Bool → Hp → Prop} (h : dX K mg W (tB f) σ H Q) : dX K mg W f σ H fun x H' => ∃ c, x = .bl c ∧ Q c H' := by
  obtain ⟨B, ρ, F, γ, ω, rp, q⟩ := h
  refine ⟨B, ρ, F, γ, ω, rp, Sat.bind q fun d v γ1 ω1 ρ1 F1 H1 r1 p1 s1 q1 q => ?_⟩
  cases d with
  | bl b =>
    have q1' : Rp K ρ1 F1 (.bl b) v := q1
    unfold Rp at q1'
    exact ⟨b, q1', q.here r1 rfl⟩
  | _ => exact q.elim
theorem dt_val {e : Expr} {f : EF} (h : DE X W e f) (he : ∀ whole, isTrue e X.env whole = (do let v ← whole; standAt e.pos; holding [v] (truthy v)) := by intro _; rfl) : DT X W e (tB f) :=
  (pt_val h he).imp fun _ _ _ q => tB_use q
theorem dt_cmp {a b : Expr} {pos : Pos} {op : CmpOp} {fa fb : EF} {r : R2} {o : O2} (hr : OpR X (compareOp op) r) (ho : Op2 X.K r o) (ha : DE X W a fa) (hb : DE X W b fb) (hm : behindInMarks op b = false) : DT X W (.Compare a [op] [b] pos) (tB (e2 o fa fb)) :=
  (pt_cmpR hr ha hb hm).imp fun σ H Q h => by
    have h' := tB_use h
    exact d2_use ho h'
/-- chains -/
def eCh (o o' : O2) (fa fb fc : EF) : EF := fa.bind fun x => fb.bind fun y γ ω => ((M.of ((o ω x y).bind asB)) γ ω).bind fun k => if k = true then fc.bind fun z γ ω => M.of (o' ω y z) γ ω else M.pure (.bl false)
def Op2B (K : PySem.W.Frag) (r : R2) (op : O2) : Prop := ∀ (B : Bs) (ρ : List Addr) (F H : Hp) (ω : List OB) (a b : D) (k : Bool) (x y : V) (Q : VK), Wd K B ρ F ω H → Rp K ρ F a x → Rp K ρ F b y → (op ω a b).bind asB = some k → Q (.bl k) H → r x y H Q
theorem ch_use {K : PySem.W.Frag} {mg : Str → Option Value} {fa fb fc : EF} {o o' : O2} {r r' : R2} (ho : Op2B K r o) (ho' : Op2 K r' o') {σ : L2.St} {H : Hp} {Q : VK} (h : dX K mg W (eCh o o' fa fb fc) σ H Q) :
    tChain r r' (dX K mg W fa) (dX K mg W fb) (dX K mg W fc) σ H Q := by
  obtain ⟨B, ρ, F, γ, ω, rp, q⟩ := h
  refine ⟨B, ρ, F, γ, ω, rp, Sat.bind q fun dx x γ1 ω1 ρ1 F1 H1 r1 p1 s1 q1 q => ?_⟩
  refine ⟨B, ρ1, F1, γ1, ω1, r1, Sat.bind q fun dy y γ2 ω2 ρ2 F2 H2 r2 p2 s2 q2 q => ?_⟩
  cases e : (o ω2 dx dy).bind asB with
  | none => rw [e] at q; exact q.elim
  | some k =>
    rw [e] at q
    refine ho B ρ2 F2 H2 ω2 dx dy k x y _ r2.wd (Rp.mono p2 s2 q1) q2 e ⟨k, rfl, ?_⟩
    cases k with
    | false => exact iteF (q.here r2 (show Rp _ _ _ _ _ by unfold Rp; rfl))
    | true =>
      refine iteT ⟨B, ρ2, F2, γ2, ω2, r2, Sat.bind q fun dz z γ3 ω3 ρ3 F3 H3 r3 p3 s3 q3 q => ?_⟩
      cases e' : o' ω3 dy dz with
      | none => rw [e'] at q; exact q.elim
      | some c =>
        rw [e'] at q
        exact ho' B ρ3 F3 H3 ω3 dy dz c y z Q r3.wd (Rp.mono p3 s3 q2) q3 e' fun v F' H' g rv => q.grown r3 g rv
theorem de_chain {a b c : Expr} {pos : Pos} {op op' : CmpOp} {fa fb fc : EF} {r r' : R2} {o o' : O2} (hr : OpR X (compareOp op) r) (hr' : OpR X (compareOp op') r') (ho : Op2B X.K r o) (ho' : Op2 X.K r' o')
    (ha : DE X W a fa) (hb : DE X W b fb) (hc : DE X W c fc) (hm : lastMarks [op, op'] [b, c] = false := by with_unfolding_all rfl) : DE X W (.Compare a [op, op'] [b, c] pos) (eCh o o' fa fb fc) :=
  (pe_chain hr hr' ha hb hc hm).imp fun _ _ _ h => ch_use ho ho' h
theorem dt_chain {a b c : Expr} {pos : Pos} {op op' : CmpOp} {fa fb fc : EF} {r r' : R2} {o o' : O2} (hr : OpR X (compareOp op) r) (hr' : OpR X (compareOp op') r') (ho : Op2B X.K r o) (ho' : Op2 X.K r' o')
    (ha : DE X W a fa) (hb : DE X W b fb) (hc : DE X W c fc) (hm : lastMarks [op, op'] [b, c] = false := by with_unfolding_all rfl) : DT X W (.Compare a [op, op'] [b, c] pos) (tB (eCh o o' fa fb fc)) :=
  (pt_chain hr hr' ha hb hc hm).imp fun _ _ _ h => ch_use ho ho' (tB_use h)
/-- one part and an operation -/
def e1 (op : O1) (fa : EF) : EF := fa.bind fun x γ ω => M.of (op ω x) γ ω
def Op1 (K : PySem.W.Frag) (r : V → Hp → VK → Prop) (op : O1) : Prop := ∀ (B : Bs) (ρ : List Addr) (F H : Hp) (ω : List OB) (a c : D) (x : V) (Q : VK), Wd K B ρ F ω H → Rp K ρ F a x → op ω a = some c →
  (∀ v F' H', Grow F H F' H' → Rp K ρ F' c v → Q v H') → r x H Q
theorem d1_use {K : PySem.W.Frag} {mg : Str → Option Value} {fa : EF} {op : O1} {r : V → Hp → VK → Prop} (ho : Op1 K r op) {σ : L2.St} {H : Hp} {Q : VK} (h : dX K mg W (e1 op fa) σ H Q) :
    dX K mg W fa σ H fun x H1 => r x H1 Q := by
  obtain ⟨B, ρ, F, γ, ω, rp, q⟩ := h
  refine ⟨B, ρ, F, γ, ω, rp, Sat.bind q fun dx x γ1 ω1 ρ1 F1 H1 r1 p1 s1 q1 q => ?_⟩
  cases e : op ω1 dx with
  | none => rw [e] at q; exact q.elim
  | some c =>
    rw [e] at q
    exact ho B ρ1 F1 H1 ω1 dx c x Q r1.wd q1 e fun v F' H' g rv => q.grown r1 g rv
theorem de_un {a : Expr} {pos : Pos} {op : UnaryOp} {fa : EF} {r : V → Hp → VK → Prop} {o : O1} (hr : UnR X (unaryOp op) r) (ho : Op1 X.K r o) (ha : DE X W a fa) : DE X W (.UnaryOp op a pos) (e1 o fa) :=
  (pe_un hr ha).imp fun _ _ _ h => d1_use ho h

/-! and, or, not, if -/
def tAndM (f g : M Bool) : M Bool := f.bind fun c => if c = true then g else M.pure false
def tOrM (f g : M Bool) : M Bool := f.bind fun c => if c = true then M.pure true else g
def tNotM (f : M Bool) : M Bool := f.bind fun c => M.pure (!c)
theorem dw_and1 {a : Expr} {pos : Pos} {f : M Bool} (h : DT X W a f) : PW X (.BoolOp .And [a] pos) (dX X.K X.mg W f) := pw_and1 h
theorem dw_or1 {a : Expr} {pos : Pos} {f : M Bool} (h : DT X W a f) : PW X (.BoolOp .Or [a] pos) (dX X.K X.mg W f) := pw_or1 h
theorem dw_and {a b : Expr} {rest : List Expr} {pos : Pos} {f g : M Bool} (ha : DT X W a f) (hb : PW X (.BoolOp .And (b :: rest) pos) (dX X.K X.mg W g)) : PW X (.BoolOp .And (a :: b :: rest) pos) (dX X.K X.mg W (tAndM f g)) :=
  PW.imp (pw_and ha hb) fun σ H Q ⟨B, ρ, F, γ, ω, rp, q⟩ => ⟨B, ρ, F, γ, ω, rp, Sat.bind q fun c k γ1 ω1 ρ1 F1 H1 r1 p1 s1 e q => by
    have e' : c = k := e
    subst e'
    cases c with
    | true => exact iteT ⟨B, ρ1, F1, γ1, ω1, r1, q⟩
    | false => exact iteF (q.here r1 rfl)⟩
theorem dw_or {a b : Expr} {rest : List Expr} {pos : Pos} {f g : M Bool} (ha : DT X W a f) (hb : PW X (.BoolOp .Or (b :: rest) pos) (dX X.K X.mg W g)) : PW X (.BoolOp .Or (a :: b :: rest) pos) (dX X.K X.mg W (tOrM f g)) :=
  PW.imp (pw_or ha hb) fun σ H Q ⟨B, ρ, F, γ, ω, rp, q⟩ => ⟨B, ρ, F, γ, ω, rp, Sat.bind q fun c k γ1 ω1 ρ1 F1 H1 r1 p1 s1 e q => by
    have e' : c = k := e
    subst e'
    cases c with
    | true => exact iteT (q.here r1 rfl)
    | false => exact iteF ⟨B, ρ1, F1, γ1, ω1, r1, q⟩⟩
theorem dt_w {e : Expr} {f : M Bool} (h : PW X e (dX X.K X.mg W f)) : DT X W e f := h.pt
theorem dt_not {a : Expr} {pos : Pos} {f : M Bool} (ha : DT X W a f) : DT X W (.UnaryOp .Not a pos) (tNotM f) :=
  (pt_not ha).imp fun σ H Q ⟨B, ρ, F, γ, ω, rp, q⟩ => ⟨B, ρ, F, γ, ω, rp, Sat.bind q fun c k γ1 ω1 ρ1 F1 H1 r1 p1 s1 e q => by
    have e' : c = k := e
    subst e'
    exact q.here r1 rfl⟩
/-- values by and, or: bools -/
def eAnd (f g : EF) : EF := f.bind fun d => (M.of (asB d)).bind fun c => if c = true then g else M.pure (.bl false)
def eOr (f g : EF) : EF := f.bind fun d => (M.of (asB d)).bind fun c => if c = true then M.pure (.bl true) else g
def eNot (f : EF) : EF := f.bind fun d => (M.of (asB d)).bind fun c => M.pure (.bl (!c))
theorem rp_bl {K : PySem.W.Frag} {ρ : List Addr} {F : Hp} {b : Bool} : Rp K ρ F (.bl b) (.bl b) := by unfold Rp; rfl
theorem rp_int {K : PySem.W.Frag} {ρ : List Addr} {F : Hp} {i : Int} : Rp K ρ F (.int i) (.int i) := by unfold Rp; rfl
theorem rp_str {K : PySem.W.Frag} {ρ : List Addr} {F : Hp} {i : Str} : Rp K ρ F (.str i) (.str i) := by unfold Rp; rfl
theorem rp_non {K : PySem.W.Frag} {ρ : List Addr} {F : Hp} : Rp K ρ F .non .non := by unfold Rp; rfl
theorem rp_bl_inv {K : PySem.W.Frag} {ρ : List Addr} {F : Hp} {b : Bool} {v : V} (h : Rp K ρ F (.bl b) v) : v = .bl b := by unfold Rp at h; exact h
theorem rp_int_inv {K : PySem.W.Frag} {ρ : List Addr} {F : Hp} {b : Int} {v : V} (h : Rp K ρ F (.int b) v) : v = .int b := by unfold Rp at h; exact h
theorem rp_str_inv {K : PySem.W.Frag} {ρ : List Addr} {F : Hp} {b : Str} {v : V} (h : Rp K ρ F (.str b) v) : v = .str b := by unfold Rp at h; exact h
theorem rp_non_inv {K : PySem.W.Frag} {ρ : List Addr} {F : Hp} {v : V} (h : Rp K ρ F .non v) : v = .non := by unfold Rp at h; exact h
theorem rp_tup_inv {K : PySem.W.Frag} {ρ : List Addr} {F : Hp} {ds : List D} {v : V} (h : Rp K ρ F (.tup ds) v) : ∃ a vs, v = .ref a ∧ SqT K F a vs ∧ Rps K ρ F ds vs := by unfold Rp at h; exact h
theorem rp_lst_inv {K : PySem.W.Frag} {ρ : List Addr} {F : Hp} {ds : List D} {v : V} (h : Rp K ρ F (.lst ds) v) : ∃ a vs, v = .ref a ∧ F a = some (.lst vs) ∧ Rps K ρ F ds vs := by unfold Rp at h; exact h
theorem rp_obj_inv {K : PySem.W.Frag} {ρ : List Addr} {F : Hp} {i : Nat} {v : V} (h : Rp K ρ F (.obj i) v) : ∃ a, v = .ref a ∧ ρ[i]? = some a := by unfold Rp at h; exact h
theorem rp_dic_inv {K : PySem.W.Frag} {ρ : List Addr} {F : Hp} {ks : List Key} {ds : List D} {v : V} (h : Rp K ρ F (.dic ks ds) v) : ∃ a vs, v = .ref a ∧ F a = some (.dK (ks.zip vs)) ∧ ks.length = vs.length ∧ Rps K ρ F ds vs := by unfold Rp at h; exact h
theorem rp_fn_inv {K : PySem.W.Frag} {ρ : List Addr} {F : Hp} {a : Addr} {v : V} (h : Rp K ρ F (.fn a) v) : v = .ref a := by unfold Rp at h; exact h
theorem rp_ty_inv {K : PySem.W.Frag} {ρ : List Addr} {F : Hp} {n : String} {v : V} (h : Rp K ρ F (.ty n) v) : v = .ty n := by unfold Rp at h; exact h
theorem rp_scr_inv {K : PySem.W.Frag} {ρ : List Addr} {F : Hp} {ds : List D} {v : V} (h : Rp K ρ F (.scr ds) v) : ∃ a vs, v = .ref a ∧ SqL K F a vs ∧ Rps K ρ F ds vs := by unfold Rp at h; exact h
theorem rp_ty {K : PySem.W.Frag} {ρ : List Addr} {F : Hp} {n : String} : Rp K ρ F (.ty n) (.ty n) := by unfold Rp; rfl
theorem rp_scr {K : PySem.W.Frag} {ρ : List Addr} {F : Hp} {ds : List D} {a : Addr} {vs : List V} (h : SqL K F a vs) (r : Rps K ρ F ds vs) : Rp K ρ F (.scr ds) (.ref a) := by unfold Rp; exact ⟨a, vs, rfl, h, r⟩
theorem rp_tup {K : PySem.W.Frag} {ρ : List Addr} {F : Hp} {ds : List D} {a : Addr} {vs : List V} (h : SqT K F a vs) (r : Rps K ρ F ds vs) : Rp K ρ F (.tup ds) (.ref a) := by unfold Rp; exact ⟨a, vs, rfl, h, r⟩
theorem rp_lst {K : PySem.W.Frag} {ρ : List Addr} {F : Hp} {ds : List D} {a : Addr} {vs : List V} (h : F a = some (.lst vs)) (r : Rps K ρ F ds vs) : Rp K ρ F (.lst ds) (.ref a) := by unfold Rp; exact ⟨a, vs, rfl, h, r⟩
theorem rp_dic {K : PySem.W.Frag} {ρ : List Addr} {F : Hp} {ks : List Key} {ds : List D} {a : Addr} {vs : List V} (h : F a = some (.dK (ks.zip vs))) (l : ks.length = vs.length) (r : Rps K ρ F ds vs) : Rp K ρ F (.dic ks ds) (.ref a) := by unfold Rp; exact ⟨a, vs, rfl, h, l, r⟩
theorem rp_obj {K : PySem.W.Frag} {ρ : List Addr} {F : Hp} {i : Nat} {a : Addr} (h : ρ[i]? = some a) : Rp K ρ F (.obj i) (.ref a) := by unfold Rp; exact ⟨a, rfl, h⟩
theorem rp_fn {K : PySem.W.Frag} {ρ : List Addr} {F : Hp} {a : Addr} : Rp K ρ F (.fn a) (.ref a) := by unfold Rp; rfl
theorem de_and {a b : Expr} {rest : List Expr} {pos : Pos} {f g : EF} (ha : DE X W a f) (hb : DE X W (.BoolOp .And (b :: rest) pos) g) : DE X W (.BoolOp .And (a :: b :: rest) pos) (eAnd f g) :=
  (pe_and ha hb).imp fun σ H Q ⟨B, ρ, F, γ, ω, rp, q⟩ => ⟨B, ρ, F, γ, ω, rp, Sat.bind q fun d v γ1 ω1 ρ1 F1 H1 r1 p1 s1 e q => by
    cases d with
    | bl c =>
      refine ⟨c, rp_bl_inv e, ?_⟩
      cases c with
      | true => exact iteT ⟨B, ρ1, F1, γ1, ω1, r1, q⟩
      | false => exact iteF (q.here r1 rp_bl)
    | _ => exact q.elim⟩
theorem de_or {a b : Expr} {rest : List Expr} {pos : Pos} {f g : EF} (ha : DE X W a f) (hb : DE X W (.BoolOp .Or (b :: rest) pos) g) : DE X W (.BoolOp .Or (a :: b :: rest) pos) (eOr f g) :=
  (pe_or ha hb).imp fun σ H Q ⟨B, ρ, F, γ, ω, rp, q⟩ => ⟨B, ρ, F, γ, ω, rp, Sat.bind q fun d v γ1 ω1 ρ1 F1 H1 r1 p1 s1 e q => by
    cases d with
    | bl c =>
      refine ⟨c, rp_bl_inv e, ?_⟩
      cases c with
      | true => exact iteT (q.here r1 rp_bl)
      | false => exact iteF ⟨B, ρ1, F1, γ1, ω1, r1, q⟩
    | _ => exact q.elim⟩
theorem de_one {a : Expr} {op : BoolOp} {pos : Pos} {f : EF} (ha : DE X W a f) : DE X W (.BoolOp op [a] pos) f := pe_one ha
theorem de_not {a : Expr} {pos : Pos} {f : EF} (ha : DE X W a f) : DE X W (.UnaryOp .Not a pos) (eNot f) :=
  (pe_not ha).imp fun σ H Q ⟨B, ρ, F, γ, ω, rp, q⟩ => ⟨B, ρ, F, γ, ω, rp, Sat.bind q fun d v γ1 ω1 ρ1 F1 H1 r1 p1 s1 e q => by
    cases d with
    | bl c => exact ⟨c, rp_bl_inv e, q.here r1 rp_bl⟩
    | _ => exact q.elim⟩
def eIf (c : M Bool) (f g : EF) : EF := c.bind fun k => if k = true then f else g
theorem de_if {c a b : Expr} {pos : Pos} {t : M Bool} {f g : EF} (hc : DT X W c t) (ha : DE X W a f) (hb : DE X W b g) : DE X W (.IfExp c a b pos) (eIf t f g) :=
  (pe_ifExp hc ha hb).imp fun σ H Q ⟨B, ρ, F, γ, ω, rp, q⟩ => ⟨B, ρ, F, γ, ω, rp, Sat.bind q fun c k γ1 ω1 ρ1 F1 H1 r1 p1 s1 e q => by
    have e' : c = k := e
    subst e'
    cases c with
    | true => exact iteT ⟨B, ρ1, F1, γ1, ω1, r1, q⟩
    | false => exact iteF ⟨B, ρ1, F1, γ1, ω1, r1, q⟩⟩

/-! argument lists, displays -/
def aNil : M (List D) := M.pure []
def aCons (f : EF) (g : M (List D)) : M (List D) := f.bind fun x => g.bind fun xs => M.pure (x :: xs)
theorem da_nil : DA X W [] aNil := pa_nil.imp fun σ H Q ⟨B, ρ, F, γ, ω, rp, q⟩ => q.here rp Rps.nil
theorem da_cons {e : Expr} {es : List Expr} {f : EF} {g : M (List D)} (h1 : DE X W e f) (h2 : DA X W es g) (hs : starEach (e :: es) X.env = (false, eval e X.env) :: starEach es X.env := by rfl) : DA X W (e :: es) (aCons f g) :=
  (pa_cons h1 h2 hs).imp fun σ H Q ⟨B, ρ, F, γ, ω, rp, q⟩ => ⟨B, ρ, F, γ, ω, rp, Sat.bind q fun d v γ1 ω1 ρ1 F1 H1 r1 p1 s1 q1 q =>
    ⟨B, ρ1, F1, γ1, ω1, r1, Sat.bind q fun ds vs γ2 ω2 ρ2 F2 H2 r2 p2 s2 q2 q => q.here r2 (Rps.cons (Rp.mono p2 s2 q1) q2)⟩⟩
/-- a tuple's, a list's size -/
def sized (ds : List D) : Bool := decide (ds.length ≤ 1000000)
theorem sized_line {K : PySem.W.Frag} {ρ : List Addr} {F : Hp} {ds : List D} {vs : List V} (h : sized ds = true) (r : Rps K ρ F ds vs) : vs.length ≤ sizeLine := by
  have e := of_decide_eq_true h
  rw [← r.len, sizeLine_eq]
  omega
def eTup (f : M (List D)) : EF := f.bind fun ds => if sized ds = true then M.pure (.tup ds) else M.bad
def eLst (f : M (List D)) : EF := f.bind fun ds => if sized ds = true then M.pure (.lst ds) else M.bad
theorem de_tup {es : List Expr} {k : Nat} {pos : Pos} {f : M (List D)} (h : DA X W es f) : DE X W (.Tuple es k pos) (eTup f) :=
  (pe_tup h).imp fun σ H Q ⟨B, ρ, F, γ, ω, rp, q⟩ => ⟨B, ρ, F, γ, ω, rp, Sat.bind q fun ds vs γ1 ω1 ρ1 F1 H1 r1 p1 s1 q1 q => by
    by_cases hz : sized ds = true
    · rw [if_pos hz] at q
      refine ⟨sized_line hz q1, fun p hp => ?_⟩
      have g := Grow.put (o := .tup vs) r1.wd.sub hp
      exact q.grown r1 g (rp_tup (SqT.of upd_same) (Rps.mono (List.prefix_refl _) g.ff q1))
    · rw [if_neg hz] at q; exact q.elim⟩
theorem de_lst {es : List Expr} {pos : Pos} {f : M (List D)} (h : DA X W es f) : DE X W (.List es pos) (eLst f) :=
  (pe_lst h).imp fun σ H Q ⟨B, ρ, F, γ, ω, rp, q⟩ => ⟨B, ρ, F, γ, ω, rp, Sat.bind q fun ds vs γ1 ω1 ρ1 F1 H1 r1 p1 s1 q1 q => by
    by_cases hz : sized ds = true
    · rw [if_pos hz] at q
      refine ⟨sized_line hz q1, fun p hp => ?_⟩
      have g := Grow.put (o := .lst vs) r1.wd.sub hp
      exact q.grown r1 g (rp_lst upd_same (Rps.mono (List.prefix_refl _) g.ff q1))
    · rw [if_neg hz] at q; exact q.elim⟩
/-- built-ins called by values -/
def eCall (op : OC) (f : M (List D)) : EF := f.bind fun ds γ ω => M.of (op ω ds) γ ω
def OpC (K : PySem.W.Frag) (r : List V → Hp → VK → Prop) (op : OC) : Prop := ∀ (B : Bs) (ρ : List Addr) (F H : Hp) (ω : List OB) (ds : List D) (c : D) (vs : List V) (Q : VK), Wd K B ρ F ω H → Rps K ρ F ds vs → op ω ds = some c →
  (∀ v F' H', Grow F H F' H' → Rp K ρ F' c v → Q v H') → r vs H Q
theorem dc_use {K : PySem.W.Frag} {mg : Str → Option Value} {f : M (List D)} {op : OC} {r : List V → Hp → VK → Prop} (ho : OpC K r op) {σ : L2.St} {H : Hp} {Q : VK} (h : dX K mg W (eCall op f) σ H Q) :
    dX K mg W f σ H fun xs H1 => r xs H1 Q := by
  obtain ⟨B, ρ, F, γ, ω, rp, q⟩ := h
  refine ⟨B, ρ, F, γ, ω, rp, Sat.bind q fun dx x γ1 ω1 ρ1 F1 H1 r1 p1 s1 q1 q => ?_⟩
  cases e : op ω1 dx with
  | none => rw [e] at q; exact q.elim
  | some c =>
    rw [e] at q
    exact ho B ρ1 F1 H1 ω1 dx c x Q r1.wd q1 e fun v F' H' g rv => q.grown r1 g rv
theorem de_callB {x : Str} {id : String} {p pos : Pos} {e : Expr} {es : List Expr} {f : M (List D)} {op : OC} {r : List V → Hp → VK → Prop} (hc : CallR X (.builtin id) r) (ho : OpC X.K r op) (hg : Gl X x) (hm : X.mg x = none) (hv : bootBuiltins x = some (.builtin id)) (ha : DA X W (e :: es) f) (hn : x ≠ "__name__" := by decide) (hdb : (x == ("__debug__" : Str)) = false := by decide)
    (he : starEach (e :: es) X.env = (false, eval e X.env) :: starEach es X.env := by rfl) (hpl : (backTo pos (starEach es X.env)).any (·.1) = false := by rfl) : DE X W (.Call (.Name x p) (e :: es) [] pos) (eCall op f) :=
  (pe_callB hc hg hm hv ha hn hdb he hpl).imp fun _ _ _ h => dc_use ho h
theorem de_callTy {x : Str} {T : String} {p pos : Pos} {e : Expr} {es : List Expr} {f : M (List D)} {op : OC} {r : List V → Hp → VK → Prop} (hc : CallR X (.type T) r) (ho : OpC X.K r op) (hg : Gl X x) (hm : X.mg x = none) (hv : bootBuiltins x = some (.type T)) (ha : DA X W (e :: es) f) (hn : x ≠ "__name__" := by decide) (hdb : (x == ("__debug__" : Str)) = false := by decide)
    (he : starEach (e :: es) X.env = (false, eval e X.env) :: starEach es X.env := by rfl) (hpl : (backTo pos (starEach es X.env)).any (·.1) = false := by rfl) : DE X W (.Call (.Name x p) (e :: es) [] pos) (eCall op f) :=
  (pe_callTy hc hg hm hv ha hn hdb he hpl).imp fun _ _ _ h => dc_use ho h
/-- subscripts, slices -/
theorem de_ix {a b : Expr} {pos : Pos} {fa fb : EF} {r : R2} {o : O2} (hr : IxR X r) (ho : Op2 X.K r o) (ha : DE X W a fa) (hb : DE X W b fb) (hs : PlainIx b := by intro _ _; rfl) : DE X W (.Subscript a b pos) (e2 o fa fb) :=
  (pe_ix hr ha hb hs).imp fun _ _ _ h => d2_use ho h
def asI (d : D) : Option Int := match d with | .int i => some i | _ => none
def oNone : M (Option Int) := M.pure none
def oSome (f : EF) : M (Option Int) := f.bind fun d => (M.of (asI d)).bind fun i => M.pure (some i)
theorem do_none : DO X W none oNone := po_none.imp fun σ H Q ⟨B, ρ, F, γ, ω, rp, q⟩ => q.here rp rfl
theorem do_some {e : Expr} {f : EF} (h : DE X W e f) : DO X W (some e) (oSome f) :=
  (po_some h).imp fun σ H Q ⟨B, ρ, F, γ, ω, rp, q⟩ => ⟨B, ρ, F, γ, ω, rp, Sat.bind q fun d v γ1 ω1 ρ1 F1 H1 r1 p1 s1 e q => by
    cases d with
    | int i => exact ⟨i, rp_int_inv e, q.here r1 rfl⟩
    | _ => exact q.elim⟩
def eSl (op : OS) (f : EF) (l h : M (Option Int)) : EF := f.bind fun x => l.bind fun lo => h.bind fun hi γ ω => M.of (op ω x lo hi) γ ω
def OpSl (K : PySem.W.Frag) (r : V → Option Int → Option Int → Hp → VK → Prop) (op : OS) : Prop := ∀ (B : Bs) (ρ : List Addr) (F H : Hp) (ω : List OB) (a c : D) (lo hi : Option Int) (x : V) (Q : VK), Wd K B ρ F ω H → Rp K ρ F a x → op ω a lo hi = some c →
  (∀ v F' H', Grow F H F' H' → Rp K ρ F' c v → Q v H') → r x lo hi H Q
theorem de_slice {e : Expr} {lo hi : Option Expr} {p2 pos : Pos} {f : EF} {l h : M (Option Int)} {r : V → Option Int → Option Int → Hp → VK → Prop} {o : OS} (hr : SlR X r) (ho : OpSl X.K r o) (he : DE X W e f) (hl : DO X W lo l) (hh : DO X W hi h) :
    DE X W (.Subscript e (.Slice lo hi none p2) pos) (eSl o f l h) :=
  (pe_slice hr he hl hh).imp fun σ H Q ⟨B, ρ, F, γ, ω, rp, q⟩ => ⟨B, ρ, F, γ, ω, rp, Sat.bind q fun d v γ1 ω1 ρ1 F1 H1 r1 p1 s1 q1 q =>
    ⟨B, ρ1, F1, γ1, ω1, r1, Sat.bind q fun i i' γ2 ω2 ρ2 F2 H2 r2 p2 s2 q2 q => ⟨B, ρ2, F2, γ2, ω2, r2, Sat.bind q fun j j' γ3 ω3 ρ3 F3 H3 r3 p3 s3 q3 q => by
      have e2 : i = i' := q2
      have e3 : j = j' := q3
      subst e2 e3
      cases e : o ω3 d i j with
      | none => rw [e] at q; exact q.elim
      | some c =>
        rw [e] at q
        exact ho B ρ3 F3 H3 ω3 d c i j v Q r3.wd (Rp.mono (p2.trans p3) (s2.trans s3) q1) e fun v F' H' g rv => q.grown r3 g rv⟩⟩⟩
end
end DL

set_option Elab.async false
set_option linter.all false
set_option maxRecDepth 100000
namespace DL
open PySem PySem.Spec PyProof.Rows L2

/-! ### slots -/
section
variable {K : PySem.W.Frag} {B : Bs} {ρ : List Addr} {F : Hp} {γ : List SD} {ω : List OB} {σ : L2.St} {H : Hp}
theorem Rep.set (r : Rep K B ρ F γ ω σ H) {d : D} {v : V} (q : Rp K ρ F d v) (i : Nat) : Rep K B ρ F (γ.set i (.dat d)) ω (σ.set i (some v)) H := by
  refine ⟨r.wd, by simpa using r.len, fun j sd hj => ?_, fun j k dj dk p h1 h2 h3 h4 => ?_⟩
  · by_cases e : j = i
    · subst e
      have hi : j < γ.length := by simpa using (List.getElem?_eq_some_iff.mp hj).1
      rw [List.getElem?_set_self hi] at hj
      cases hj
      exact ⟨v, by rw [List.getElem?_set_self (by rw [← r.len]; exact hi)], q⟩
    · rw [List.getElem?_set_ne (Ne.symm e)] at hj
      rw [List.getElem?_set_ne (Ne.symm e)]
      exact r.slots j sd hj
  · have n1 : j ≠ i := fun z => by
      subst z
      have hi : j < γ.length := by simpa using (List.getElem?_eq_some_iff.mp h1).1
      rw [List.getElem?_set_self hi] at h1; cases h1
    have n2 : k ≠ i := fun z => by
      subst z
      have hi : k < γ.length := by simpa using (List.getElem?_eq_some_iff.mp h2).1
      rw [List.getElem?_set_self hi] at h2; cases h2
    rw [List.getElem?_set_ne (Ne.symm n1)] at h1 h3
    rw [List.getElem?_set_ne (Ne.symm n2)] at h2 h4
    exact r.apart j k dj dk p h1 h2 h3 h4
/-- a slot is forgotten -/
theorem Rep.forget (r : Rep K B ρ F γ ω σ H) (i : Nat) (v : Option V) : Rep K B ρ F (γ.set i .no) ω (σ.set i v) H := by
  refine ⟨r.wd, by simpa using r.len, fun j sd hj => ?_, fun j k dj dk p h1 h2 h3 h4 => ?_⟩
  · by_cases e : j = i
    · subst e
      have hi : j < γ.length := by simpa using (List.getElem?_eq_some_iff.mp hj).1
      rw [List.getElem?_set_self hi] at hj
      cases hj
      trivial
    · rw [List.getElem?_set_ne (Ne.symm e)] at hj
      rw [List.getElem?_set_ne (Ne.symm e)]
      exact r.slots j sd hj
  · have n1 : j ≠ i := fun z => by
      subst z
      have hi : j < γ.length := by simpa using (List.getElem?_eq_some_iff.mp h1).1
      rw [List.getElem?_set_self hi] at h1; cases h1
    have n2 : k ≠ i := fun z => by
      subst z
      have hi : k < γ.length := by simpa using (List.getElem?_eq_some_iff.mp h2).1
      rw [List.getElem?_set_self hi] at h2; cases h2
    rw [List.getElem?_set_ne (Ne.symm n1)] at h1 h3
    rw [List.getElem?_set_ne (Ne.symm n2)] at h2 h4
    exact r.apart j k dj dk p h1 h2 h3 h4
/-- forgotten, the slot's value whatever it is -/
theorem Rep.drop1 (r : Rep K B ρ F γ ω σ H) (i : Nat) : Rep K B ρ F (γ.set i .no) ω σ H := by
  refine ⟨r.wd, by simpa using r.len, fun j sd hj => ?_, fun j k dj dk p h1 h2 h3 h4 => ?_⟩
  · by_cases e : j = i
    · subst e
      have hi : j < γ.length := by simpa using (List.getElem?_eq_some_iff.mp hj).1
      rw [List.getElem?_set_self hi] at hj
      cases hj
      trivial
    · rw [List.getElem?_set_ne (Ne.symm e)] at hj
      exact r.slots j sd hj
  · have n1 : j ≠ i := fun z => by
      subst z
      have hi : j < γ.length := by simpa using (List.getElem?_eq_some_iff.mp h1).1
      rw [List.getElem?_set_self hi] at h1; cases h1
    have n2 : k ≠ i := fun z => by
      subst z
      have hi : k < γ.length := by simpa using (List.getElem?_eq_some_iff.mp h2).1
      rw [List.getElem?_set_self hi] at h2; cases h2
    rw [List.getElem?_set_ne (Ne.symm n1)] at h1
    rw [List.getElem?_set_ne (Ne.symm n2)] at h2
    exact r.apart j k dj dk p h1 h2 h3 h4
def wipeD (γ : List SD) : List Nat → List SD
  | [] => γ
  | i :: r => (wipeD γ r).set i .no
theorem Rep.wipe (r : Rep K B ρ F γ ω σ H) : ∀ vs : List Nat, Rep K B ρ F (wipeD γ vs) ω (wipe σ vs) H
  | [] => r
  | i :: l => (Rep.wipe r l).forget i none
theorem Rep.wipeD (r : Rep K B ρ F γ ω σ H) : ∀ vs : List Nat, Rep K B ρ F (wipeD γ vs) ω σ H
  | [] => r
  | i :: l => (Rep.wipeD r l).drop1 i
/-- back from the wiped slots: what is told of the others -/
theorem wipe_get {σ σ' : L2.St} {vs : List Nat} (h : wipe σ' vs = wipe σ vs) {i : Nat} (hi : i ∉ vs) : σ'[i]? = σ[i]? := by
  have key : ∀ (τ : L2.St) (l : List Nat), i ∉ l → (wipe τ l)[i]? = τ[i]? := by
    intro τ l
    induction l with
    | nil => intro _; rfl
    | cons v l ih =>
      intro hn
      unfold L2.wipe
      rw [List.getElem?_set_ne (fun e => hn (by simp [e]))]
      exact ih (fun z => hn (List.mem_cons_of_mem _ z))
  rw [← key σ' vs hi, h, key σ vs hi]
theorem wipeD_get {γ : List SD} : ∀ {vs : List Nat} {i : Nat} {sd : SD}, (wipeD γ vs)[i]? = some sd → (i ∈ vs ∧ sd = .no) ∨ (i ∉ vs ∧ γ[i]? = some sd)
  | [], i, sd, h => .inr ⟨by simp, h⟩
  | v :: l, i, sd, h => by
    unfold DL.wipeD at h
    by_cases e : i = v
    · subst e
      have hi : i < (DL.wipeD γ l).length := by simpa using (List.getElem?_eq_some_iff.mp h).1
      rw [List.getElem?_set_self hi] at h
      cases h
      exact .inl ⟨by simp, rfl⟩
    · rw [List.getElem?_set_ne (Ne.symm e)] at h
      rcases wipeD_get h with ⟨a, b⟩ | ⟨a, b⟩
      · exact .inl ⟨by simp [a], b⟩
      · exact .inr ⟨by simp [a, e], b⟩
theorem wipeD_len (γ : List SD) : ∀ vs : List Nat, (wipeD γ vs).length = γ.length
  | [] => rfl
  | v :: l => by unfold DL.wipeD; rw [List.length_set, wipeD_len γ l]
theorem Rep.unwipe {σ' : L2.St} {vs : List Nat} (r : Rep K B ρ F γ ω σ' H) (h : L2.wipe σ' vs = L2.wipe σ vs) : Rep K B ρ F (DL.wipeD γ vs) ω σ H := by
  have hl : σ'.length = σ.length := by rw [← wipe_length σ' vs, h, wipe_length]
  refine ⟨r.wd, by rw [wipeD_len]; exact r.len.trans hl, fun j sd hj => ?_, fun j k dj dk p h1 h2 h3 h4 => ?_⟩
  · rcases wipeD_get hj with ⟨a, b⟩ | ⟨a, b⟩
    · subst b; trivial
    · rw [← wipe_get h a]; exact r.slots j sd b
  · rcases wipeD_get h1 with ⟨a, b⟩ | ⟨a, b⟩
    · cases b
    · rcases wipeD_get h2 with ⟨a', b'⟩ | ⟨a', b'⟩
      · cases b'
      · exact r.apart j k dj dk p b b' (by rw [wipe_get h a]; exact h3) (by rw [wipe_get h a']; exact h4)
end

/-! ### targets: a name, a tuple of names -/
inductive Tg where
  | nm (i : Nat) | tp (l : List Nat)
def gNames : List Nat → TGs
  | [] => gNil
  | i :: r => gCons (gName i) (gNames r)
def gOf (K : PySem.W.Frag) : Tg → TG
  | .nm i => gName i
  | .tp l => gTup K l.length (gNames l)
def setAll : List Nat → List D → List SD → Option (List SD)
  | [], [], γ => some γ
  | i :: r, d :: ds, γ => setAll r ds (γ.set i (.dat d))
  | _, _, _ => none
def Tg.set : Tg → D → List SD → Option (List SD)
  | .nm i, d, γ => some (γ.set i (.dat d))
  | .tp l, d, γ => match d with
    | .tup ds => setAll l ds γ
    | _ => none
def Tg.slots : Tg → List Nat
  | .nm i => [i]
  | .tp l => l
theorem wipe_set_in {σ : L2.St} {v : Option V} : ∀ {vs : List Nat} {i : Nat}, i ∈ vs → wipe (σ.set i v) vs = wipe σ vs := by
  have comm : ∀ (vs : List Nat) (i : Nat), i ∉ vs → ∀ τ : L2.St, wipe (τ.set i v) vs = (wipe τ vs).set i v := by
    intro vs
    induction vs with
    | nil => intro i _ τ; rfl
    | cons a l ih =>
      intro i hn τ
      unfold L2.wipe
      rw [ih i (fun z => hn (List.mem_cons_of_mem _ z)), List.set_comm _ _ (fun e => hn (by simp [e]))]
  intro vs
  induction vs with
  | nil => intro i h; simp at h
  | cons a l ih =>
    intro i h
    by_cases hl : i ∈ l
    · unfold L2.wipe
      rw [ih hl]
    · have e : i = a := by
        rcases List.mem_cons.mp h with e | e
        · exact e
        · exact absurd e hl
      subst e
      unfold L2.wipe
      rw [comm l i hl, List.set_set]
section
variable {K : PySem.W.Frag} {B : Bs} {ρ : List Addr} {F : Hp} {ω : List OB} {H : Hp}
theorem setAll_ok : ∀ {l : List Nat} {ds : List D} {vs : List V} {γ γ' : List SD} {σ : L2.St} {Q : L2.St → Hp → Prop}, Rep K B ρ F γ ω σ H → Rps K ρ F ds vs → setAll l ds γ = some γ' →
    (∀ σ', Rep K B ρ F γ' ω σ' H → (∀ ws, (∀ i ∈ l, i ∈ ws) → wipe σ' ws = wipe σ ws) → Q σ' H) → gNames l vs σ H Q
  | [], [], vs, γ, γ', σ, Q, r, q, e, k => by
    unfold Rps at q
    subst q
    have e' : γ = γ' := Option.some.inj e
    subst e'
    exact ⟨rfl, k σ r fun _ _ => rfl⟩
  | i :: l, d :: ds, vs, γ, γ', σ, Q, r, q, e, k => by
    unfold Rps at q
    obtain ⟨v, s, rfl, h1, h2⟩ := q
    refine ⟨v, s, rfl, setAll_ok (r.set h1 i) h2 e fun σ' r' w => k σ' r' fun ws hw => ?_⟩
    rw [w ws (fun j hj => hw j (List.mem_cons_of_mem _ hj)), wipe_set_in (hw i (List.mem_cons_self))]
  | [], d :: ds, _, _, _, _, _, _, _, e, _ => by cases e
  | i :: l, [], _, _, _, _, _, _, _, e, _ => by cases e
theorem setAll_len : ∀ {l : List Nat} {ds : List D} {γ γ' : List SD}, setAll l ds γ = some γ' → ds.length = l.length
  | [], [], _, _, _ => rfl
  | i :: l, d :: ds, γ, γ', e => by simp [setAll_len (l := l) (ds := ds) e]
  | [], d :: ds, _, _, e => by cases e
  | i :: l, [], _, _, e => by cases e
theorem tg_ok {t : Tg} {d : D} {v : V} {γ γ' : List SD} {σ : L2.St} {Q : L2.St → Hp → Prop} (r : Rep K B ρ F γ ω σ H) (q : Rp K ρ F d v) (e : t.set d γ = some γ')
    (k : ∀ σ', Rep K B ρ F γ' ω σ' H → (∀ ws, (∀ i ∈ t.slots, i ∈ ws) → wipe σ' ws = wipe σ ws) → Q σ' H) : gOf K t v σ H Q := by
  cases t with
  | nm i =>
    have e' : γ.set i (.dat d) = γ' := Option.some.inj e
    subst e'
    exact k _ (r.set q i) fun ws hw => wipe_set_in (hw i (by simp [Tg.slots]))
  | tp l =>
    cases d with
    | tup ds =>
      have e' : setAll l ds γ = some γ' := e
      obtain ⟨a, vs, rfl, hs, rs⟩ := rp_tup_inv q
      exact ⟨a, vs, rfl, Same.seqT r.wd.sub hs, by rw [← rs.len, setAll_len e'], setAll_ok r rs e' k⟩
    | _ => cases e
end

/-! ### statements -/
abbrev DS (X : Cx) (W : WX) (st : Stmt) (g : M Fl) : Prop := PS X st (dS X.K X.mg W g)
abbrev DSs (X : Cx) (W : WX) (st : List Stmt) (g : M Fl) : Prop := PSs X st (dS X.K X.mg W g)
def sNext : M Fl := M.pure .nx
def Res.thn (r : Res Fl) (g : M Fl) : Res Fl := match r with
  | .ok .nx γ ω => g γ ω
  | r => r
def sSeq (f g : M Fl) : M Fl := fun γ ω => (f γ ω).thn g
section
variable {X : Cx} {W : WX}
theorem ds_nil : DSs X W [] sNext := pss_nil.imp fun E σ H ⟨B, ρ, F, γ, ω, rp, q⟩ => q σ ρ F H rp (List.prefix_refl _) (Same.refl _)
theorem SatS.thn {K : PySem.W.Frag} {mg : Str → Option Value} {B : Bs} {ρ : List Addr} {F : Hp} {E : Ends} {r : Res Fl} {g : M Fl} {N : L2.St → Hp → Prop} (h : SatS K mg W B ρ F E (r.thn g))
    (k : ∀ γ ω σ ρ' F' H', Rep K B ρ' F' γ ω σ H' → ρ <+: ρ' → Same F F' → SatS K mg W B ρ' F' E (g γ ω) → N σ H') : SatS K mg W B ρ F { E with nx := N } r := by
  cases r with
  | ok d γ ω =>
    cases d with
    | nx => exact fun σ ρ' F' H' r p s => k γ ω σ ρ' F' H' r p s (h.later p s)
    | rt d => exact h
    | bk => exact h
    | ct => exact h
  | exc e γ ω => exact h
  | bad => exact h
theorem ds_cons {st : Stmt} {rest : List Stmt} {f g : M Fl} (h1 : DS X W st f) (h2 : DSs X W rest g) : DSs X W (st :: rest) (sSeq f g) :=
  (pss_cons h1 h2).imp fun E σ H ⟨B, ρ, F, γ, ω, rp, q⟩ => ⟨B, ρ, F, γ, ω, rp, SatS.thn q fun γ' ω' σ' ρ' F' H' r p s q' => ⟨B, ρ', F', γ', ω', r, q'⟩⟩
theorem ds_one {st : Stmt} {f : M Fl} (h1 : DS X W st f) : DSs X W [st] f := pss_one h1
def sDrop (f : EF) : M Fl := f.bind fun _ => sNext
theorem ds_expr {e : Expr} {pos : Pos} {f : EF} (h : DE X W e f) (hs : swapsWith e none pos.line X.env = pure false := by rfl) : DS X W (.Expr e pos) (sDrop f) :=
  (ps_expr h hs).imp fun E σ H ⟨B, ρ, F, γ, ω, rp, q⟩ => ⟨B, ρ, F, γ, ω, rp, SatS.bind q fun d v γ1 ω1 ρ1 F1 H1 r1 p1 s1 q1 q => q σ ρ1 F1 H1 r1 (List.prefix_refl _) (Same.refl _)⟩
def sRet (f : EF) : M Fl := f.bind fun d => M.pure (.rt d)
theorem ds_ret {e : Expr} {pos : Pos} {f : EF} (h : DE X W e f) : DS X W (.Return (some e) pos) (sRet f) :=
  (ps_ret h).imp fun E σ H ⟨B, ρ, F, γ, ω, rp, q⟩ => ⟨B, ρ, F, γ, ω, rp, SatS.bind q fun d v γ1 ω1 ρ1 F1 H1 r1 p1 s1 q1 q => q v σ ρ1 F1 H1 r1 (List.prefix_refl _) (Same.refl _) q1⟩
theorem ds_retN {pos : Pos} : DS X W (.Return none pos) (M.pure (.rt .non)) :=
  ps_retN.imp fun E σ H ⟨B, ρ, F, γ, ω, rp, q⟩ => q .non σ ρ F H rp (List.prefix_refl _) (Same.refl _) rp_non
theorem ds_pass {pos : Pos} : DS X W (.Pass pos) sNext := ps_pass.imp fun E σ H ⟨B, ρ, F, γ, ω, rp, q⟩ => q σ ρ F H rp (List.prefix_refl _) (Same.refl _)
theorem ds_break {pos : Pos} : DS X W (.Break pos) (M.pure .bk) := ps_break.imp fun E σ H ⟨B, ρ, F, γ, ω, rp, q⟩ => q σ ρ F H rp (List.prefix_refl _) (Same.refl _)
theorem ds_continue {pos : Pos} : DS X W (.Continue pos) (M.pure .ct) := ps_continue.imp fun E σ H ⟨B, ρ, F, γ, ω, rp, q⟩ => q σ ρ F H rp (List.prefix_refl _) (Same.refl _)
theorem ds_doc {x j pos pos'} : DS X W (.Expr (.Constant (.str x) j pos) pos') sNext := ps_doc.imp fun E σ H ⟨B, ρ, F, γ, ω, rp, q⟩ => q σ ρ F H rp (List.prefix_refl _) (Same.refl _)
def sIf (c : M Bool) (f g : M Fl) : M Fl := c.bind fun k => if k = true then f else g
theorem ds_if {c : Expr} {a b : List Stmt} {pos : Pos} {t : M Bool} {f g : M Fl} (hc : DT X W c t) (ha : DSs X W a f) (hb : DSs X W b g) : DS X W (.If c a b pos) (sIf t f g) :=
  (ps_if hc ha hb).imp fun E σ H ⟨B, ρ, F, γ, ω, rp, q⟩ => ⟨B, ρ, F, γ, ω, rp, SatS.bind q fun c k γ1 ω1 ρ1 F1 H1 r1 p1 s1 e q => by
    have e' : c = k := e
    subst e'
    cases c with
    | true => exact iteT ⟨B, ρ1, F1, γ1, ω1, r1, q⟩
    | false => exact iteF ⟨B, ρ1, F1, γ1, ω1, r1, q⟩⟩
/-- name = e -/
def sSet (i : Nat) (f : EF) : M Fl := f.bind fun d γ ω => .ok .nx (γ.set i (.dat d)) ω
theorem ds_set {i : Nat} {x : Str} {e : Expr} {f : EF} {pos pos' : Pos} (hN : X.N.Nodup) (hi : X.N[i]? = some x) (hx : Loc X.env.scope x) (he : DE X W e f) (hs : swapsWith e (some (.Name x pos')) pos.line X.env = pure false := by rfl) (hf : X.fn x = true ∨ X.env.scope.names.lookup x = some .local := by first | exact .inl rfl | exact .inr rfl | assumption) :
    DS X W (.Assign [.Name x pos'] e pos) (sSet i f) :=
  (ps_set hN hi hx he hs hf).imp fun E σ H ⟨B, ρ, F, γ, ω, rp, q⟩ => ⟨B, ρ, F, γ, ω, rp, SatS.bind q fun d v γ1 ω1 ρ1 F1 H1 r1 p1 s1 q1 q => q _ ρ1 F1 H1 (r1.set q1 i) (List.prefix_refl _) (Same.refl _)⟩
/-- (a, b, ..) = e -/
def sAsg (t : Tg) (f : EF) : M Fl := f.bind fun d γ ω => match t.set d γ with | some γ' => .ok .nx γ' ω | none => .bad
theorem ds_asg {tg e : Expr} {f : EF} {t : Tg} {pos : Pos} (he : DE X W e f) (hg : PG X tg (gOf X.K t)) (hs : swapsWithSole [tg] e pos.line X.env = pure false := by rfl) (hw : swappedStores [tg] e X.env = pure none := by rfl)
    (h1 : (assignEach [tg] X.env).map (·.2) = [assign tg X.env] := by rfl) : DS X W (.Assign [tg] e pos) (sAsg t f) :=
  (ps_asg he hg hs hw h1).imp fun E σ H ⟨B, ρ, F, γ, ω, rp, q⟩ => ⟨B, ρ, F, γ, ω, rp, SatS.bind q fun d v γ1 ω1 ρ1 F1 H1 r1 p1 s1 q1 q => by
    cases e : t.set d γ1 with
    | none => rw [e] at q; exact q.elim
    | some γ' =>
      rw [e] at q
      exact tg_ok r1 q1 e fun σ' r' _ => q σ' ρ1 F1 H1 r' (List.prefix_refl _) (Same.refl _)⟩
/-- a, b = e1, e2 of plain local names -/
def sPar (i j : Nat) (f : M (List D)) : M Fl := f.bind fun ds γ ω => match ds with
  | [a, b] => .ok .nx ((γ.set i (.dat a)).set j (.dat b)) ω
  | _ => .bad
theorem ds_par {i j : Nat} {x y : Str} {a b : Expr} {f : M (List D)} {px py pt pos : Pos} {kt k2 pt2} (hc : X.calm = true) (hN : X.N.Nodup) (hi : X.N[i]? = some x) (hj : X.N[j]? = some y) (hij : i ≠ j)
    (hx : X.env.scope.names.lookup x = some .local) (hy : X.env.scope.names.lookup y = some .local) (ha : DA X W [a, b] f)
    (hw : swappedStores [.Tuple [.Name x px, .Name y py] kt pt] (.Tuple [a, b] k2 pt2) X.env = pure (some [x, y]))
    (hs : swapsWithSole [.Tuple [.Name x px, .Name y py] kt pt] (.Tuple [a, b] k2 pt2) pos.line X.env = pure false := by rfl) :
    DS X W (.Assign [.Tuple [.Name x px, .Name y py] kt pt] (.Tuple [a, b] k2 pt2) pos) (sPar i j f) :=
  (ps_par hc hN hi hj hij hx hy ha hw hs).imp fun E σ H ⟨B, ρ, F, γ, ω, rp, q⟩ => ⟨B, ρ, F, γ, ω, rp, SatS.bind q fun ds vs γ1 ω1 ρ1 F1 H1 r1 p1 s1 q1 q => by
    match ds, q1, q with
    | [], _, q => exact q.elim
    | [_], _, q => exact q.elim
    | _ :: _ :: _ :: _, _, q => exact q.elim
    | [a, b], q1, q =>
      have q1' : Rps X.K ρ1 F1 [a, b] vs := q1
      unfold Rps at q1'
      obtain ⟨v, r, rfl, h1, h2⟩ := q1'
      unfold Rps at h2
      obtain ⟨w, r', rfl, h2, h3⟩ := h2
      unfold Rps at h3
      subst h3
      exact ⟨v, w, rfl, q _ ρ1 F1 H1 ((r1.set h1 i).set h2 j) (List.prefix_refl _) (Same.refl _)⟩⟩

/-! ### what is walked -/
structure WalkD (K : PySem.W.Frag) (J : It) (ds : List D) (ρ : List Addr) (F : Hp) : Prop where
  w : Walk J ds.length (fun H => Same F H) (fun i H x H' => ∀ F1, Same F F1 → Same F1 H → ∃ F2 d, Grow F1 H F2 H' ∧ ds[i]? = some d ∧ Rp K ρ F2 d x)
def SatI (K : PySem.W.Frag) (mg : Str → Option Value) (W : WX) (B : Bs) (ρ : List Addr) (F : Hp) (σ : L2.St) (R : It → Hp → Prop) : Res (List D) → Prop
  | .ok ds γ ω => ∀ J ρ' F' H', Rep K B ρ' F' γ ω σ H' → ρ <+: ρ' → Same F F' → WalkD K J ds ρ' F' → R J H'
  | .exc e γ ω => ∀ C dd ρ' F' H', Rep K B ρ' F' γ ω σ H' → ρ <+: ρ' → Same F F' → ExAt K mg ρ' F' H' e C dd → W C dd σ H'
  | .bad => False
def dI (K : PySem.W.Frag) (mg : Str → Option Value) (W : WX) (f : M (List D)) : TI := fun σ H R => ∃ B ρ F γ ω, Rep K B ρ F γ ω σ H ∧ SatI K mg W B ρ F σ R (f γ ω)
abbrev DI (X : Cx) (W : WX) (tg iter : Expr) (f : M (List D)) : Prop := PI X tg iter (dI X.K X.mg W f)
theorem _root_.L2.PI.imp {tg e : Expr} {t t' : TI} (h : PI X tg e t) (k : ∀ σ H Q, t' σ H Q → t σ H Q) : PI X tg e t' := ⟨fun pins s σ H Q I q => h.run pins s σ H Q I (k σ H Q q)⟩
theorem SatI.later {K : PySem.W.Frag} {mg : Str → Option Value} {B : Bs} {σ : L2.St} {ρ ρ' : List Addr} {F F' : Hp} {R : It → Hp → Prop} {r : Res (List D)} (hp : ρ <+: ρ') (hs : Same F F') (h : SatI K mg W B ρ F σ R r) : SatI K mg W B ρ' F' σ R r := by
  cases r with
  | ok d γ ω => exact fun v ρ2 F2 H2 r p s q => h v ρ2 F2 H2 r (hp.trans p) (hs.trans s) q
  | exc e γ ω => exact fun C dd ρ2 F2 H2 r p s q => h C dd ρ2 F2 H2 r (hp.trans p) (hs.trans s) q
  | bad => exact h
theorem SatI.bind {K : PySem.W.Frag} {mg : Str → Option Value} {B : Bs} {ρ : List Addr} {F : Hp} {σ : L2.St} {α β : Type} [Den α β] {Q : β → Hp → Prop} {R : It → Hp → Prop} {m : Res α} {k : α → M (List D)} (h : SatI K mg W B ρ F σ R (m.bind k))
    (go : ∀ d v γ1 ω1 ρ1 F1 H1, Rep K B ρ1 F1 γ1 ω1 σ H1 → ρ <+: ρ1 → Same F F1 → Den.rel K ρ1 F1 d v → SatI K mg W B ρ1 F1 σ R (k d γ1 ω1) → Q v H1) : Sat K mg W B ρ F σ Q m := by
  cases m with
  | ok d γ ω => exact fun v ρ1 F1 H1 r p s q => go d v γ ω ρ1 F1 H1 r p s q (h.later p s)
  | exc e γ ω => exact h
  | bad => exact h
def asL (d : D) : Option (List D) := match d with | .lst ds => some ds | _ => none
def asT (d : D) : Option (List D) := match d with | .tup ds => some ds | _ => none
def iL (f : EF) : M (List D) := f.bind fun d => M.of (asL d)
def iT (f : EF) : M (List D) := f.bind fun d => M.of (asT d)
theorem walkD_list {K : PySem.W.Frag} {a : Addr} {vs : List V} {ds : List D} {ρ : List Addr} {F : Hp} (h : SqL K F a vs) (r : Rps K ρ F ds vs) : WalkD K (Itl K a) ds ρ F := by
  refine ⟨?_⟩
  rw [r.len]
  refine Walk.mono walk_list (fun H s => Same.seq s h) fun i H x H' hi s y F1 s1 s2 => ?_
  obtain ⟨e, hx⟩ := y
  subst e
  obtain ⟨d, hd, q⟩ := r.get' hx
  exact ⟨F1, d, Grow.refl s2, hd, q.mono (List.prefix_refl _) s1⟩
theorem walkD_tup {K : PySem.W.Frag} {a : Addr} {vs : List V} {ds : List D} {ρ : List Addr} {F : Hp} (h : SqT K F a vs) (r : Rps K ρ F ds vs) : WalkD K (Itt K a) ds ρ F := by
  refine ⟨?_⟩
  rw [r.len]
  refine Walk.mono walk_tup (fun H s => Same.seqT s h) fun i H x H' hi s y F1 s1 s2 => ?_
  obtain ⟨e, hx⟩ := y
  subst e
  obtain ⟨d, hd, q⟩ := r.get' hx
  exact ⟨F1, d, Grow.refl s2, hd, q.mono (List.prefix_refl _) s1⟩
theorem di_list {tg l : Expr} {f : EF} (h : DE X W l f) : DI X W tg l (iL f) :=
  (pi_list h).imp fun σ H R ⟨B, ρ, F, γ, ω, rp, q⟩ => ⟨B, ρ, F, γ, ω, rp, SatI.bind q fun d v γ1 ω1 ρ1 F1 H1 r1 p1 s1 q1 q => by
    cases d with
    | lst ds =>
      obtain ⟨a, vs, rfl, hs, rs⟩ := rp_lst_inv q1
      exact ⟨a, rfl, ⟨vs, Same.seq r1.wd.sub (SqL.of hs)⟩, q _ ρ1 F1 H1 r1 (List.prefix_refl _) (Same.refl _) (walkD_list (SqL.of hs) rs)⟩
    | _ => exact q.elim⟩
theorem di_tup {tg l : Expr} {f : EF} (h : DE X W l f) : DI X W tg l (iT f) :=
  (pi_tup h).imp fun σ H R ⟨B, ρ, F, γ, ω, rp, q⟩ => ⟨B, ρ, F, γ, ω, rp, SatI.bind q fun d v γ1 ω1 ρ1 F1 H1 r1 p1 s1 q1 q => by
    cases d with
    | tup ds =>
      obtain ⟨a, vs, rfl, hs, rs⟩ := rp_tup_inv q1
      exact ⟨a, rfl, ⟨vs, Same.seqT r1.wd.sub hs⟩, q _ ρ1 F1 H1 r1 (List.prefix_refl _) (Same.refl _) (walkD_tup hs rs)⟩
    | _ => exact q.elim⟩
/-- range -/
def rangeD (lo hi : Int) : List D := (List.range (hi - lo).toNat).map fun (k : Nat) => D.int (lo + (k : Int))
/-- a test that no evaluation opens -/
noncomputable def cdec (p : Prop) : Bool := @decide p (Classical.propDecidable p)
theorem cdec_mk {p : Prop} (h : p) : cdec p = true := @decide_eq_true p (Classical.propDecidable p) h
theorem cdec_of {p : Prop} (h : cdec p = true) : p := @of_decide_eq_true p (Classical.propDecidable p) h
noncomputable def inB (i : Int) : Bool := @decide (-(2 ^ 62) ≤ i ∧ i < 2 ^ 62) (Classical.propDecidable _)
noncomputable def iR1 (f : M (List D)) : M (List D) := f.bind fun ds => match ds with
  | [.int j] => if inB j = true then M.pure (rangeD 0 j) else M.bad
  | _ => M.bad
noncomputable def iR2 (f : M (List D)) : M (List D) := f.bind fun ds => match ds with
  | [.int i, .int j] => if (inB i && inB j) = true then M.pure (rangeD i j) else M.bad
  | _ => M.bad
theorem walkD_range {K : PySem.W.Frag} {lo hi : Int} {ρ : List Addr} {F : Hp} : WalkD K (Itr lo (hi - lo).toNat) (rangeD lo hi) ρ F := by
  refine ⟨?_⟩
  have e : (rangeD lo hi).length = (hi - lo).toNat := by unfold rangeD; simp
  rw [e]
  refine Walk.mono walk_range (fun H s => trivial) fun i H x H' hi' s y F1 s1 s2 => ?_
  obtain ⟨e, hx⟩ := y
  subst e hx
  refine ⟨F1, .int (lo + i), Grow.refl s2, ?_, rp_int⟩
  unfold rangeD
  rw [List.getElem?_map, List.getElem?_range hi']
  rfl
theorem rps1 {K : PySem.W.Frag} {ρ : List Addr} {F : Hp} {a : D} {vs : List V} (h : Rps K ρ F [a] vs) : ∃ x, vs = [x] ∧ Rp K ρ F a x := by
  unfold Rps at h
  obtain ⟨v, r, rfl, h1, h2⟩ := h
  unfold Rps at h2
  subst h2
  exact ⟨v, rfl, h1⟩
theorem rps2 {K : PySem.W.Frag} {ρ : List Addr} {F : Hp} {a b : D} {vs : List V} (h : Rps K ρ F [a, b] vs) : ∃ x y, vs = [x, y] ∧ Rp K ρ F a x ∧ Rp K ρ F b y := by
  unfold Rps at h
  obtain ⟨v, r, rfl, h1, h2⟩ := h
  obtain ⟨y, rfl, h3⟩ := rps1 h2
  exact ⟨v, y, rfl, h1, h3⟩
theorem inB_ok {i : Int} (h : inB i = true) : -(2 ^ 62) ≤ i ∧ i < 2 ^ 62 := @of_decide_eq_true _ (Classical.propDecidable _) h
theorem inB_mk {i : Int} (h : -(2 ^ 62) ≤ i ∧ i < 2 ^ 62) : inB i = true := @decide_eq_true _ (Classical.propDecidable _) h
theorem di_range1 {tg a : Expr} {p pos : Pos} {f : M (List D)} (hg : Gl X "range") (hm : X.mg "range" = none) (ha : DA X W [a] f) (hs : starEach [a] X.env = [(false, eval a X.env)] := by rfl) : DI X W tg (.Call (.Name "range" p) [a] [] pos) (iR1 f) :=
  (pi_range1 hg hm ha hs).imp fun σ H R ⟨B, ρ, F, γ, ω, rp, q⟩ => ⟨B, ρ, F, γ, ω, rp, SatI.bind q fun ds vs γ1 ω1 ρ1 F1 H1 r1 p1 s1 q1 q => by
    split at q
    · rename_i j
      obtain ⟨x, rfl, e⟩ := rps1 (show Rps X.K ρ1 F1 [D.int j] vs from q1)
      cases rp_int_inv e
      by_cases hb : inB j = true
      · rw [if_pos hb] at q
        obtain ⟨h1, h2⟩ := inB_ok hb
        refine ⟨j, rfl, h1, h2, ?_⟩
        have w := walkD_range (K := X.K) (lo := 0) (hi := j) (ρ := ρ1) (F := F1)
        rw [show (j - 0).toNat = j.toNat from by rw [Int.sub_zero]] at w
        exact q _ ρ1 F1 H1 r1 (List.prefix_refl _) (Same.refl _) w
      · rw [if_neg hb] at q; exact q.elim
    · exact q.elim⟩
theorem di_range2 {tg a b : Expr} {p pos : Pos} {f : M (List D)} (hg : Gl X "range") (hm : X.mg "range" = none) (ha : DA X W [a, b] f) (hs : starEach [a, b] X.env = [(false, eval a X.env), (false, eval b X.env)] := by rfl) (hs2 : starEach [b] X.env = [(false, eval b X.env)] := by rfl) : DI X W tg (.Call (.Name "range" p) [a, b] [] pos) (iR2 f) :=
  (pi_range2 hg hm ha hs hs2).imp fun σ H R ⟨B, ρ, F, γ, ω, rp, q⟩ => ⟨B, ρ, F, γ, ω, rp, SatI.bind q fun ds vs γ1 ω1 ρ1 F1 H1 r1 p1 s1 q1 q => by
    split at q
    · rename_i i j
      obtain ⟨x, y, rfl, e, e'⟩ := rps2 (show Rps X.K ρ1 F1 [D.int i, D.int j] vs from q1)
      cases rp_int_inv e
      cases rp_int_inv e'
      by_cases hb : (inB i && inB j) = true
      · rw [if_pos hb] at q
        obtain ⟨b1, b2⟩ := Bool.and_eq_true_iff.mp hb
        obtain ⟨h1, h2⟩ := inB_ok b1
        obtain ⟨h3, h4⟩ := inB_ok b2
        exact ⟨i, j, rfl, ⟨h1, h2, h3, h4⟩, q _ ρ1 F1 H1 r1 (List.prefix_refl _) (Same.refl _) walkD_range⟩
      · rw [if_neg hb] at q; exact q.elim
    · exact q.elim⟩

/-! ### for -/
def forL (t : Tg) (body : M Fl) : List D → M Fl
  | [], γ, ω => .ok .nx γ ω
  | d :: r, γ, ω => match t.set d γ with
    | none => .bad
    | some γ' => match body γ' ω with
      | .ok .nx γ2 ω2 => forL t body r γ2 ω2
      | .ok .ct γ2 ω2 => forL t body r γ2 ω2
      | .ok .bk γ2 ω2 => .ok .nx γ2 ω2
      | r => r
def sFor (t : Tg) (it : M (List D)) (body : M Fl) : M Fl := it.bind fun ds => forL t body ds
theorem ds_for {tg iter : Expr} {body : List Stmt} {it : M (List D)} {t : Tg} {g : M Fl} {pos : Pos} (hp : PassesOwn (model X.prog X.w) X.A X.env X.xe) (hc : X.calm = true) (hi : DI X W tg iter it) (hg : PG X tg (gOf X.K t)) (hb : DSs X W body g)
    (hs : ∀ x, foldedSetIterable iter X.env x = pure x := by intro _; rfl) : DS X W (.For tg iter body [] pos) (sFor t it g) :=
  (ps_for hp hc hi hg hb hs).imp fun E σ H ⟨B, ρ, F, γ, ω, rp, q⟩ => by
    refine ⟨B, ρ, F, γ, ω, rp, ?_⟩
    cases hm : it γ ω with
    | bad =>
      have q' : SatS X.K X.mg W B ρ F E (((it γ ω).bind fun ds => forL t g ds)) := q
      rw [hm] at q'
      exact q'
    | exc e γ' ω' =>
      have q' : SatS X.K X.mg W B ρ F E (((it γ ω).bind fun ds => forL t g ds)) := q
      rw [hm] at q'
      exact fun C dd ρ1 F1 H1 r p s k => q' C dd σ ρ1 F1 H1 r p s k
    | ok ds γ' ω' =>
      have q' : SatS X.K X.mg W B ρ F E (((it γ ω).bind fun ds => forL t g ds)) := q
      rw [hm] at q'
      have q0 : SatS X.K X.mg W B ρ F E (forL t g ds γ' ω') := q'
      intro J ρ1 F1 H1 r1 p1 s1 w
      refine for_it w.w (fun i σ H => ∃ γ ω ρ' F', Rep X.K B ρ' F' γ ω σ H ∧ ρ1 <+: ρ' ∧ Same F1 F' ∧ SatS X.K X.mg W B ρ' F' E (forL t g (ds.drop i) γ ω)) ⟨γ', ω', ρ1, F1, r1, List.prefix_refl _, Same.refl _, q0.later p1 s1⟩
        (fun i σ H _ ⟨_, _, ρ', F', r, _, s, _⟩ => s.trans r.wd.sub) ?_ ?_
      · rintro i x σ2 H2 H3 hi ⟨γ2, ω2, ρ2, F2, r2, p2, s2, q2⟩ y
        obtain ⟨F3, d, gr, hd, rd⟩ := y F2 s2 r2.wd.sub
        have ed : ds.drop i = d :: ds.drop (i + 1) := by
          obtain ⟨hlt, e⟩ := List.getElem?_eq_some_iff.mp hd
          rw [List.drop_eq_getElem_cons hlt, e]
        rw [ed] at q2
        have r3 := r2.grow gr
        have rd' : Rp X.K ρ2 F3 d x := rd.mono p2 (Same.refl _)
        unfold forL at q2
        cases et : t.set d γ2 with
        | none => rw [et] at q2; exact q2.elim
        | some γ3 =>
          rw [et] at q2
          refine tg_ok r3 rd' et fun σ4 r4 _ => ⟨B, ρ2, F3, γ3, ω2, r4, ?_⟩
          have q3 := q2.later (List.prefix_refl _) gr.ff
          dsimp only at q3
          have go : ∀ γ5 ω5, SatS X.K X.mg W B ρ2 F3 E (forL t g (ds.drop (i + 1)) γ5 ω5) → ∀ σ5 ρ5 F5 H5, Rep X.K B ρ5 F5 γ5 ω5 σ5 H5 → ρ2 <+: ρ5 → Same F3 F5 →
              ∃ γ ω ρ' F', Rep X.K B ρ' F' γ ω σ5 H5 ∧ ρ1 <+: ρ' ∧ Same F1 F' ∧ SatS X.K X.mg W B ρ' F' E (forL t g (ds.drop (i + 1)) γ ω) := fun γ5 ω5 k σ5 ρ5 F5 H5 r5 p5 s5 =>
            ⟨γ5, ω5, ρ5, F5, r5, p2.trans p5, (s2.trans gr.ff).trans s5, k.later p5 s5⟩
          cases eb : g γ3 ω2 with
          | bad => rw [eb] at q3; exact q3
          | exc e γ5 ω5 => rw [eb] at q3; exact q3
          | ok fl γ5 ω5 =>
            rw [eb] at q3
            cases fl with
            | nx => exact go γ5 ω5 q3
            | ct => exact go γ5 ω5 q3
            | bk => exact q3
            | rt d => exact q3
      · rintro σ2 H2 ⟨γ2, ω2, ρ2, F2, r2, p2, s2, q2⟩
        rw [List.drop_length] at q2
        exact q2 σ2 ρ2 F2 H2 r2 (List.prefix_refl _) (Same.refl _)

/-! ### while: fuel -/
def whileL (c : M Bool) (body : M Fl) : Nat → M Fl
  | 0, _, _ => .bad
  | n + 1, γ, ω => match c γ ω with
    | .ok true γ1 ω1 => match body γ1 ω1 with
      | .ok .nx γ2 ω2 => whileL c body n γ2 ω2
      | .ok .ct γ2 ω2 => whileL c body n γ2 ω2
      | .ok .bk γ2 ω2 => .ok .nx γ2 ω2
      | r => r
    | .ok false γ1 ω1 => .ok .nx γ1 ω1
    | .exc e γ1 ω1 => .exc e γ1 ω1
    | .bad => .bad
theorem ds_while {c : Expr} {body : List Stmt} {t : M Bool} {g : M Fl} {pos : Pos} (n : Nat) (hp : PassesOwn (model X.prog X.w) X.A X.env X.xe) (hc : DT X W c t) (hb : DSs X W body g) : DS X W (.While c body [] pos) (whileL t g n) :=
  (ps_while hp hc hb).imp fun E σ H ⟨B, ρ, F, γ, ω, rp, q⟩ => by
    refine ⟨fun m σ H => ∃ γ ω ρ' F', Rep X.K B ρ' F' γ ω σ H ∧ ρ <+: ρ' ∧ Same F F' ∧ SatS X.K X.mg W B ρ' F' E (whileL t g m γ ω), ⟨n, γ, ω, ρ, F, rp, List.prefix_refl _, Same.refl _, q⟩, ?_⟩
    rintro m σ2 H2 ⟨γ2, ω2, ρ2, F2, r2, p2, s2, q2⟩
    refine ⟨B, ρ2, F2, γ2, ω2, r2, ?_⟩
    cases m with
    | zero => exact q2.elim
    | succ m =>
      unfold whileL at q2
      cases ec : t γ2 ω2 with
      | bad => rw [ec] at q2; exact q2
      | exc e γ3 ω3 => rw [ec] at q2; exact fun C dd ρ1 F1 H1 r p s k => q2 C dd σ2 ρ1 F1 H1 r p s k
      | ok k γ3 ω3 =>
        rw [ec] at q2
        intro b ρ3 F3 H3 r3 p3 s3 e
        have e' : k = b := e
        subst e'
        cases k with
        | false => exact iteF (q2 σ2 ρ3 F3 H3 r3 p3 s3)
        | true =>
          refine iteT ⟨fun σ' H' => ∃ γ ω ρ' F', Rep X.K B ρ' F' γ ω σ' H' ∧ ρ <+: ρ' ∧ Same F F' ∧ SatS X.K X.mg W B ρ' F' E (whileL t g m γ ω), fun σ' H' h => ⟨m, Nat.lt_succ_self _, h⟩, ⟨B, ρ3, F3, γ3, ω3, r3, ?_⟩⟩
          have q3 := q2.later p3 s3
          dsimp only at q3
          have go : ∀ γ5 ω5, SatS X.K X.mg W B ρ3 F3 E (whileL t g m γ5 ω5) → ∀ σ5 ρ5 F5 H5, Rep X.K B ρ5 F5 γ5 ω5 σ5 H5 → ρ3 <+: ρ5 → Same F3 F5 →
              ∃ γ ω ρ' F', Rep X.K B ρ' F' γ ω σ5 H5 ∧ ρ <+: ρ' ∧ Same F F' ∧ SatS X.K X.mg W B ρ' F' E (whileL t g m γ ω) := fun γ5 ω5 k σ5 ρ5 F5 H5 r5 p5 s5 =>
            ⟨γ5, ω5, ρ5, F5, r5, (p2.trans p3).trans p5, (s2.trans s3).trans s5, k.later p5 s5⟩
          cases eb : g γ3 ω3 with
          | bad => rw [eb] at q3; exact q3
          | exc e γ5 ω5 => rw [eb] at q3; exact q3
          | ok fl γ5 ω5 =>
            rw [eb] at q3
            cases fl with
            | nx => exact go γ5 ω5 q3
            | ct => exact go γ5 ω5 q3
            | bk => exact q3
            | rt d => exact q3
end
end DL

set_option Elab.async false
set_option linter.all false
set_option maxRecDepth 100000
noncomputable section
namespace DL
open PySem PySem.Spec PyProof.Rows L2

/-! ### lists that are new -/
structure Lone (K : PySem.W.Frag) (B : Bs) (ρ : List Addr) (F : Hp) (γ : List SD) (σ : L2.St) (H : Hp) (p : Addr) : Prop where
  f : F p = none
  n : p ∉ ρ
  h0 : B.H0 p = none
  ow : ∀ (j : Nat) (dj : List D), γ[j]? = some (.own dj) → σ[j]? ≠ some (some (.ref p))
def SatN (K : PySem.W.Frag) (mg : Str → Option Value) (W : WX) (B : Bs) (ρ : List Addr) (F : Hp) (σ : L2.St) (Q : VK) : Res (List D) → Prop
  | .ok ds γ ω => ∀ p vs ρ' F' H', Rep K B ρ' F' γ ω σ H' → ρ <+: ρ' → Same F F' → H' p = some (.lst vs) → Rps K ρ' F' ds vs → Lone K B ρ' F' γ σ H' p → Q (.ref p) H'
  | .exc e γ ω => ∀ C dd ρ' F' H', Rep K B ρ' F' γ ω σ H' → ρ <+: ρ' → Same F F' → ExAt K mg ρ' F' H' e C dd → W C dd σ H'
  | .bad => False
def dN (K : PySem.W.Frag) (mg : Str → Option Value) (W : WX) (f : M (List D)) : TE := fun σ H Q => ∃ B ρ F γ ω, Rep K B ρ F γ ω σ H ∧ SatN K mg W B ρ F σ Q (f γ ω)
abbrev DN (X : Cx) (W : WX) (e : Expr) (f : M (List D)) : Prop := PE X e (dN X.K X.mg W f)
section
variable {K : PySem.W.Frag} {mg : Str → Option Value} {W : WX} {B : Bs} {ρ : List Addr} {F : Hp} {γ : List SD} {ω : List OB} {σ : L2.St} {H : Hp}
theorem Grow.add {o : HO} {p : Addr} (h : Same F H) (hp : H p = none) : Grow F H F (upd H p o) :=
  ⟨Same.refl _, fun x u e => by rw [upd_ne (ne_of_none e hp)]; exact e, fun x u e => by rw [upd_ne (ne_of_none (h x u e) hp)]; exact h x u e, fun x u e => .inl e⟩
theorem Rep.lone {p : Addr} {o : HO} (r : Rep K B ρ F γ ω σ H) (hp : H p = none) : Lone K B ρ F γ σ (upd H p o) p where
  f := r.wd.sub.free hp
  n := fun h => by
    obtain ⟨u, hu⟩ := r.wd.at_some h
    rw [hp] at hu; cases hu
  h0 := r.wd.fresh0 hp
  ow := fun j dj h e => by
    obtain ⟨q, vs, e1, e2, _⟩ := r.slots j _ h
    rw [e] at e1
    cases e1
    rw [hp] at e2; cases e2
theorem SatN.put {Q : VK} {ds : List D} {vs : List V} {p : Addr} (h : SatN K mg W B ρ F σ Q (.ok ds γ ω)) (r : Rep K B ρ F γ ω σ H) (hp : H p = none) (rs : Rps K ρ F ds vs) : Q (.ref p) (upd H p (.lst vs)) :=
  h p vs ρ F _ (r.grow (Grow.add r.wd.sub hp)) (List.prefix_refl _) (Same.refl _) upd_same rs (r.lone hp)
theorem SatN.later {ρ' : List Addr} {F' : Hp} {Q : VK} {r : Res (List D)} (hp : ρ <+: ρ') (hs : Same F F') (h : SatN K mg W B ρ F σ Q r) : SatN K mg W B ρ' F' σ Q r := by
  cases r with
  | ok d γ ω => exact fun p vs ρ2 F2 H2 r pp s a b c => h p vs ρ2 F2 H2 r (hp.trans pp) (hs.trans s) a b c
  | exc e γ ω => exact fun C dd ρ2 F2 H2 r p s q => h C dd ρ2 F2 H2 r (hp.trans p) (hs.trans s) q
  | bad => exact h
theorem SatN.bind {α β : Type} [Den α β] {Q : β → Hp → Prop} {Q' : VK} {m : Res α} {k : α → M (List D)} (h : SatN K mg W B ρ F σ Q' (m.bind k))
    (go : ∀ d v γ1 ω1 ρ1 F1 H1, Rep K B ρ1 F1 γ1 ω1 σ H1 → ρ <+: ρ1 → Same F F1 → Den.rel K ρ1 F1 d v → SatN K mg W B ρ1 F1 σ Q' (k d γ1 ω1) → Q v H1) : Sat K mg W B ρ F σ Q m := by
  cases m with
  | ok d γ ω => exact fun v ρ1 F1 H1 r p s q => go d v γ ω ρ1 F1 H1 r p s q (h.later p s)
  | exc e γ ω => exact h
  | bad => exact h
/-- a list of the heap that nothing points at is frozen -/
theorem Rep.ice {p : Addr} {o : HO} (r : Rep K B ρ F γ ω σ H) (hp : H p = some o) (l : Lone K B ρ F γ σ H p) : Same F (upd F p o) ∧ Rep K B ρ (upd F p o) γ ω σ H := by
  have ff : Same F (upd F p o) := fun x u q => by rw [upd_ne (ne_of_none q l.f)]; exact q
  refine ⟨ff, ⟨?_, r.len, fun j sd hj => ?_, r.apart⟩⟩
  · exact { sub := fun x u q => by
              by_cases hx : x = p
              · subst hx; rw [upd_same] at q; cases q; exact hp
              · rw [upd_ne hx] at q; exact r.wd.sub x u q
            old := r.wd.old
            pre := r.wd.pre
            fsub := r.wd.fsub.trans ff
            fnew := fun x u q => by
              by_cases hx : x = p
              · subst hx; exact .inr l.h0
              · rw [upd_ne hx] at q; exact r.wd.fnew x u q
            nd := r.wd.nd
            nof := fun a ha => by
              have ne : a ≠ p := fun z => by subst z; exact l.n ha
              rw [upd_ne ne]; exact r.wd.nof a ha
            len := r.wd.len
            obs := fun j a u h1 h2 => (r.wd.obs j a u h1 h2).mono (List.prefix_refl _) ff rfl }
  · have q := r.slots j sd hj
    cases sd with
    | no => trivial
    | dat d => obtain ⟨v, e1, e2⟩ := q; exact ⟨v, e1, e2.mono (List.prefix_refl _) ff⟩
    | own es =>
      obtain ⟨p', vs', e', hp', rs2, f', np', h0'⟩ := q
      have ne : p' ≠ p := fun z => by
        subst z
        exact l.ow j es hj e'
      exact ⟨p', vs', e', hp', rs2.mono (List.prefix_refl _) ff, by rw [upd_ne ne]; exact f', np', h0'⟩
    | exn e => exact q
end
def fLst (f : M (List D)) : EF := f.bind fun ds => M.pure (.lst ds)
section
variable {X : Cx} {W : WX}
theorem fLst_use {K : PySem.W.Frag} {mg : Str → Option Value} {f : M (List D)} {σ : L2.St} {H : Hp} {Q : VK} (h : dX K mg W (fLst f) σ H Q) : dN K mg W f σ H Q := by
  obtain ⟨B, ρ, F, γ, ω, rp, q⟩ := h
  refine ⟨B, ρ, F, γ, ω, rp, ?_⟩
  have q' : Sat (α := D) K mg W B ρ F σ Q ((f γ ω).bind fun ds => M.pure (D.lst ds)) := q
  cases hm : f γ ω with
  | bad => rw [hm] at q'; exact q'
  | exc e γ1 ω1 => rw [hm] at q'; exact q'
  | ok ds γ1 ω1 =>
    rw [hm] at q'
    intro p vs ρ' F' H' r pp s hp rs l
    obtain ⟨ff, r'⟩ := r.ice hp l
    exact q' (.ref p) ρ' _ H' r' pp (s.trans ff) (rp_lst upd_same (rs.mono (List.prefix_refl _) ff))
theorem de_new {e : Expr} {f : M (List D)} (h : DN X W e f) : DE X W e (fLst f) := h.imp fun _ _ _ q => fLst_use q
/-- a display as a new list -/
def nLst (f : M (List D)) : M (List D) := f.bind fun ds => if sized ds = true then M.pure ds else M.bad
theorem dn_lst {es : List Expr} {pos : Pos} {f : M (List D)} (h : DA X W es f) : DN X W (.List es pos) (nLst f) :=
  (pe_lst h).imp fun σ H Q ⟨B, ρ, F, γ, ω, rp, q⟩ => ⟨B, ρ, F, γ, ω, rp, SatN.bind q fun ds vs γ1 ω1 ρ1 F1 H1 r1 p1 s1 q1 q => by
    by_cases hz : sized ds = true
    · rw [if_pos hz] at q
      exact ⟨sized_line hz q1, fun p hp => q.put r1 hp q1⟩
    · rw [if_neg hz] at q; exact q.elim⟩
/-- built-ins that give a new list -/
abbrev ON := List OB → List D → Option (List D)
def nCall (op : ON) (f : M (List D)) : M (List D) := f.bind fun ds γ ω => M.of (op ω ds) γ ω
def OpCN (K : PySem.W.Frag) (r : List V → Hp → VK → Prop) (op : ON) : Prop := ∀ (B : Bs) (ρ : List Addr) (F H : Hp) (ω : List OB) (ds c : List D) (vs : List V) (Q : VK), Wd K B ρ F ω H → Rps K ρ F ds vs → op ω ds = some c →
  (∀ p us, H p = none → Rps K ρ F c us → Q (.ref p) (upd H p (.lst us))) → r vs H Q
theorem nc_use {K : PySem.W.Frag} {mg : Str → Option Value} {f : M (List D)} {op : ON} {r : List V → Hp → VK → Prop} (ho : OpCN K r op) {σ : L2.St} {H : Hp} {Q : VK} (h : dN K mg W (nCall op f) σ H Q) :
    dX K mg W f σ H fun xs H1 => r xs H1 Q := by
  obtain ⟨B, ρ, F, γ, ω, rp, q⟩ := h
  refine ⟨B, ρ, F, γ, ω, rp, SatN.bind q fun dx x γ1 ω1 ρ1 F1 H1 r1 p1 s1 q1 q => ?_⟩
  cases e : op ω1 dx with
  | none => rw [e] at q; exact q.elim
  | some c =>
    rw [e] at q
    exact ho B ρ1 F1 H1 ω1 dx c x Q r1.wd q1 e fun p us hp rs => q.put r1 hp rs
theorem dn_callB {x : Str} {id : String} {p pos : Pos} {e : Expr} {es : List Expr} {f : M (List D)} {op : ON} {r : List V → Hp → VK → Prop} (hc : CallR X (.builtin id) r) (ho : OpCN X.K r op) (hg : Gl X x) (hm : X.mg x = none) (hv : bootBuiltins x = some (.builtin id)) (ha : DA X W (e :: es) f) (hn : x ≠ "__name__" := by decide) (hdb : (x == ("__debug__" : Str)) = false := by decide)
    (he : starEach (e :: es) X.env = (false, eval e X.env) :: starEach es X.env := by rfl) (hpl : (backTo pos (starEach es X.env)).any (·.1) = false := by rfl) : DN X W (.Call (.Name x p) (e :: es) [] pos) (nCall op f) :=
  (pe_callB hc hg hm hv ha hn hdb he hpl).imp fun _ _ _ h => nc_use ho h
theorem dn_callTy {x : Str} {T : String} {p pos : Pos} {e : Expr} {es : List Expr} {f : M (List D)} {op : ON} {r : List V → Hp → VK → Prop} (hc : CallR X (.type T) r) (ho : OpCN X.K r op) (hg : Gl X x) (hm : X.mg x = none) (hv : bootBuiltins x = some (.type T)) (ha : DA X W (e :: es) f) (hn : x ≠ "__name__" := by decide) (hdb : (x == ("__debug__" : Str)) = false := by decide)
    (he : starEach (e :: es) X.env = (false, eval e X.env) :: starEach es X.env := by rfl) (hpl : (backTo pos (starEach es X.env)).any (·.1) = false := by rfl) : DN X W (.Call (.Name x p) (e :: es) [] pos) (nCall op f) :=
  (pe_callTy hc hg hm hv ha hn hdb he hpl).imp fun _ _ _ h => nc_use ho h
/-- name = a new list, its own from now on -/
def sOwn (i : Nat) (f : M (List D)) : M Fl := f.bind fun ds γ ω => .ok .nx (γ.set i (.own ds)) ω
theorem Rep.setOwn {K : PySem.W.Frag} {B : Bs} {ρ : List Addr} {F : Hp} {γ : List SD} {ω : List OB} {σ : L2.St} {H : Hp} {p : Addr} {vs : List V} {ds : List D} (r : Rep K B ρ F γ ω σ H) (hp : H p = some (.lst vs)) (rs : Rps K ρ F ds vs) (l : Lone K B ρ F γ σ H p) (i : Nat) :
    Rep K B ρ F (γ.set i (.own ds)) ω (σ.set i (some (.ref p))) H := by
  refine ⟨r.wd, by simpa using r.len, fun j sd hj => ?_, fun j k dj dk q h1 h2 h3 h4 => ?_⟩
  · by_cases e : j = i
    · subst e
      have hi : j < γ.length := by simpa using (List.getElem?_eq_some_iff.mp hj).1
      rw [List.getElem?_set_self hi] at hj
      cases hj
      exact ⟨p, vs, by rw [List.getElem?_set_self (by rw [← r.len]; exact hi)], hp, rs, l.f, l.n, l.h0⟩
    · rw [List.getElem?_set_ne (Ne.symm e)] at hj
      rw [List.getElem?_set_ne (Ne.symm e)]
      exact r.slots j sd hj
  · have hlen : γ.length = σ.length := r.len
    by_cases e1 : j = i
    · by_cases e2 : k = i
      · rw [e1, e2]
      · subst e1
        have hi : j < γ.length := by simpa using (List.getElem?_eq_some_iff.mp h1).1
        rw [List.getElem?_set_self (by rw [← hlen]; exact hi)] at h3
        cases h3
        rw [List.getElem?_set_ne (Ne.symm e2)] at h2 h4
        exact absurd h4 (l.ow k dk h2)
    · by_cases e2 : k = i
      · subst e2
        have hi : k < γ.length := by simpa using (List.getElem?_eq_some_iff.mp h2).1
        rw [List.getElem?_set_self (by rw [← hlen]; exact hi)] at h4
        cases h4
        rw [List.getElem?_set_ne (Ne.symm e1)] at h1 h3
        exact absurd h3 (l.ow j dj h1)
      · rw [List.getElem?_set_ne (Ne.symm e1)] at h1 h3
        rw [List.getElem?_set_ne (Ne.symm e2)] at h2 h4
        exact r.apart j k dj dk q h1 h2 h3 h4
theorem own_use {K : PySem.W.Frag} {mg : Str → Option Value} {f : M (List D)} {σ : L2.St} {H : Hp} {E : Ends} {i : Nat} (h : dS K mg W (sOwn i f) E σ H) : dN K mg W f σ H fun x H1 => gName i x σ H1 E.nx := by
  obtain ⟨B, ρ, F, γ, ω, rp, q⟩ := h
  refine ⟨B, ρ, F, γ, ω, rp, ?_⟩
  have q' : SatS K mg W B ρ F E ((f γ ω).bind fun ds γ ω => .ok .nx (γ.set i (.own ds)) ω) := q
  cases hm : f γ ω with
  | bad => rw [hm] at q'; exact q'
  | exc e γ1 ω1 => rw [hm] at q'; exact fun C dd ρ1 F1 H1 r p s k => q' C dd σ ρ1 F1 H1 r p s k
  | ok ds γ1 ω1 =>
    rw [hm] at q'
    intro p vs ρ' F' H' r pp s hp rs l
    exact q' _ ρ' F' H' (r.setOwn hp rs l i) pp s
theorem ds_own {i : Nat} {x : Str} {e : Expr} {f : M (List D)} {pos pos' : Pos} (hN : X.N.Nodup) (hi : X.N[i]? = some x) (hx : Loc X.env.scope x) (he : DN X W e f) (hs : swapsWith e (some (.Name x pos')) pos.line X.env = pure false := by rfl) (hf : X.fn x = true ∨ X.env.scope.names.lookup x = some .local := by first | exact .inl rfl | exact .inr rfl | assumption) :
    DS X W (.Assign [.Name x pos'] e pos) (sOwn i f) :=
  (ps_set hN hi hx he hs hf).imp fun _ _ _ h => own_use h
/-- a new list as a shared object -/
def eAlloc (f : M (List D)) : EF := f.bind fun ds γ ω => .ok (.obj ω.length) γ (ω ++ [.lst ds])
theorem Rep.alloc {K : PySem.W.Frag} {B : Bs} {ρ : List Addr} {F : Hp} {γ : List SD} {ω : List OB} {σ : L2.St} {H : Hp} {p : Addr} {o : OB} (r : Rep K B ρ F γ ω σ H) (hp : ObAt K ρ F H p o) (l : Lone K B ρ F γ σ H p) :
    Rep K B (ρ ++ [p]) F γ (ω ++ [o]) σ H := by
  have pp : ρ <+: ρ ++ [p] := List.prefix_append _ _
  refine ⟨?_, r.len, fun j sd hj => ?_, r.apart⟩
  · exact { sub := r.wd.sub
            old := r.wd.old
            pre := by
              obtain ⟨m, e, h⟩ := r.wd.pre
              refine ⟨m ++ [p], by rw [e, List.append_assoc], fun a ha => ?_⟩
              rcases List.mem_append.mp ha with z | z
              · exact h a z
              · have e' : a = p := by simpa using z
                subst e'
                exact l.h0
            fsub := r.wd.fsub
            fnew := r.wd.fnew
            nd := by
              rw [List.nodup_append]
              exact ⟨r.wd.nd, by simp, fun a ha b hb => by
                have e' : b = p := by simpa using hb
                subst e'
                intro z
                subst z
                exact l.n ha⟩
            nof := fun a ha => by
              rcases List.mem_append.mp ha with z | z
              · exact r.wd.nof a z
              · have e' : a = p := by simpa using z
                subst e'
                exact l.f
            len := by simp [r.wd.len]
            obs := fun j a u h1 h2 => by
              by_cases hj : j < ρ.length
              · rw [List.getElem?_append_left hj] at h1
                rw [List.getElem?_append_left (by rw [← r.wd.len]; exact hj)] at h2
                exact (r.wd.obs j a u h1 h2).mono pp (Same.refl _) rfl
              · have hl := (List.getElem?_eq_some_iff.mp h1).1
                rw [List.length_append, List.length_singleton] at hl
                have e : j = ρ.length := by omega
                subst e
                rw [List.getElem?_concat_length] at h1
                cases h1
                rw [r.wd.len, List.getElem?_concat_length] at h2
                cases h2
                exact hp.mono pp (Same.refl _) rfl }
  · have q := r.slots j sd hj
    cases sd with
    | no => trivial
    | dat d => obtain ⟨v, e1, e2⟩ := q; exact ⟨v, e1, e2.mono pp (Same.refl _)⟩
    | own es =>
      obtain ⟨p', vs', e', hp', rs2, f', np', h0'⟩ := q
      refine ⟨p', vs', e', hp', rs2.mono pp (Same.refl _), f', fun z => ?_, h0'⟩
      rcases List.mem_append.mp z with z | z
      · exact np' z
      · have e2 : p' = p := by simpa using z
        subst e2
        exact l.ow j es hj e'
    | exn e => exact q
theorem alloc_use {K : PySem.W.Frag} {mg : Str → Option Value} {f : M (List D)} {σ : L2.St} {H : Hp} {Q : VK} (h : dX K mg W (eAlloc f) σ H Q) : dN K mg W f σ H Q := by
  obtain ⟨B, ρ, F, γ, ω, rp, q⟩ := h
  refine ⟨B, ρ, F, γ, ω, rp, ?_⟩
  have q' : Sat (α := D) K mg W B ρ F σ Q ((f γ ω).bind fun ds γ ω => .ok (D.obj ω.length) γ (ω ++ [OB.lst ds])) := q
  cases hm : f γ ω with
  | bad => rw [hm] at q'; exact q'
  | exc e γ1 ω1 => rw [hm] at q'; exact q'
  | ok ds γ1 ω1 =>
    rw [hm] at q'
    intro p vs ρ' F' H' r pp s hp rs l
    have r' := r.alloc (o := .lst ds) ⟨vs, hp, rs⟩ l
    exact q' (.ref p) (ρ' ++ [p]) F' H' r' (pp.trans (List.prefix_append _ _)) s (rp_obj (by rw [← r.wd.len, List.getElem?_concat_length]))
theorem de_alloc {e : Expr} {f : M (List D)} (h : DN X W e f) : DE X W e (eAlloc f) := h.imp fun _ _ _ q => alloc_use q

/-! ### a list comprehension -/
def lcL (t : Tg) (vs : List Nat) (tt : M Bool) (te : EF) : List D → List D → M (List D)
  | [], acc, γ, ω => .ok acc γ ω
  | d :: r, acc, γ, ω => match t.set d (wipeD γ vs) with
    | none => .bad
    | some γ1 => match tt γ1 ω with
      | .ok true γ2 ω2 => (match te γ2 ω2 with
        | .ok y γ3 ω3 => if acc.length < 1000000 then lcL t vs tt te r (acc ++ [y]) (wipeD γ3 vs) ω3 else .bad
        | _ => .bad)
      | .ok false γ2 ω2 => lcL t vs tt te r acc (wipeD γ2 vs) ω2
      | _ => .bad
def nLc (t : Tg) (vs : List Nat) (it : M (List D)) (tt : M Bool) (te : EF) : M (List D) := it.bind fun ds γ ω => lcL t vs tt te ds [] (wipeD γ vs) ω
abbrev W0 : WX := fun _ _ _ _ => False
def Bs.guard (B : Bs) (p : Addr) (o : HO) : Bs := { B with H0 := upd B.H0 p o }
section
variable {K : PySem.W.Frag} {B : Bs} {ρ : List Addr} {F : Hp} {γ : List SD} {ω : List OB} {σ : L2.St} {H : Hp}
theorem Rep.guard {p : Addr} {o : HO} (r : Rep K B ρ F γ ω σ H) (hp : H p = some o) (l : Lone K B ρ F γ σ H p) : Rep K (B.guard p o) ρ F γ ω σ H := by
  refine ⟨?_, r.len, fun j sd hj => ?_, r.apart⟩
  · exact { sub := r.wd.sub
            old := fun x u q hx => by
              by_cases e : x = p
              · subst e
                have q' : upd B.H0 x o x = some u := q
                rw [upd_same] at q'; cases q'; exact hp
              · have q' : upd B.H0 p o x = some u := q
                rw [upd_ne e] at q'
                exact r.wd.old x u q' hx
            pre := by
              obtain ⟨m, e, h⟩ := r.wd.pre
              refine ⟨m, e, fun a ha => ?_⟩
              have ne : a ≠ p := fun z => by subst z; exact l.n (by rw [e]; exact List.mem_append_right _ ha)
              show upd B.H0 p o a = none
              rw [upd_ne ne]; exact h a ha
            fsub := r.wd.fsub
            fnew := fun x u q => by
              rcases r.wd.fnew x u q with z | z
              · exact .inl z
              · have ne : x ≠ p := fun y => by subst y; rw [l.f] at q; cases q
                refine .inr ?_
                show upd B.H0 p o x = none
                rw [upd_ne ne]; exact z
            nd := r.wd.nd
            nof := r.wd.nof
            len := r.wd.len
            obs := r.wd.obs }
  · have q := r.slots j sd hj
    cases sd with
    | no => trivial
    | dat d => exact q
    | own es =>
      obtain ⟨p', vs', e', hp', rs2, f', np', h0'⟩ := q
      refine ⟨p', vs', e', hp', rs2, f', np', ?_⟩
      have ne : p' ≠ p := fun z => by
        subst z
        exact l.ow j es hj e'
      show upd B.H0 p o p' = none
      rw [upd_ne ne]; exact h0'
    | exn e => exact q
theorem Rep.unguard {p : Addr} {o : HO} (r : Rep K (B.guard p o) ρ F γ ω σ H) (h0 : B.H0 p = none) (hρ : p ∉ B.ρ0) (hF : B.F0 p = none) : Rep K B ρ F γ ω σ H ∧ H p = some o ∧ Lone K B ρ F γ σ H p := by
  have hpp : (B.guard p o).H0 p = some o := upd_same
  have low : ∀ x, (B.guard p o).H0 x = none → x ≠ p ∧ B.H0 x = none := fun x e => by
    have ne : x ≠ p := fun z => by
      subst z
      rw [hpp] at e; cases e
    have e' : upd B.H0 p o x = none := e
    rw [upd_ne ne] at e'
    exact ⟨ne, e'⟩
  have hH : H p = some o := r.wd.old p o hpp hρ
  have own_ne : ∀ (j : Nat) (es : List D) (p' : Addr), γ[j]? = some (.own es) → σ[j]? = some (some (.ref p')) → p' ≠ p ∧ B.H0 p' = none := fun j es p' hj e => by
    obtain ⟨q, vs', e', hp', rs2, f', np', h0'⟩ := r.slots j _ hj
    rw [e] at e'
    cases e'
    exact low p' h0'
  refine ⟨⟨?_, r.len, fun j sd hj => ?_, r.apart⟩, hH, ?_⟩
  · exact { sub := r.wd.sub
            old := fun x u q hx => by
              have ne : x ≠ p := fun z => by subst z; rw [h0] at q; cases q
              refine r.wd.old x u ?_ hx
              show upd B.H0 p o x = some u
              rw [upd_ne ne]; exact q
            pre := by
              obtain ⟨m, e, h⟩ := r.wd.pre
              exact ⟨m, e, fun a ha => (low a (h a ha)).2⟩
            fsub := r.wd.fsub
            fnew := fun x u q => by
              rcases r.wd.fnew x u q with z | z
              · exact .inl z
              · exact .inr (low x z).2
            nd := r.wd.nd
            nof := r.wd.nof
            len := r.wd.len
            obs := r.wd.obs }
  · have q := r.slots j sd hj
    cases sd with
    | no => trivial
    | dat d => exact q
    | own es =>
      obtain ⟨p', vs', e', hp', rs2, f', np', h0'⟩ := q
      exact ⟨p', vs', e', hp', rs2, f', np', (low p' h0').2⟩
    | exn e => exact q
  · refine ⟨?_, ?_, h0, fun j dj hj e => (own_ne j dj p hj e).1 rfl⟩
    · cases q : F p with
      | none => rfl
      | some u =>
        rcases r.wd.fnew p u q with z | z
        · have z' : B.F0 p = some u := z
          rw [hF] at z'; cases z'
        · exact absurd rfl (low p z).1
    · obtain ⟨m, e, h⟩ := r.wd.pre
      rw [e]
      intro hm
      rcases List.mem_append.mp hm with z | z
      · exact hρ z
      · exact absurd rfl (low p (h p z)).1
/-- a list that nothing points at grows -/
theorem Rep.more {p : Addr} {o u : HO} (r : Rep K B ρ F γ ω σ H) (hp : H p = some o) (l : Lone K B ρ F γ σ H p) : Rep K B ρ F γ ω σ (upd H p u) ∧ Lone K B ρ F γ σ (upd H p u) p := by
  have ne : ∀ x, x ≠ p → upd H p u x = H x := fun x h => upd_ne h
  refine ⟨⟨?_, r.len, fun j sd hj => ?_, r.apart⟩, ⟨l.f, l.n, l.h0, l.ow⟩⟩
  · exact { sub := fun x v q => by
              have n : x ≠ p := fun z => by subst z; rw [l.f] at q; cases q
              rw [ne x n]; exact r.wd.sub x v q
            old := fun x v q hx => by
              have n : x ≠ p := fun z => by subst z; rw [l.h0] at q; cases q
              rw [ne x n]; exact r.wd.old x v q hx
            pre := r.wd.pre
            fsub := r.wd.fsub
            fnew := r.wd.fnew
            nd := r.wd.nd
            nof := r.wd.nof
            len := r.wd.len
            obs := fun j a v h1 h2 => by
              have n : a ≠ p := fun z => by subst z; exact l.n (List.mem_of_getElem? h1)
              exact (r.wd.obs j a v h1 h2).mono (List.prefix_refl _) (Same.refl _) (ne a n) }
  · have q := r.slots j sd hj
    cases sd with
    | no => trivial
    | dat d => exact q
    | own es =>
      obtain ⟨p', vs', e', hp', rs2, f', np', h0'⟩ := q
      have n : p' ≠ p := fun z => by
        subst z
        exact l.ow j es hj e'
      exact ⟨p', vs', e', by rw [ne p' n]; exact hp', rs2, f', np', h0'⟩
    | exn e => exact q
end
theorem Lone.wipe {K : PySem.W.Frag} {B : Bs} {ρ : List Addr} {F : Hp} {γ : List SD} {σ : L2.St} {H : Hp} {p : Addr} (l : Lone K B ρ F γ σ H p) (vs : List Nat) : Lone K B ρ F (wipeD γ vs) (L2.wipe σ vs) H p := by
  refine ⟨l.f, l.n, l.h0, fun j dj h e => ?_⟩
  rcases wipeD_get h with ⟨_, b⟩ | ⟨a, b⟩
  · cases b
  · exact l.ow j dj b (wipe_some e).1
theorem wipe_wipe {σ : L2.St} {ws : List Nat} : ∀ vs : List Nat, (∀ i ∈ vs, i ∈ ws) → L2.wipe (L2.wipe σ vs) ws = L2.wipe σ ws
  | [], _ => rfl
  | v :: l, h => by
    show L2.wipe ((L2.wipe σ l).set v none) ws = _
    rw [wipe_set_in (h v (List.mem_cons_self)), wipe_wipe l fun i hi => h i (List.mem_cons_of_mem _ hi)]
theorem lc_use {K : PySem.W.Frag} {mg : Str → Option Value} {it : M (List D)} {t : Tg} {vs : List Nat} {tt : M Bool} {te : EF} (hvs : ∀ i ∈ t.slots, i ∈ vs) {σ : L2.St} {H : Hp} {Q : VK} (h : dN K mg W (nLc t vs it tt te) σ H Q) :
    tLc (dI K mg W it) (gOf K t) (dX K mg W0 tt) (dX K mg W0 te) vs σ H Q := by
  obtain ⟨B, ρ, F, γ, ω, rp, q⟩ := h
  refine ⟨B, ρ, F, γ, ω, rp, ?_⟩
  have q' : SatN K mg W B ρ F σ Q ((it γ ω).bind fun ds γ ω => lcL t vs tt te ds [] (wipeD γ vs) ω) := q
  cases hm : it γ ω with
  | bad => rw [hm] at q'; exact q'
  | exc e γ1 ω1 => rw [hm] at q'; exact q'
  | ok ds γ1 ω1 =>
    rw [hm] at q'
    intro J ρ1 F1 H1 r1 p1 s1 w p hp
    have q0 : SatN K mg W B ρ1 F1 σ Q (lcL t vs tt te ds [] (wipeD γ1 vs) ω1) := SatN.later p1 s1 q'
    have r1w := r1.wipeD vs
    have lp : Lone K B ρ1 F1 (wipeD γ1 vs) σ (upd H1 p (.lst [])) p := r1w.lone hp
    have rs0 : Rep K B ρ1 F1 (wipeD γ1 vs) ω1 σ (upd H1 p (.lst [])) := r1w.grow (Grow.add r1.wd.sub hp)
    have hρ : p ∉ B.ρ0 := fun z => by
      obtain ⟨m, e, _⟩ := r1.wd.pre
      exact lp.n (by rw [e]; exact List.mem_append_left _ z)
    have hF : B.F0 p = none := r1.wd.fsub.free lp.f
    refine lc_it w.w (fun i H => ∃ γ ω ρ' F' acc us, Rep K B ρ' F' γ ω σ H ∧ ρ1 <+: ρ' ∧ Same F1 F' ∧ H p = some (.lst us) ∧ Rps K ρ' F' acc us ∧ Lone K B ρ' F' γ σ H p ∧ SatN K mg W B ρ' F' σ Q (lcL t vs tt te (ds.drop i) acc γ ω))
      ⟨_, _, ρ1, F1, [], [], rs0, List.prefix_refl _, Same.refl _, upd_same, Rps.nil, lp, q0⟩ (fun i H _ ⟨_, _, ρ', F', _, _, r, _, s, _⟩ => s.trans r.wd.sub) ?_ ?_
    · rintro i x H2 H3 hi ⟨γ2, ω2, ρ2, F2, acc, us, r2, p2, s2, hp2, rs2, l2, q2⟩ y
      obtain ⟨F3, d, gr, hd, rd⟩ := y F2 s2 r2.wd.sub
      have ed : ds.drop i = d :: ds.drop (i + 1) := by
        obtain ⟨hlt, e⟩ := List.getElem?_eq_some_iff.mp hd
        rw [List.drop_eq_getElem_cons hlt, e]
      rw [ed] at q2
      have r3 := (r2.wipe vs).grow gr
      have rd' : Rp K ρ2 F3 d x := rd.mono p2 (Same.refl _)
      have hp3 : H3 p = some (.lst us) := gr.hh _ _ hp2
      unfold lcL at q2
      cases et : t.set d (wipeD γ2 vs) with
      | none => rw [et] at q2; exact q2.elim
      | some γ3 =>
        rw [et] at q2
        have l3 : Lone K B ρ2 F3 (wipeD γ2 vs) (L2.wipe σ vs) H3 p := by
          have a := l2.wipe vs
          refine ⟨?_, a.n, a.h0, a.ow⟩
          cases q : F3 p with
          | none => rfl
          | some u =>
            rcases gr.new p u q with z | z
            · rw [l2.f] at z; cases z
            · rw [hp2] at z; cases z
        -- the guard stands while the target, the test, the element are walked
        have r3g := r3.guard hp3 l3
        refine tg_ok r3g rd' et fun σ4 r4 hw => ⟨(hw vs hvs).trans (wipe_wipe vs fun _ h => h), B.guard p (.lst us), ρ2, F3, γ3, ω2, r4, ?_⟩
        have q3 := SatN.later (List.prefix_refl _) gr.ff q2
        dsimp only at q3
        cases ett : tt γ3 ω2 with
        | bad => rw [ett] at q3; exact q3.elim
        | exc e γ5 ω5 => rw [ett] at q3; exact q3.elim
        | ok b γ5 ω5 =>
          rw [ett] at q3
          intro b' ρ5 F5 H5 r5 p5 s5 eb
          have eb' : b = b' := eb
          subst eb'
          have hww : L2.wipe σ4 vs = L2.wipe σ vs := (hw vs hvs).trans (wipe_wipe vs fun _ h => h)
          cases b with
          | false =>
            refine iteF ?_
            obtain ⟨r6, hp6, l6⟩ := r5.unguard l3.h0 hρ hF
            have r7 := r6.unwipe hww
            exact ⟨_, _, ρ5, F5, acc, us, r7, p2.trans p5, (s2.trans gr.ff).trans s5, hp6, rs2.mono p5 (gr.ff.trans s5), ⟨l6.f, l6.n, l6.h0, fun j dj h e => by
              rcases wipeD_get h with ⟨_, z⟩ | ⟨a, z⟩
              · cases z
              · exact l6.ow j dj z (by rw [wipe_get hww a]; exact e)⟩, SatN.later p5 s5 q3⟩
          | true =>
            refine iteT ⟨B.guard p (.lst us), ρ5, F5, γ5, ω5, r5, ?_⟩
            have q5 := SatN.later p5 s5 q3
            dsimp only at q5
            cases ete : te γ5 ω5 with
            | bad => rw [ete] at q5; exact q5.elim
            | exc e γ6 ω6 => rw [ete] at q5; exact q5.elim
            | ok y γ6 ω6 =>
              rw [ete] at q5
              dsimp only at q5
              intro yv ρ6 F6 H6 r6 p6 s6 ry
              obtain ⟨r7, hp7, l7⟩ := r6.unguard l3.h0 hρ hF
              by_cases hz : acc.length < 1000000
              · rw [if_pos hz] at q5
                refine ⟨us, hp7, by rw [← rs2.len, sizeLine_eq]; omega, ?_⟩
                have r8 := r7.unwipe hww
                have l8 : Lone K B ρ6 F6 (wipeD γ6 vs) σ H6 p := ⟨l7.f, l7.n, l7.h0, fun j dj h e => by
                  rcases wipeD_get h with ⟨_, z⟩ | ⟨a, z⟩
                  · cases z
                  · exact l7.ow j dj z (by rw [wipe_get hww a]; exact e)⟩
                obtain ⟨r9, l9⟩ := r8.more (u := .lst (us ++ [yv])) hp7 l8
                exact ⟨_, _, ρ6, F6, acc ++ [y], us ++ [yv], r9, (p2.trans p5).trans p6, ((s2.trans gr.ff).trans s5).trans s6, upd_same, (rs2.mono (p5.trans p6) ((gr.ff.trans s5).trans s6)).snoc ry, l9, SatN.later p6 s6 q5⟩
              · rw [if_neg hz] at q5; exact q5.elim
    · rintro H2 ⟨γ2, ω2, ρ2, F2, acc, us, r2, p2, s2, hp2, rs2, l2, q2⟩
      rw [List.drop_length] at q2
      exact q2 p us ρ2 F2 H2 r2 (List.prefix_refl _) (Same.refl _) hp2 rs2 l2
/-- the judgements within a comprehension's block -/
structure Blk (X : Cx) (scope : Scope) (tg : Expr) (ifs : List Expr) (elt : Expr) (t : Tg) (tt : M Bool) (te : EF) : Prop where
  g : ∀ (s : Shared) (H : Hp) (C : Addr) (cl : List (Str × Addr)) (fp : List Addr), PG (X.blk s H scope (compEnvC scope cl C X.env) fp) tg (gOf X.K t)
  i : ∀ (s : Shared) (H : Hp) (C : Addr) (cl : List (Str × Addr)) (fp : List Addr), PTs (X.blk s H scope (compEnvC scope cl C X.env) fp) ifs (dX X.K X.mg W0 tt)
  e : ∀ (s : Shared) (H : Hp) (C : Addr) (cl : List (Str × Addr)) (fp : List Addr), DE (X.blk s H scope (compEnvC scope cl C X.env) fp) W0 elt te
theorem dn_lc {elt tg iter : Expr} {ifs : List Expr} {scope : Scope} {own : List (Str × Nat)} {pos : Pos} {it : M (List D)} {t : Tg} {tt : M Bool} {te : EF} (hc : X.calm = true) (hN : X.N.Nodup) (hi : DI X W tg iter it) (ok : blkC X.N X.env.scope scope own = true) (b : Blk X scope tg ifs elt t tt te)
    (hvs : ∀ i ∈ t.slots, i ∈ own.map (·.2)) (hs : ∀ x, foldedSetIterable iter X.env x = pure x := by intro _; rfl) : DN X W (.ListComp elt [⟨tg, iter, ifs, 0⟩] scope pos) (nLc t (own.map (·.2)) it tt te) :=
  (pe_lc hc hN hi (blkOk_by ok) b.g b.i b.e hs).imp fun _ _ _ h => lc_use hvs h
theorem ds_ownLc {i : Nat} {y : Str} {py : Pos} {elt tg iter : Expr} {ifs : List Expr} {scope : Scope} {own : List (Str × Nat)} {pos spos : Pos} {it : M (List D)} {t : Tg} {tt : M Bool} {te : EF} (hc : X.calm = true) (hN : X.N.Nodup) (hy : X.N[i]? = some y) (hyl : X.env.scope.names.lookup y = some .local)
    (hsw : swapsWith (.ListComp elt [⟨tg, iter, ifs, 0⟩] scope pos) (some (.Name y py)) spos.line X.env = pure true) (hi : DI X W tg iter it) (ok : blkC X.N X.env.scope scope own = true) (b : Blk X scope tg ifs elt t tt te)
    (hvs : ∀ i ∈ t.slots, i ∈ own.map (·.2)) (hs : ∀ x, foldedSetIterable iter X.env x = pure x := by intro _; rfl) :
    DS X W (.Assign [.Name y py] (.ListComp elt [⟨tg, iter, ifs, 0⟩] scope pos) spos) (sOwn i (nLc t (own.map (·.2)) it tt te)) :=
  (ps_setLc hc hN hy hyl hsw hi (blkOk_by ok) b.g b.i b.e hs).imp fun E σ H h => lc_use hvs (own_use h)
theorem set_use {K : PySem.W.Frag} {mg : Str → Option Value} {f : EF} {σ : L2.St} {H : Hp} {E : Ends} {i : Nat} (h : dS K mg W (sSet i f) E σ H) : dX K mg W f σ H fun x H1 => gName i x σ H1 E.nx := by
  obtain ⟨B, ρ, F, γ, ω, rp, q⟩ := h
  exact ⟨B, ρ, F, γ, ω, rp, SatS.bind q fun d v γ1 ω1 ρ1 F1 H1 r1 p1 s1 q1 q => q _ ρ1 F1 H1 (r1.set q1 i) (List.prefix_refl _) (Same.refl _)⟩
theorem ds_setLc {i : Nat} {y : Str} {py : Pos} {elt tg iter : Expr} {ifs : List Expr} {scope : Scope} {own : List (Str × Nat)} {pos spos : Pos} {it : M (List D)} {t : Tg} {tt : M Bool} {te : EF} (hc : X.calm = true) (hN : X.N.Nodup) (hy : X.N[i]? = some y) (hyl : X.env.scope.names.lookup y = some .local)
    (hsw : swapsWith (.ListComp elt [⟨tg, iter, ifs, 0⟩] scope pos) (some (.Name y py)) spos.line X.env = pure true) (hi : DI X W tg iter it) (ok : blkC X.N X.env.scope scope own = true) (b : Blk X scope tg ifs elt t tt te)
    (hvs : ∀ i ∈ t.slots, i ∈ own.map (·.2)) (hs : ∀ x, foldedSetIterable iter X.env x = pure x := by intro _; rfl) :
    DS X W (.Assign [.Name y py] (.ListComp elt [⟨tg, iter, ifs, 0⟩] scope pos) spos) (sSet i (fLst (nLc t (own.map (·.2)) it tt te))) :=
  (ps_setLc hc hN hy hyl hsw hi (blkOk_by ok) b.g b.i b.e hs).imp fun E σ H h => lc_use hvs (fLst_use (set_use h))
theorem dts_nil : PTs X [] (dX X.K X.mg W (M.pure true)) := ⟨fun pins s σ H Q I ⟨B, ρ, F, γ, ω, rp, q⟩ => pts_nil.run pins s σ H Q I (q.here rp rfl)⟩
theorem dts_one {c : Expr} {t : M Bool} (h : DT X W c t) : PTs X [c] (dX X.K X.mg W t) := pts_one h
end
end DL

set_option Elab.async false
set_option linter.all false
set_option maxRecDepth 100000
noncomputable section
namespace DL
open PySem PySem.Spec PyProof.Rows L2

/-! ### functions -/
abbrev Fn := List D → List OB → Res D
def fin : Res Fl → Res D
  | .ok (.rt d) _ ω => .ok d [] ω
  | .ok .nx _ ω => .ok .non [] ω
  | .exc e _ ω => .exc e [] ω
  | _ => .bad
def startD (n : Nat) (ds : List D) : List SD := ds.map SD.dat ++ List.replicate (n - ds.length) SD.no
def SatF (K : PySem.W.Frag) (mg : Str → Option Value) (B : Bs) (Q : VK) (E : XK) : Res D → Prop
  | .ok d _ ω => ∀ v ρ F H, Wd K B ρ F ω H → Rp K ρ F d v → Q v H
  | .exc e _ ω => ∀ C dd ρ F H, Wd K B ρ F ω H → ExAt K mg ρ F H e C dd → E C dd H
  | .bad => False
/-- THE PROMISE of a def of n parameters that means f -/
def spF (K : PySem.W.Frag) (mg : Str → Option Value) (n : Nat) (f : Fn) : Sp := fun vs H Q E => ∃ ρ F ds ω, ds.length = n ∧ Wd K ⟨H, ρ, F⟩ ρ F ω H ∧ Rps K ρ F ds vs ∧ SatF K mg ⟨H, ρ, F⟩ Q E (f ds ω)
theorem spF_imp {K : PySem.W.Frag} {mg : Str → Option Value} {n : Nat} {f g : Fn} (h : ∀ ds ω, ds.length = n → g ds ω = .bad ∨ g ds ω = f ds ω) : ∀ vs H Q E, spF K mg n g vs H Q E → spF K mg n f vs H Q E := by
  rintro vs H Q E ⟨ρ, F, ds, ω, l, w, rs, s⟩
  refine ⟨ρ, F, ds, ω, l, w, rs, ?_⟩
  rcases h ds ω l with e | e
  · rw [e] at s; exact s.elim
  · rw [← e]; exact s
section
variable {K : PySem.W.Frag} {mg : Str → Option Value} {W : WX} {B : Bs} {ρ : List Addr} {F : Hp} {γ : List SD} {ω : List OB} {σ : L2.St} {H : Hp}
theorem Wd.entry (w : Wd K B ρ F ω H) : Wd K ⟨H, ρ, F⟩ ρ F ω H :=
  ⟨w.sub, fun _ _ e _ => e, ⟨[], by simp, fun a h => by simp at h⟩, Same.refl _, fun _ _ e => .inl e, w.nd, w.nof, w.len, w.obs⟩
/-- behind a call -/
theorem Rep.called {ρ' : List Addr} {F' H' : Hp} {ω' : List OB} (r : Rep K B ρ F γ ω σ H) (w : Wd K ⟨H, ρ, F⟩ ρ' F' ω' H') : Rep K B ρ' F' γ ω' σ H' ∧ ρ <+: ρ' ∧ Same F F' := by
  obtain ⟨l, el, hl⟩ := w.pre
  have el' : ρ' = ρ ++ l := el
  have pp : ρ <+: ρ' := ⟨l, el'.symm⟩
  have ff : Same F F' := w.fsub
  refine ⟨⟨?_, r.len, fun j sd hj => ?_, r.apart⟩, pp, ff⟩
  · exact { sub := w.sub
            old := fun x o q hx => by
              have q1 := r.wd.old x o q hx
              refine w.old x o q1 fun z => ?_
              obtain ⟨m, e, h⟩ := r.wd.pre
              have z' : x ∈ ρ := z
              rw [e] at z'
              rcases List.mem_append.mp z' with y | y
              · exact hx y
              · rw [h x y] at q; cases q
            pre := by
              obtain ⟨m, e, h⟩ := r.wd.pre
              refine ⟨m ++ l, by rw [el', e, List.append_assoc], fun a ha => ?_⟩
              rcases List.mem_append.mp ha with z | z
              · exact h a z
              · exact r.wd.fresh0 (hl a z)
            fsub := r.wd.fsub.trans ff
            fnew := fun x o q => by
              rcases w.fnew x o q with z | z
              · exact r.wd.fnew x o z
              · exact .inr (r.wd.fresh0 z)
            nd := w.nd
            nof := w.nof
            len := w.len
            obs := w.obs }
  · have q := r.slots j sd hj
    cases sd with
    | no => trivial
    | dat d => obtain ⟨v, e1, e2⟩ := q; exact ⟨v, e1, e2.mono pp ff⟩
    | own es =>
      obtain ⟨p', vs', e', hp', rs2, f', np', h0'⟩ := q
      refine ⟨p', vs', e', w.old p' _ hp' np', rs2.mono pp ff, ?_, fun z => ?_, h0'⟩
      · cases q : F' p' with
        | none => rfl
        | some o =>
          rcases w.fnew p' o q with z | z
          · have z' : F p' = some o := z
            rw [f'] at z'; cases z'
          · have z' : H p' = none := z
            rw [z'] at hp'; cases hp'
      · rw [el'] at z
        rcases List.mem_append.mp z with y | y
        · exact np' y
        · have y' : H p' = none := hl p' y
          rw [y'] at hp'; cases hp'
    | exn e => exact q
/-- a call's meaning for its caller -/
def eFun (f : Fn) (a : M (List D)) : EF := a.bind fun ds γ ω => match f ds ω with
  | .ok d _ ω' => .ok d γ ω'
  | .exc e _ ω' => .exc e γ ω'
  | .bad => .bad
theorem sat_call {Q : VK} {f : Fn} {ds : List D} {vs : List V} (r : Rep K B ρ F γ ω σ H) (rs : Rps K ρ F ds vs) (n : Nat) (hn : f ds ω = .bad ∨ ds.length = n)
    (q : Sat (α := D) K mg W B ρ F σ Q (match f ds ω with | .ok d _ ω' => .ok d γ ω' | .exc e _ ω' => .exc e γ ω' | .bad => .bad)) : spF K mg n f vs H Q (WE W σ) := by
  cases e : f ds ω with
  | bad => rw [e] at q; exact q.elim
  | ok d γ' ω' =>
    rw [e] at q hn
    refine ⟨ρ, F, ds, ω, hn.resolve_left (fun z => by cases z), r.wd.entry, rs, ?_⟩
    rw [e]
    intro v ρ' F' H' w rv
    obtain ⟨r', pp, ff⟩ := r.called w
    exact q v ρ' F' H' r' pp ff rv
  | exc x γ' ω' =>
    rw [e] at q hn
    refine ⟨ρ, F, ds, ω, hn.resolve_left (fun z => by cases z), r.wd.entry, rs, ?_⟩
    rw [e]
    intro C dd ρ' F' H' w rv
    obtain ⟨r', pp, ff⟩ := r.called w
    exact q C dd ρ' F' H' r' pp ff rv
end
theorem spF_len {K : PySem.W.Frag} {mg : Str → Option Value} {n : Nat} {f : Fn} : ∀ vs H Q E, spF K mg n f vs H Q E → vs.length = n := by
  rintro vs H Q E ⟨ρ, F, ds, ω, l, w, rs, s⟩
  rw [← rs.len, l]
section
variable {P : Program} {w : World} {K : PySem.W.Frag} {mg : Str → Option Value} {base : Heap}
/-- a def's body and what it means -/
theorem fnD {x qual : Str} {st : Stmt} {f : Addr} {fd : FuncData} {N ps : List Str} {k n : Nat} {g : M Fl} (Fu : Fun K x qual st f fd) (S : FnScope N ps (defScope st)) (hn : ps.length = n)
    (hbody : ∀ (cdv : Value) (A : Around) (outer : List Env) (s : Shared) (H : Hp) (E : XK), Room k (A.deeper (envOfC qual (defScope st) s.heap.objs.size f cdv)) → ∀ X : Cx, X = cxOf (L2.CX P w) P w K mg base N qual (defScope st) f cdv A outer s H E →
      Takes X (fun cls d _ H => E cls d H) → PassesOwn (model X.prog X.w) X.A X.env X.xe → PSs X (defBody st) (dS K mg (fun cls d _ H => E cls d H) g)) :
    FnOk P w K mg base (L2.CX P w) (k + 1) f fd ps (spF K mg n fun ds ω => fin (g (startD N.length ds) ω)) := by
  subst hn
  refine Fu.okX S spF_len fun cdv A outer s H vs Q E hr hsp => ?_
  obtain ⟨ρ, F, ds, ω, l, wd, rs, q⟩ := hsp
  refine ⟨_, hbody cdv A outer s H E hr _ rfl (takes_of rfl rfl rfl rfl) (passes_of rfl), ?_⟩
  have hvl : vs.length = ps.length := by rw [← rs.len, l]
  have hNl : ps.length ≤ N.length := by
    have e := congrArg List.length S.pre
    rw [List.length_take] at e
    omega
  have rep : Rep K ⟨H, ρ, F⟩ ρ F (startD N.length ds) ω (L2.start N vs) H := by
    refine ⟨wd, ?_, fun i sd hi => ?_, fun i j di dj p h1 h2 _ _ => ?_⟩
    · unfold startD L2.start
      simp only [List.length_append, List.length_map, List.length_replicate]
      rw [l, hvl]
    · unfold startD at hi
      unfold L2.start
      by_cases hlt : i < ds.length
      · rw [List.getElem?_append_left (by simpa using hlt), List.getElem?_map] at hi
        have hlt' : i < vs.length := by rw [hvl, ← l]; exact hlt
        rw [List.getElem?_append_left (by simpa using hlt'), List.getElem?_map]
        cases e : ds[i]? with
        | none => rw [e] at hi; cases hi
        | some d =>
          rw [e] at hi
          cases hi
          obtain ⟨v, hv, rv⟩ := rs.get e
          exact ⟨v, by rw [hv]; rfl, rv⟩
      · rw [List.getElem?_append_right (by simpa using hlt), List.getElem?_replicate] at hi
        split at hi
        · cases hi; trivial
        · cases hi
    · unfold startD at h1
      by_cases hlt : i < ds.length
      · rw [List.getElem?_append_left (by simpa using hlt), List.getElem?_map] at h1
        cases e : ds[i]? with
        | none => rw [e] at h1; cases h1
        | some d => rw [e] at h1; cases h1
      · rw [List.getElem?_append_right (by simpa using hlt), List.getElem?_replicate] at h1
        split at h1 <;> cases h1
  refine ⟨⟨H, ρ, F⟩, ρ, F, _, ω, rep, ?_⟩
  dsimp only at q
  cases eg : g (startD N.length ds) ω with
  | bad => rw [eg] at q; exact q.elim
  | exc e γ' ω' =>
    rw [eg] at q
    exact fun C dd σ ρ' F' H' r _ _ ex => q C dd ρ' F' H' r.wd ex
  | ok fl γ' ω' =>
    rw [eg] at q
    cases fl with
    | nx => exact fun σ ρ' F' H' r _ _ => q .non ρ' F' H' r.wd rp_non
    | rt d => exact fun v σ ρ' F' H' r _ _ rv => q v ρ' F' H' r.wd rv
    | bk => exact q.elim
    | ct => exact q.elim
end
section
variable {X : Cx} {W : WX} {k n : Nat} {f : Addr} {fd : FuncData} {ps ks : List Str} {x : Str} {p pos : Pos} {e : Expr} {es : List Expr} {fa fk : M (List D)} {fn : Fn}
/-- what stands of a def at a name -/
structure Def (K : PySem.W.Frag) (mg : Str → Option Value) (x : Str) (f : Addr) (fd : FuncData) (ps : List Str) : Prop where
  g : mg x = some (.ref f)
  k : PySem.W.keepIn K (.ref f) = true
  b : Binds K fd ps []
theorem de_call (G : FnOk X.prog X.w X.K X.mg X.base (L2.CX X.prog X.w) k f fd ps (spF X.K X.mg n fn)) (T : Def X.K X.mg x f fd ps) (hr : Room k X.A) (hg : Gl X x) (tk : Takes X W) (ha : DA X W (e :: es) fa) (hl : ∀ γ ω ds γ' ω', fa γ ω = .ok ds γ' ω' → fn ds ω' = .bad ∨ ds.length = n)
    (hdb : (x == ("__debug__" : Str)) = false := by decide) (he : starEach (e :: es) X.env = (false, eval e X.env) :: starEach es X.env := by rfl) (hpl : (backTo pos (starEach es X.env)).any (·.1) = false := by rfl) : DE X W (.Call (.Name x p) (e :: es) [] pos) (eFun fn fa) := by
  refine (pe_callSD (E := WE W) G hr hg T.g T.k T.b .nil (fun σ => passAt tk σ) ha hdb he hpl).imp fun σ H Q ⟨B, ρ, F, γ, ω, rp, q⟩ => ⟨B, ρ, F, γ, ω, rp, ?_⟩
  have q' : Sat (α := D) X.K X.mg W B ρ F σ Q ((fa γ ω).bind fun ds γ ω => match fn ds ω with | .ok d _ ω' => .ok d γ ω' | .exc e _ ω' => .exc e γ ω' | .bad => .bad) := q
  cases em : fa γ ω with
  | bad => rw [em] at q'; exact q'
  | exc e γ1 ω1 => rw [em] at q'; exact q'
  | ok ds γ1 ω1 =>
    rw [em] at q'
    intro vs ρ1 F1 H1 r1 p1 s1 rs
    rw [List.append_nil]
    exact sat_call r1 rs n (hl γ ω ds γ1 ω1 em) (q'.later p1 s1)
end
/-- argument lists have a length -/
def Len (n : Nat) (f : M (List D)) : Prop := ∀ γ ω ds γ' ω', f γ ω = .ok ds γ' ω' → ds.length = n
theorem len_nil : Len 0 aNil := fun γ ω ds γ' ω' h => by
  have h' : Res.ok ([] : List D) γ ω = .ok ds γ' ω' := h
  cases h'; rfl
theorem len_cons {n : Nat} {f : EF} {g : M (List D)} (h : Len n g) : Len (n + 1) (aCons f g) := fun γ ω ds γ' ω' e => by
  have e' : (f γ ω).bind (fun x => g.bind fun xs => M.pure (x :: xs)) = .ok ds γ' ω' := e
  cases ef : f γ ω with
  | bad => rw [ef] at e'; cases e'
  | exc x a b => rw [ef] at e'; cases e'
  | ok d γ1 ω1 =>
    rw [ef] at e'
    have e2 : (g γ1 ω1).bind (fun xs => M.pure (d :: xs)) = .ok ds γ' ω' := e'
    cases eg : g γ1 ω1 with
    | bad => rw [eg] at e2; cases e2
    | exc x a b => rw [eg] at e2; cases e2
    | ok xs γ2 ω2 =>
      rw [eg] at e2
      have e3 : Res.ok (d :: xs) γ2 ω2 = .ok ds γ' ω' := e2
      cases e3
      simp [h γ1 ω1 xs _ _ eg]
theorem Len.for {n : Nat} {f : M (List D)} {fn : Fn} (h : Len n f) : ∀ γ ω ds γ' ω', f γ ω = .ok ds γ' ω' → fn ds ω' = .bad ∨ ds.length = n := fun γ ω ds γ' ω' e => .inr (h γ ω ds γ' ω' e)
end DL

set_option Elab.async false
set_option linter.all false
set_option maxRecDepth 100000
noncomputable section
namespace DL
open PySem PySem.Spec PyProof.Rows L2

/-! ### own errors are made and raised -/
/-- __init__(self, f): self.f = f -/
def spI (K : PySem.W.Frag) (f : Str) : Sp := fun vs H Q _ => ∃ a C v, vs = [.ref a, v] ∧ H a = some (exo a C none) ∧ OexC K C ∧ PySem.W.findIn K (.ref C) f = some none ∧
  ∀ dx, H dx = none → dx ≠ a → Q .non (upd (upd H dx (exd dx [(f, v)])) a (exo a C (some dx)))
theorem ok_init {P : Program} {w : World} {K : PySem.W.Frag} {mg : Str → Option Value} {base : Heap} {qual f : Str} {st : Stmt} {fI : Addr} {fd : FuncData} (Fu : Fun K "__init__" qual st fI fd) (S : FnScope ["self", f] ["self", f] (defScope st))
    (hb : ∃ p1 p2 p3 p4, defBody st = [.Assign [.Attribute (.Name "self" p1) f p2] (.Name f p3) p4]) (h1 : (f == ("__debug__" : Str)) = false) (h2 : (f == ("__classdict__" : Str)) = false)
    (hs : (defScope st).names.lookup ("self" : Str) = some NameKind.local) (hf : (defScope st).names.lookup f = some NameKind.local) : FnOk P w K mg base CX0 1 fI fd ["self", f] (spI K f) := by
  refine Fu.ok S (fun vs H Q E h => ?_) (fun cdv A outer s H vs Q E hr h => ?_)
  · obtain ⟨a, C, v, rfl, _⟩ := h
    rfl
  · obtain ⟨p1, p2, p3, p4, e⟩ := hb
    obtain ⟨a, C, v, rfl, ha, T, no, k⟩ := h
    refine ⟨tOst K f (tVar 0) (tVar 1), ?_, ?_⟩
    · rw [e]
      exact pss_one (ps_ost (pe_var rfl (.inl hs)) (pe_var rfl (.inl hf) h1 h2))
    · exact ⟨v, rfl, .ref a, rfl, a, C, rfl, T, no, .inl ⟨ha, k⟩⟩
/-- what stands of an error's class with one field -/
structure Err (P : Program) (w : World) (K : PySem.W.Frag) (mg : Str → Option Value) (base : Heap) (x f : Str) : Prop where
  ex : ∃ (C fI : Addr) (fd : FuncData), mg x = some (.ref C) ∧ OexC K C ∧ PySem.W.findIn K (.ref C) f = some none ∧ PySem.W.findIn K (.ref C) "__init__" = some (some (.ref fI)) ∧ PySem.W.typeIn K (.ref fI) = some (.type "function") ∧
    FnOk P w K mg base CX0 1 fI fd ["self", f] (spI K f) ∧ Binds K fd ["self", f] []
def sRaise (x f : Str) (a : M (List D)) : M Fl := a.bind fun ds γ ω => match ds with
  | [d] => .exc ⟨x, [(f, d)]⟩ γ ω
  | _ => .bad
theorem del_upd {H : Hp} {a dx : Addr} {o u v q : HO} (ha : H a = none) (hd : dx ≠ a) : upd (L2.del (upd (upd (upd H a o) dx u) a v) a) dx q = upd H dx q := by
  funext b
  by_cases h : b = dx
  · subst h; rw [upd_same, upd_same]
  · rw [upd_ne h, upd_ne h]
    by_cases h2 : b = a
    · subst h2; rw [del_same, ha]
    · rw [del_ne h2, upd_ne h2, upd_ne h, upd_ne h2]
section
variable {X : Cx} {W : WX}
theorem ds_raise {x f : Str} {e : Expr} {es : List Expr} {p pos pos2 : Pos} {fa : M (List D)} {k : Nat} (T : Err X.prog X.w X.K X.mg X.base x f) (hc : X.calm = true) (hr : Room k X.A) (hk : 2 ≤ k) (tk : Takes X W) (hg : Gl X x) (ha : DA X W (e :: es) fa) (hl : Len 1 fa)
    (hdb : (x == ("__debug__" : Str)) = false := by decide) (he : starEach (e :: es) X.env = (false, eval e X.env) :: starEach es X.env := by rfl) (hpl : (backTo pos (starEach es X.env)).any (·.1) = false := by rfl) :
    DS X W (.Raise (some (.Call (.Name x p) (e :: es) [] pos)) none pos2) (sRaise x f fa) := by
  obtain ⟨C, fI, fd, hm, T1, no, hi, ht, G, b⟩ := T.ex
  refine (ps_raise hc tk (pmk_oex T1 hi ht G (hr.mono hk) b .nil pass0 hg hm ha hdb he hpl)).imp fun E σ H ⟨B, ρ, F, γ, ω, rp, q⟩ => ⟨B, ρ, F, γ, ω, rp, ?_⟩
  have q' : SatS X.K X.mg W B ρ F E ((fa γ ω).bind fun ds γ ω => match ds with | [d] => .exc ⟨x, [(f, d)]⟩ γ ω | _ => .bad) := q
  cases em : fa γ ω with
  | bad => rw [em] at q'; exact q'
  | exc e γ1 ω1 => rw [em] at q'; exact fun C dd ρ1 F1 H1 r p s k => q' C dd σ ρ1 F1 H1 r p s k
  | ok ds γ1 ω1 =>
    rw [em] at q'
    intro vs ρ1 F1 H1 r1 p1 s1 rs
    have hds := hl γ ω ds γ1 ω1 em
    match ds, hds, q', rs with
    | [d], _, q', rs =>
      obtain ⟨v, rfl, rv⟩ := rps1 (show Rps X.K ρ1 F1 [d] vs from rs)
      refine ⟨Nat.le_trans (show [v].length ≤ 1 from Nat.le_refl 1) (by decide), fun a hna => ?_⟩
      refine ⟨a, C, v, rfl, upd_same, T1, no, fun dx hdx hne => ⟨rfl, dx, [(f, v)], upd_same, by rw [upd_ne hne, upd_same], ?_, ?_⟩⟩
      · rw [upd_ne hne] at hdx; exact hdx
      · have hdx' : H1 dx = none := by rw [upd_ne hne] at hdx; exact hdx
        rw [del_upd hna hne]
        have g : Grow F1 H1 (upd F1 dx (.xd [(f, v)])) (upd H1 dx (.xd [(f, v)])) := Grow.put r1.wd.sub hdx'
        exact q' (.ref C) (some dx) σ ρ1 _ _ (r1.grow g) p1 (s1.trans g.ff) ⟨hm, ⟨C, rfl⟩, .inr ⟨dx, [(f, v)], rfl, upd_same, v, [], rfl, Rp.mono (List.prefix_refl _) g.ff rv, rfl⟩⟩
end
end DL

set_option Elab.async false
set_option linter.all false
set_option maxRecDepth 100000
set_option maxHeartbeats 2000000
noncomputable section
namespace DL
open PySem PySem.Spec PyProof.Rows L2

/-! ### try: several clauses, each with a name or without -/
abbrev Suite := Addr → Value → Option Addr → TS
/-- a clause: the class, the slot of its name, its suite -/
abbrev Clause := Value × Option Nat × Suite
def unnamed (i : Nat) (D : Ends) : Ends := ⟨fun σ H => D.nx (σ.set i none) H, D.rt, fun σ H => D.bk (σ.set i none) H, fun σ H => D.ct (σ.set i none) H⟩
def clRun (D : Ends) (cls : Value) (d : Option Addr) (σ : L2.St) (H : Hp) (a : Addr) : Clause → Prop
  | (_, none, ts) => ts a cls d D σ H
  | (_, some i, ts) => ts a cls d (unnamed i D) (σ.set i (some (.ref a))) H
def wMix (K : PySem.W.Frag) (Wo : WX) (D : Ends) : List Clause → WX
  | [] => Wo
  | c :: r => fun cls d σ H => ∃ b, PySem.W.exmOne K cls c.1 = some b ∧ (b = true → ∀ a, H a = none → clRun D cls d σ H a c) ∧ (b = false → wMix K Wo D r cls d σ H)
def SuOk (X : Cx) (su : List Stmt) (ts : Suite) : Prop := ∀ (a : Addr) (oe : Obj) (cls : Value) (d : Option Addr) (pn : List (Addr × Obj)), Zc cls d oe → (∃ vs, oe.data = .fields vs) → PSs (X.suite a ((a, oe) :: pn)) su (ts a cls d)
inductive MixOk (X : Cx) : List ExceptHandler → List Clause → Prop
  | nil : MixOk X [] []
  | plain {x : Str} {c : Value} {ts : Suite} {b : Stmt} {su : List Stmt} {p q : Pos} {hs : List ExceptHandler} {l : List Clause} (n : Names X x c) (s : SuOk X (b :: su) ts) (r : MixOk X hs l) :
      MixOk X (.ExceptHandler (some (.Name x p)) none (b :: su) q :: hs) ((c, none, ts) :: l)
  | named {x y : Str} {i : Nat} {c : Value} {ts : Suite} {b : Stmt} {su : List Stmt} {p q : Pos} {hs : List ExceptHandler} {l : List Clause} (n : Names X x c) (hi : X.N[i]? = some y) (hl : X.env.kindOf y = some .local) (s : SuOk X (b :: su) ts) (r : MixOk X hs l) :
      MixOk X (.ExceptHandler (some (.Name x p)) (some y) (b :: su) q :: hs) ((c, some i, ts) :: l)
section
variable {X : Cx} {pins : List (Addr × Obj)} {σ : L2.St} {H : Hp} {sI s : Shared} {G : Heap} {a : Addr} {cls : Value} {d : Option Addr} {D : Ends} {Wo : WX}
/-- an error that lies on the ground, ahead of the clauses -/
structure Down (X : Cx) (pins : List (Addr × Obj)) (σ : L2.St) (H : Hp) (sI s : Shared) (G : Heap) (a : Addr) (cls : Value) (d : Option Addr) : Prop where
  st : X.stack = X.env :: X.outer
  fr : X.env.frame = some X.env.locals
  I : Inv X pins σ H sI
  nb : ∀ b o, sI.heap.get? b = some o → b ∉ frs X.stack → G.get? b = some o
  up : sI.heap.UpToSlots s.heap
  fl : HandSPX.FlyingZ G (X.env :: X.outer) a (Zc cls d) s.heap
  na : H a = none
  os : s.os = sI.os
  ag : AllBare s.gens
theorem Down.off (o : Down X pins σ H sI s G a cls d) : a ≠ X.env.locals ∧ a ∉ X.fs := by
  obtain ⟨oe, vs, he, _, hd⟩ := o.fl.there
  have key : a ∉ frs (X.env :: X.outer) := fun hm => by
    obtain ⟨_, o', e', hnf⟩ := o.fl.2.2.1.mem hm
    rw [he] at e'
    cases e'
    exact hnf _ hd
  constructor
  · exact fun z => key (List.mem_filterMap.mpr ⟨X.env, by simp, by rw [o.fr, z]⟩)
  · exact fun hm => by
      obtain ⟨e, h1, h2⟩ := List.mem_filterMap.mp hm
      exact key (List.mem_filterMap.mpr ⟨e, by simp [h1], h2⟩)
theorem Down.inv (o : Down X pins σ H sI s G a cls d) : Inv X pins σ H s := o.I.landed o.nb o.fl.1 o.up o.os o.ag
/-- the suite runs -/
theorem Down.suite (o : Down X pins σ H sI s G a cls d) {su : List Stmt} {ts : Suite} (hs : SuOk X su ts) {D' : Ends} {σ' : L2.St} (s' : Shared) {oe : Obj} {vs : Array Value} (hz : Zc cls d oe) (hd : oe.data = .fields vs)
    (S : Inv (X.suite a ((a, oe) :: (X.pn ++ pins))) [] σ' H s') (q : ts a cls d D' σ' H) {Q : Flow → Shared → Prop} {E : Value → Shared → Prop} (k : ∀ f s'', SP (X.suite a ((a, oe) :: (X.pn ++ pins))) [] D' f s'' → Q f s'') :
    wpAny (model X.prog X.w) (X.A.mark (some (.ref a))) (execs su X.env) Q E s' :=
  wpAny_mono ((hs a oe cls d (X.pn ++ pins) hz ⟨vs, hd⟩).run [] s' σ' H D' S q) k fun _ _ z => False.elim z
theorem Down.clauses (o : Down X pins σ H sI s G a cls d) (hN : X.N.Nodup) (tk : Takes X Wo) : ∀ {hs : List ExceptHandler} {l : List Clause}, MixOk X hs l → wMix X.K Wo D l cls d σ H →
    wpAny (model X.prog X.w) X.A (handleBy (.ref a) X.env hs) (SP X pins D) X.xe s := by
  obtain ⟨nL, nF⟩ := o.off
  have J := o.inv
  have hfl := o.fl
  obtain ⟨oe, vs, he, hz, hd⟩ := hfl.there
  have S0 := J.suite he hd o.na nL nF
  have LT : PySem.W.Looks (model X.prog X.w) s.heap (typeOf (.ref a)) cls := fun A Q E t k q =>
    wpAny_typeOf_ref (k _ _ he) (by rw [hz.1]; exact q)
  -- a clause's test
  have ask : ∀ {x : Str} {c : Value} {p : Pos} {b : Bool} {Q : Bool → Shared → Prop} {E : Value → Shared → Prop}, Names X x c → PySem.W.exmOne X.K cls c = some b → Q b s →
      wpAny (model X.prog X.w) (X.A.mark (some (.ref a))) (eval (.Name x p) X.env) (fun v t => wpAny (model X.prog X.w) (X.A.mark (some (.ref a))) (excMatches (.ref a) v) Q E t) E s := by
    intro x c p b Q E n e q
    have LM := PySem.W.exm_one (M := model X.prog X.w) S0.kIn LT e
    obtain ⟨hg, hdbg, hm | ⟨hm, hv, hnn⟩⟩ := n
    · exact ld_glob (X := X.suite a ((a, oe) :: (X.pn ++ pins))) S0 hg hm (LM.here q) hdbg
    · exact ld_blt (X := X.suite a ((a, oe) :: (X.pn ++ pins))) S0 hg hm hv (LM.here q) hnn hdbg
  intro hs l hk
  induction hk with
  | nil =>
    intro w
    refine wpAny_handleBy_nil ?_
    obtain ⟨_, _, _, oe', vs', T, oT, ts', he', _, hd', h1, _⟩ := id hfl
    unfold PySem.passOn
    refine wpAny_bind (wpAny_field he' hd' h1 ?_)
    rw [if_neg (by simp : ¬ ((Value.ref T == Value.none) = true))]
    have last : wpAny (model X.prog X.w) X.A (setFlight (.ref a) X.env.frame)
        (fun _ t => wpAny (model X.prog X.w) X.A (throw (.ref a) : Sem Flow) (SP X pins D) X.xe t) X.xe s := by
      rw [o.fr]
      refine HandSPX.setFlight_upZ hfl fun h4 hh up4 => wpAny_throw (tk _ _ ⟨a, G, sI, pins, σ, H, cls, d, rfl, o.I, o.nb, o.up.trans up4, ?_, o.na, o.os, o.ag, w⟩)
      rw [o.st]
      exact .inr (.inr hh)
    first
      | exact wpAny_bind (wpAny_pure (wpAny_bind last))
      | exact wpAny_bind last
  | @plain x c ts b su p q hs' l' n hsu r ih =>
    rintro ⟨k, e, yes, no⟩
    refine wpAny_handleBy_cons (codeAny_handlers_test (ask n e ?_)) (fun z => by cases z)
    cases k with
    | false =>
      show wpAny _ X.A (handleBy (.ref a) X.env hs') _ _ _
      exact ih (no rfl)
    | true =>
      refine codeAny_handlers_suite (HandSPX.lands_againZ hfl fun h4 fl4 up4 => ?_)
      have J4 : Inv X pins σ H { s with heap := h4 } := o.I.landed o.nb fl4.1 (o.up.trans up4) o.os o.ag
      obtain ⟨oe4, vs4, he4, hz4, hd4⟩ := fl4.there
      refine o.suite hsu _ hz4 hd4 (J4.suite he4 hd4 o.na nL nF) (yes rfl a o.na) fun f t sp => ?_
      cases f with
      | next => obtain ⟨σ6, H6, S6, q6⟩ := sp; exact ⟨σ6, H6, S6.unsuite o.I.ok, q6⟩
      | brk => obtain ⟨σ6, H6, S6, q6⟩ := sp; exact ⟨σ6, H6, S6.unsuite o.I.ok, q6⟩
      | cont => obtain ⟨σ6, H6, S6, q6⟩ := sp; exact ⟨σ6, H6, S6.unsuite o.I.ok, q6⟩
      | ret u => obtain ⟨v6, σ6, H6, S6, r6, q6⟩ := sp; exact ⟨v6, σ6, H6, S6.unsuite o.I.ok, r6, q6⟩
  | @named x y i c ts b su p q hs' l' n hi hln hsu r ih =>
    rintro ⟨k, e, yes, no⟩
    refine wpAny_handleBy_cons (codeAny_handlers_test (ask n e ?_)) (fun z => by cases z)
    cases k with
    | false =>
      show wpAny _ X.A (handleBy (.ref a) X.env hs') _ _ _
      exact ih (no rfl)
    | true =>
      refine codeAny_handlers_suite_as (HandSPX.lands_againZ hfl fun h4 fl4 up4 => ?_)
      have J4 : Inv X pins σ H { s with heap := h4 } := o.I.landed o.nb fl4.1 (o.up.trans up4) o.os o.ag
      obtain ⟨oe4, vs4, he4, hz4, hd4⟩ := fl4.there
      refine store_ok (X := X.suite a ((a, oe4) :: (X.pn ++ pins))) (v := V.ref a) (J4.suite he4 hd4 o.na nL nF) hN hi (.inl hln) rfl (fun s5 S5 => ?_) (.inr hln)
      refine o.suite hsu s5 hz4 hd4 S5 (yes rfl a o.na) fun f t sp => ?_
      have gone : ∀ {σ6 : L2.St} {H6 : Hp} {Q : Shared → Prop}, Inv (X.suite a ((a, oe4) :: (X.pn ++ pins))) [] σ6 H6 t → (∀ t', Inv X pins (σ6.set i none) H6 t' → Q t') →
          wpAny (model X.prog X.w) X.A (do bindName X.env y .none; unbindBehindTheSuite X.env y q) (fun _ t' => Q t') X.xe t :=
        fun S6 hq => gone_ok (S6.unsuite o.I.ok) hN hi hln hq
      cases f with
      | next => obtain ⟨σ6, H6, S6, q6⟩ := sp; exact gone S6 fun t' K => ⟨_, H6, K, q6⟩
      | brk => obtain ⟨σ6, H6, S6, q6⟩ := sp; exact gone S6 fun t' K => ⟨_, H6, K, q6⟩
      | cont => obtain ⟨σ6, H6, S6, q6⟩ := sp; exact gone S6 fun t' K => ⟨_, H6, K, q6⟩
      | ret u => obtain ⟨v6, σ6, H6, S6, r6, q6⟩ := sp; exact gone S6 fun t' K => ⟨v6, _, H6, K, r6, q6⟩
end
theorem ps_try_mix {X : Cx} {body : List Stmt} {h₀ : ExceptHandler} {hs : List ExceptHandler} {l : List Clause} {pos : Pos} {tb : WX → TS} {Wo : WX} (h1 : X.stack = X.env :: X.outer) (h2 : X.env.frame = some X.env.locals) (hN : X.N.Nodup) (tk : Takes X Wo)
    (hb : ∀ (W : WX) (pn : List (Addr × Obj)) (xe : Value → Shared → Prop), Takes (X.tr pn xe) W → PassesOwn (model X.prog X.w) X.A X.env xe → PSs (X.tr pn xe) body (tb W))
    (hh : MixOk X (h₀ :: hs) l) : PS X (.Try body (h₀ :: hs) [] [] pos) (fun D σ H => tb (wMix X.K Wo D l) D σ H) := by
  refine ⟨fun pins s σ H D I h => wpAny_Try_except ?_⟩
  have ok := I.ok
  have hfr : X.A.frames = some (X.env :: X.outer) := by rw [ok.frames, h1]
  refine wpAny_mono ((hb (wMix X.K Wo D l) (X.pn ++ pins) (fun e s₁ => wpAny (model X.prog X.w) X.A (noteFrame e X.env) (fun _ s₂ => wpAny (model X.prog X.w) X.A (setFlight e none)
    (fun _ s₃ => wpAny (model X.prog X.w) X.A (handleBy e X.env (h₀ :: hs)) (SP X pins D) X.xe s₃) X.xe s₂) X.xe s₁) (fun u s' xx => ?_) PassesOwn.looking).run [] s σ H D (I.toTry _) h) (fun f t sp => ?_) (fun _ _ z => z)
  · obtain ⟨a, G, sI, pins', σ', H', cls, d, rfl, J', nb, up, sky, na, os, ag, w⟩ := xx
    rw [show (X.tr (X.pn ++ pins) _).stack = X.env :: X.outer from h1] at sky
    refine Sky.land Zc.steady hfr h2 sky fun h3 fl3 up3 => ?_
    exact Down.clauses (s := { s' with heap := h3 }) ⟨h1, h2, J'.ofTry ok, nb, up.trans up3, fl3, na, os, ag⟩ hN tk hh w
  · cases f with
    | next => obtain ⟨σ', H', J, q⟩ := sp; exact wpAny_execs_nil ⟨σ', H', J.ofTry ok, q⟩
    | brk => obtain ⟨σ', H', J, q⟩ := sp; exact ⟨σ', H', J.ofTry ok, q⟩
    | cont => obtain ⟨σ', H', J, q⟩ := sp; exact ⟨σ', H', J.ofTry ok, q⟩
    | ret u => obtain ⟨v, σ', H', J, r, q⟩ := sp; exact ⟨v, σ', H', J.ofTry ok, r, q⟩
end DL

set_option Elab.async false
set_option linter.all false
set_option maxRecDepth 100000
set_option maxHeartbeats 2000000
noncomputable section
namespace DL
open PySem PySem.Spec PyProof.Rows L2

/-! ### try, by meanings -/
structure Hd where
  cls : Str
  slot : Option Nat
  run : Ex → M Fl
def Res.shut (r : Res Fl) : Res Fl := match r with
  | .exc _ _ _ => .bad
  | r => r
def Res.unname (i : Nat) (r : Res Fl) : Res Fl := match r with
  | .ok f γ ω => .ok f (γ.set i .no) ω
  | r => r
def Hd.go (h : Hd) (e : Ex) : M Fl := fun γ ω => match h.slot with
  | none => (h.run e γ ω).shut
  | some i => if i < γ.length then ((h.run e (γ.set i .no) ω).shut).unname i else .bad
def handle (sub : Str → Str → Bool) (e : Ex) : List Hd → M Fl
  | [], γ, ω => .exc e γ ω
  | h :: r, γ, ω => if sub e.cls h.cls = true then h.go e γ ω else handle sub e r γ ω
def sTry (known : List Str) (sub : Str → Str → Bool) (body : M Fl) (hs : List Hd) : M Fl := fun γ ω => match body γ ω with
  | .exc e γ1 ω1 => if e.cls ∈ known then handle sub e hs γ1 ω1 else .bad
  | r => r
/-- a suite's reading: e the error, of the class cls, its dict d; in the slot, if it has a name -/
def dU (K : PySem.W.Frag) (mg : Str → Option Value) (kn : List Str) (slot : Option Nat) (g : Ex → M Fl) : Suite := fun a cls d E σ H => ∃ B ρ F γ ω e, Rep K B ρ F γ ω σ H ∧ e.cls ∈ kn ∧ ExAt K mg ρ F H e cls d ∧ (∀ i, slot = some i → σ[i]? = some (some (.ref a))) ∧ SatS K mg W0 B ρ F E (g e γ ω)
abbrev DU (X : Cx) (kn : List Str) (su : List Stmt) (slot : Option Nat) (g : Ex → M Fl) : Prop := SuOk X su (dU X.K X.mg kn slot g)
/-- how the known errors' classes stand to the clauses' -/
def SubOk (K : PySem.W.Frag) (mg : Str → Option Value) (known : List Str) (sub : Str → Str → Bool) (y : Str) (c : Value) : Prop := ∀ x ∈ known, ∀ C, mg x = some C → PySem.W.exmOne K C c = some (sub x y)
inductive HdsD (X : Cx) (known : List Str) (sub : Str → Str → Bool) : List ExceptHandler → List Hd → List Clause → Prop
  | nil : HdsD X known sub [] [] []
  | plain {x : Str} {c : Value} {g : Ex → M Fl} {b : Stmt} {su : List Stmt} {p q : Pos} {hs : List ExceptHandler} {l : List Hd} {l' : List Clause} (n : Names X x c) (o : SubOk X.K X.mg known sub x c) (kn : List Str) (hkn : ∀ z ∈ known, sub z x = true → z ∈ kn) (s : DU X kn (b :: su) none g) (r : HdsD X known sub hs l l') :
      HdsD X known sub (.ExceptHandler (some (.Name x p)) none (b :: su) q :: hs) (⟨x, none, g⟩ :: l) ((c, none, dU X.K X.mg kn none g) :: l')
  | named {x y : Str} {i : Nat} {c : Value} {g : Ex → M Fl} {b : Stmt} {su : List Stmt} {p q : Pos} {hs : List ExceptHandler} {l : List Hd} {l' : List Clause} (n : Names X x c) (hi : X.N[i]? = some y) (hl : X.env.kindOf y = some .local) (o : SubOk X.K X.mg known sub x c) (kn : List Str) (hkn : ∀ z ∈ known, sub z x = true → z ∈ kn) (s : DU X kn (b :: su) (some i) g) (r : HdsD X known sub hs l l') :
      HdsD X known sub (.ExceptHandler (some (.Name x p)) (some y) (b :: su) q :: hs) (⟨x, some i, g⟩ :: l) ((c, some i, dU X.K X.mg kn (some i) g) :: l')
section
variable {X : Cx} {W : WX}
theorem HdsD.mix {known : List Str} {sub : Str → Str → Bool} {hs : List ExceptHandler} {l : List Hd} {l' : List Clause} (h : HdsD X known sub hs l l') : MixOk X hs l' := by
  induction h with
  | nil => exact .nil
  | plain n o kn hkn s r ih => exact .plain n s ih
  | named n hi hl o kn hkn s r ih => exact .named n hi hl s ih
theorem SatS.shut {K : PySem.W.Frag} {mg : Str → Option Value} {B : Bs} {ρ : List Addr} {F : Hp} {E : Ends} {r : Res Fl} (h : SatS K mg W B ρ F E r.shut) : SatS K mg W0 B ρ F E r := by
  cases r with
  | ok f γ ω => cases f <;> exact h
  | exc e γ ω => exact h.elim
  | bad => exact h
theorem SatS.unname {K : PySem.W.Frag} {mg : Str → Option Value} {B : Bs} {ρ : List Addr} {F : Hp} {E : Ends} {r : Res Fl} {i : Nat} (h : SatS K mg W B ρ F E (r.shut.unname i)) : SatS K mg W0 B ρ F (DL.unnamed i E) r := by
  cases r with
  | ok f γ ω =>
    cases f with
    | nx => exact fun σ ρ' F' H' r p s => h _ ρ' F' H' (r.forget i none) p s
    | bk => exact fun σ ρ' F' H' r p s => h _ ρ' F' H' (r.forget i none) p s
    | ct => exact fun σ ρ' F' H' r p s => h _ ρ' F' H' (r.forget i none) p s
    | rt d => exact fun v σ ρ' F' H' r p s q => h v _ ρ' F' H' (r.forget i none) p s q
  | exc e γ ω => exact h.elim
  | bad => exact h
theorem ds_try {body : List Stmt} {h₀ : ExceptHandler} {hs : List ExceptHandler} {g : M Fl} {l : List Hd} {l' : List Clause} {pos : Pos} {known : List Str} {sub : Str → Str → Bool} (h1 : X.stack = X.env :: X.outer) (h2 : X.env.frame = some X.env.locals) (hN : X.N.Nodup) (tk : Takes X W)
    (hb : ∀ (W : WX) (pn : List (Addr × Obj)) (xe : Value → Shared → Prop), Takes (X.tr pn xe) W → PassesOwn (model X.prog X.w) X.A X.env xe → DSs (X.tr pn xe) W body g) (hh : HdsD X known sub (h₀ :: hs) l l') :
    DS X W (.Try body (h₀ :: hs) [] [] pos) (sTry known sub g l) := by
  refine (ps_try_mix (tb := fun W => dS X.K X.mg W g) h1 h2 hN tk (fun W pn xe tk hp => hb W pn xe tk hp) hh.mix).imp fun E σ H ⟨B, ρ, F, γ, ω, rp, q⟩ => ⟨B, ρ, F, γ, ω, rp, ?_⟩
  unfold sTry at q
  cases em : g γ ω with
  | bad => rw [em] at q; exact q
  | ok f γ1 ω1 => rw [em] at q; cases f <;> exact q
  | exc e γ1 ω1 =>
    rw [em] at q
    dsimp only at q
    by_cases hk : e.cls ∈ known
    · rw [if_pos hk] at q
      intro C dd σ1 ρ1 F1 H1 r1 p1 s1 ex
      have key : ∀ {hs : List ExceptHandler} {l : List Hd} {l' : List Clause}, HdsD X known sub hs l l' → SatS X.K X.mg W B ρ1 F1 E (handle sub e l γ1 ω1) → wMix X.K W E l' C dd σ1 H1 := by
        intro hs l l' hd
        induction hd with
        | nil => exact fun q => q C dd σ1 ρ1 F1 H1 r1 (List.prefix_refl _) (Same.refl _) ex
        | @plain x c g b su p q hs l l' n o kn hkn s r ih =>
          intro q
          refine ⟨sub e.cls x, o e.cls hk C ex.1, fun hs => ?_, fun hs => ih ?_⟩
          · unfold handle at q
            rw [if_pos hs] at q
            exact fun a na => ⟨B, ρ1, F1, γ1, ω1, e, r1, hkn _ hk hs, ex, fun i z => (nomatch z), SatS.shut q⟩
          · unfold handle at q
            rw [if_neg (by rw [hs]; exact Bool.false_ne_true)] at q
            exact q
        | @named x y i c g b su p q hs l l' n hi hl o kn hkn s r ih =>
          intro q
          refine ⟨sub e.cls x, o e.cls hk C ex.1, fun hs => ?_, fun hs => ih ?_⟩
          · unfold handle at q
            rw [if_pos hs] at q
            unfold Hd.go at q
            dsimp only at q
            by_cases hi : i < γ1.length
            · rw [if_pos hi] at q
              refine fun a na => ⟨B, ρ1, F1, γ1.set i .no, ω1, e, r1.forget i _, hkn _ hk hs, ex, fun j z => ?_, SatS.unname q⟩
              cases z
              rw [List.getElem?_set_self (by rw [← r1.len]; exact hi)]
            · rw [if_neg hi] at q; exact q.elim
          · unfold handle at q
            rw [if_neg (by rw [hs]; exact Bool.false_ne_true)] at q
            exact q
      exact key hh (q.later p1 s1)
    · rw [if_neg hk] at q; exact q.elim
end
theorem RpF.look {K : PySem.W.Frag} {ρ : List Addr} {F : Hp} {f : Str} {d : D} : ∀ {fs : List (Str × D)} {gs : List (Str × V)}, RpF K ρ F fs gs → fs.lookup f = some d → ∃ v, gs.lookup f = some v ∧ Rp K ρ F d v
  | [], _, _, h => by simp at h
  | (x, d') :: r, _, ⟨v, s, e, h1, h2⟩, h => by
    subst e
    by_cases hx : f = x
    · subst hx
      have e' : d' = d := by simpa [List.lookup] using h
      subst e'
      exact ⟨v, by simp [List.lookup], h1⟩
    · have hb : (f == x) = false := by simpa using hx
      rw [show List.lookup f ((x, d') :: r) = List.lookup f r from by simp [List.lookup, hb]] at h
      obtain ⟨v', e', q⟩ := RpF.look h2 h
      exact ⟨v', by rw [show List.lookup f ((x, v) :: s) = List.lookup f s from by simp [List.lookup, hb]]; exact e', q⟩
/-! suites: return ["word", e.f]; return ["word" if isinstance(e, T) else "", e.f]; return ["word", None] -/
structure ErrX (K : PySem.W.Frag) (C : Addr) (f : Str) : Prop where
  x : XfC K C
  no : PySem.W.findIn K (.ref C) f = some none
  ha : PySem.W.findIn K (.ref C) "__class__" = some (some (.builtin "object.__class__"))
  hn : PySem.W.specialIn K (.builtin "object.__class__") "__get__" = some (some (.builtin "getset_descriptor.__get__"))
  ht : PySem.W.takesIn K (.builtin "object.__class__") = some true
  hm : PySem.W.mroIn K C (.type "object") = some true
def uWord (w f : Str) : Ex → M Fl := fun e γ ω => match e.fs.lookup f with
  | some d => .ok (.rt (.lst [.str w, d])) γ ω
  | none => .bad
section
variable {X : Cx} {f w : Str} {i : Nat}
/-- the first item of such a suite's list -/
structure Fst (X : Cx) (kn : List Str) (i : Nat) (e1 : Expr) (w : Str) : Prop where
  ex : ∀ (a : Addr) (oe : Obj) (cls : Value) (d : Option Addr) (pn : List (Addr × Obj)) (x : Str), x ∈ kn → X.mg x = some cls → Zc cls d oe → (∃ vs, oe.data = .fields vs) →
    ∃ te : TE, PE (X.suite a ((a, oe) :: pn)) e1 te ∧ ∀ (σ : L2.St) (H : Hp) (Q : VK), (∀ dd, d = some dd → ∃ gs, H dd = some (.xd gs)) → σ[i]? = some (some (.ref a)) → Q (.str w) H → te σ H Q
theorem fst_c {kn : List Str} {j : Nat} {p1 : Pos} : Fst X kn i (.Constant (.str w) j p1) w := ⟨fun a oe cls d pn x _ _ _ _ => ⟨_, pe_str, fun σ H Q _ _ q => q⟩⟩
theorem du_word {kn : List Str} {e1 nm : Expr} {p2 p3 p4 : Pos} (h1 : Fst X kn i e1 w) (hX : ∀ x ∈ kn, ∀ C, X.mg x = some (.ref C) → ErrX X.K C f) (he : ∀ (a : Addr) (pn : List (Addr × Obj)), PE (X.suite a pn) nm (tVar i)) (hb : attributeBase nm f X.env (eval nm X.env) = eval nm X.env := by rfl)
    (hs1 : starEach [e1, .Attribute nm f p2] X.env = (false, eval e1 X.env) :: starEach [.Attribute nm f p2] X.env := by rfl) (hs2 : starEach [Expr.Attribute nm f p2] X.env = (false, eval (Expr.Attribute nm f p2) X.env) :: starEach [] X.env := by rfl) :
    DU X kn [.Return (some (.List [e1, .Attribute nm f p2] p3)) p4] (some i) (uWord w f) := by
  intro a oe cls d pn hz hd
  refine ⟨fun pins s σ H D I ⟨B, ρ, F, γ, ω, e, rp, hk, ex, ha, q⟩ => ?_⟩
  obtain ⟨hm, ⟨C, rfl⟩, hf⟩ := ex
  have T := hX _ hk C hm
  obtain ⟨te, h1, k1⟩ := h1.ex a oe _ d pn _ hk hm hz hd
  refine (pss_one (ps_ret (pe_lst (pa_cons h1 (pa_cons (pe_xf T.x T.no hz hd (he a _) hb) pa_nil hs2) hs1)))).run pins s σ H D I ?_
  unfold uWord at q
  cases el : e.fs.lookup f with
  | none => rw [el] at q; exact q.elim
  | some dt =>
    rw [el] at q
    rcases hf with hf | ⟨dd, gs, ed, hg, rf⟩
    · rw [hf] at el; simp at el
    · obtain ⟨v, ev, rv⟩ := RpF.look rf el
      refine k1 σ H _ (fun d' z => by rw [ed] at z; cases z; exact ⟨gs, rp.wd.sub _ _ hg⟩) (ha i rfl) ⟨.ref a, ha i rfl, rfl, rfl, dd, gs, v, ed, rp.wd.sub _ _ hg, ev, by show 2 ≤ sizeLine; decide, fun p hp => ?_⟩
      have g : Grow F H (upd F p (.lst [.str w, v])) (upd H p (.lst [.str w, v])) := Grow.put rp.wd.sub hp
      exact q (.ref p) σ ρ _ _ (rp.grow g) (List.prefix_refl _) g.ff (rp_lst upd_same (Rps.cons rp_str (Rps.cons (Rp.mono (List.prefix_refl _) g.ff rv) Rps.nil)))
/-- "w" if isinstance(e, T) else "": e is of a class under T -/
theorem fst_is {kn : List Str} {T : Str} {cT : Addr} {j j' : Nat} {nm : Expr} {p p1 p2 p3 p4 p5 : Pos} {w' : Str} (hg : Gl X "isinstance") (hi : X.mg "isinstance" = none) (hT : X.mg T = some (.ref cT)) (hgT : Gl X T) (hdb : (T == ("__debug__" : Str)) = false)
    (hX : ∀ x ∈ kn, ∀ C, X.mg x = some (.ref C) → (∃ f, ErrX X.K C f) ∧ PySem.W.kitOne X.K (.ref C) (.ref cT) = some true) (hr : ∀ x ∈ kn, ∀ v, X.mg x = some v → ∃ C, v = .ref C) (he : ∀ (a : Addr) (pn : List (Addr × Obj)), PE (X.suite a pn) nm (tVar i))
    (hs1 : starEach [nm, .Name T p2] X.env = (false, eval nm X.env) :: starEach [.Name T p2] X.env := by rfl) (hs2 : starEach [Expr.Name T p2] X.env = (false, eval (Expr.Name T p2) X.env) :: starEach [] X.env := by rfl)
    (hpl : (backTo p3 (starEach [Expr.Name T p2] X.env)).any (·.1) = false := by rfl) :
    Fst X kn i (.IfExp (.Call (.Name "isinstance" p1) [nm, .Name T p2] [] p3) (.Constant (.str w) j p4) (.Constant (.str w') j' p5) p) w := by
  refine ⟨fun a oe cls d pn x hx hm hz hd => ?_⟩
  obtain ⟨C, rfl⟩ := hr x hx cls hm
  obtain ⟨⟨f, E⟩, hk⟩ := hX x hx C hm
  obtain ⟨vs, hv⟩ := hd
  have hc : CallR (X.suite a ((a, oe) :: pn)) (.builtin "isinstance") (fun xs H Q => xs = [.ref a, .ref cT] ∧ (∀ dd, d = some dd → ∃ gs, H dd = some (.xd gs)) ∧ Q (.bl true) H) := by
    intro pins s σ H xs us Q I r ⟨ex, hdd, q⟩
    subst ex
    obtain ⟨u1, u2, rfl, r1, r2⟩ := vals2 r
    cases (show u1 = Value.ref a from r1)
    cases (show u2 = Value.ref cT from r2)
    obtain ⟨hget, _⟩ := I.pin (a, oe) (List.mem_append.mpr (.inl List.mem_cons_self))
    have J : ∃ od, PySem.W.InstAt s.heap a oe C od := by
      obtain ⟨oc, od, oda, osl⟩ := oe
      obtain ⟨z1, z2⟩ := hz
      dsimp only at z1 z2 hv
      subst z1 z2 hv
      cases od with
      | none => exact ⟨none, hget, rfl, rfl, trivial⟩
      | some dd =>
        obtain ⟨gs, hg⟩ := hdd dd rfl
        obtain ⟨u, hu⟩ : ∃ u, s.heap.get? dd = some u := by
          obtain ⟨mA, ⟨o, _, _, ho, _⟩, _⟩ := (show ObjOk X.prog X.w H s.heap dd (.xd gs) from I.hok dd _ hg)
          exact ⟨o, ho⟩
        exact ⟨some u, hget, rfl, rfl, hu⟩
    obtain ⟨od, J⟩ := J
    have hcl : (PySem.W.clsIn X.K C).isSome = true := by
      obtain ⟨cd, e, _⟩ := PySem.W.any_some E.x.hdC
      rw [e]; rfl
    exact PySem.W.kia_one (PySem.W.kitx_exc hcl E.x.ga E.x.gg E.x.exC E.ha E.hn E.ht E.hm) I.kIn J hk (fun z => nomatch z) fun tk => ⟨.bl true, H, I.kept (t' := tk) fun _ _ z => z, rfl, q⟩
  refine ⟨_, pe_ifExp (pt_val (pe_callB hc hg hi (by decide +kernel) (pa_cons (he a _) (pa_cons (pe_glob (v := V.ref cT) hgT hT rfl hdb) pa_nil hs2) hs1) (by decide) (by decide) hs1 hpl) (fun whole => rfl)) pe_str pe_str, fun σ H Q hdd ha q => ?_⟩
  exact ⟨.ref a, ha, rfl, hdd, true, rfl, iteT q⟩
end
end DL

set_option Elab.async false
set_option linter.all false
set_option maxRecDepth 100000
set_option maxHeartbeats 2000000
noncomputable section
namespace DL
open PySem PySem.Spec PyProof.Rows L2

/-! ### views -/
def vL (ω : List OB) : D → Option (List D)
  | .lst ds => some ds
  | .obj h => match ω[h]? with | some (.lst ds) => some ds | _ => none
  | _ => none
def vLs (ω : List OB) : D → Option (List D)
  | .scr ds => some ds
  | d => vL ω d
section
variable {K : PySem.W.Frag} {B : Bs} {ρ : List Addr} {F : Hp} {γ : List SD} {ω : List OB} {H : Hp}
theorem Wd.obj (w : Wd K B ρ F ω H) {h : Nat} {v : V} {o : OB} (r : Rp K ρ F (.obj h) v) (e : ω[h]? = some o) : ∃ a, v = .ref a ∧ ρ[h]? = some a ∧ ObAt K ρ F H a o := by
  obtain ⟨a, rfl, ha⟩ := rp_obj_inv r
  exact ⟨a, rfl, ha, w.obs h a o ha e⟩
theorem vL_ok (w : Wd K B ρ F ω H) {d : D} {v : V} {ds : List D} (r : Rp K ρ F d v) (e : vL ω d = some ds) : ∃ a vs, v = .ref a ∧ H a = some (.lst vs) ∧ Rps K ρ F ds vs := by
  cases d with
  | lst es =>
    cases e
    obtain ⟨a, vs, rfl, h, rs⟩ := rp_lst_inv r
    exact ⟨a, vs, rfl, w.sub _ _ h, rs⟩
  | obj h =>
    unfold vL at e
    dsimp only at e
    split at e
    · rename_i es eo
      cases e
      obtain ⟨a, rfl, _, vs, hv, rs⟩ := w.obj r eo
      exact ⟨a, vs, rfl, hv, rs⟩
    · cases e
  | _ => cases e
theorem vLs_ok (w : Wd K B ρ F ω H) {d : D} {v : V} {ds : List D} (r : Rp K ρ F d v) (e : vLs ω d = some ds) : ∃ a vs, v = .ref a ∧ SqL K H a vs ∧ Rps K ρ F ds vs := by
  cases d with
  | scr es =>
    cases e
    obtain ⟨a, vs, rfl, h, rs⟩ := rp_scr_inv r
    exact ⟨a, vs, rfl, Same.seq w.sub h, rs⟩
  | lst es =>
    obtain ⟨a, vs, e1, e2, e3⟩ := vL_ok w r (show vL ω (.lst es) = some ds from e)
    exact ⟨a, vs, e1, SqL.of e2, e3⟩
  | obj h =>
    obtain ⟨a, vs, e1, e2, e3⟩ := vL_ok w r (show vL ω (.obj h) = some ds from e)
    exact ⟨a, vs, e1, SqL.of e2, e3⟩
  | _ => cases e
theorem asT_ok (w : Wd K B ρ F ω H) {d : D} {v : V} {ds : List D} (r : Rp K ρ F d v) (e : asT d = some ds) : ∃ a vs, v = .ref a ∧ SqT K H a vs ∧ Rps K ρ F ds vs := by
  cases d with
  | tup es =>
    cases e
    obtain ⟨a, vs, rfl, h, rs⟩ := rp_tup_inv r
    exact ⟨a, vs, rfl, Same.seqT w.sub h, rs⟩
  | _ => cases e
theorem asI_ok {d : D} {v : V} {i : Int} (r : Rp K ρ F d v) (e : asI d = some i) : v = .int i := by
  cases d with
  | int j => cases e; exact rp_int_inv r
  | _ => cases e
theorem rps_len {ds : List D} {vs : List V} (r : Rps K ρ F ds vs) : vs.length = ds.length := r.len.symm
end
/-- a list of ints -/
def intsD : List D → Option (List Int)
  | [] => some []
  | .int i :: r => (intsD r).map (i :: ·)
  | _ => none
theorem ints_eq : ∀ {ds : List D} {ns : List Int}, intsD ds = some ns → ds = ns.map D.int
  | [], _, e => by cases e; rfl
  | .int i :: r, ns, e => by
    unfold intsD at e
    cases h : intsD r with
    | none => rw [h] at e; cases e
    | some ms => rw [h] at e; cases e; rw [ints_eq h]; rfl
  | .non :: r, _, e => by cases e
  | .bl _ :: r, _, e => by cases e
  | .str _ :: r, _, e => by cases e
  | .lst _ :: r, _, e => by cases e
  | .tup _ :: r, _, e => by cases e
  | .dic _ _ :: r, _, e => by cases e
  | .obj _ :: r, _, e => by cases e
  | .fn _ :: r, _, e => by cases e
  | .ty _ :: r, _, e => by cases e
  | .scr _ :: r, _, e => by cases e
theorem ints_map (ns : List Int) : intsD (ns.map D.int) = some ns := by
  induction ns with
  | nil => rfl
  | cons n ns ih => show (intsD (ns.map D.int)).map (n :: ·) = _; rw [ih]; rfl
def bools : List D → Option (List Bool)
  | [] => some []
  | .bl i :: r => (bools r).map (i :: ·)
  | _ => none
theorem bools_eq : ∀ {ds : List D} {ns : List Bool}, bools ds = some ns → ds = ns.map D.bl
  | [], _, e => by cases e; rfl
  | .bl i :: r, ns, e => by
    unfold bools at e
    cases h : bools r with
    | none => rw [h] at e; cases e
    | some ms => rw [h] at e; cases e; rw [bools_eq h]; rfl
  | .non :: r, _, e => by cases e
  | .int _ :: r, _, e => by cases e
  | .str _ :: r, _, e => by cases e
  | .lst _ :: r, _, e => by cases e
  | .tup _ :: r, _, e => by cases e
  | .dic _ _ :: r, _, e => by cases e
  | .obj _ :: r, _, e => by cases e
  | .fn _ :: r, _, e => by cases e
  | .ty _ :: r, _, e => by cases e
  | .scr _ :: r, _, e => by cases e
theorem bools_map (ns : List Bool) : bools (ns.map D.bl) = some ns := by
  induction ns with
  | nil => rfl
  | cons n ns ih => show (bools (ns.map D.bl)).map (n :: ·) = _; rw [ih]; rfl

/-! ### numbers -/
def oI (g : Int → Int → Option D) : O2 := fun _ a b => match a, b with
  | .int i, .int j => g i j
  | _, _ => none
section
variable {K : PySem.W.Frag} {X : Cx}
theorem oI_ok {C : Int → Int → Prop} {g : Int → Int → V} {gd : Int → Int → Option D} (h : ∀ i j c, gd i j = some c → C i j ∧ ∀ ρ F, Rp K ρ F c (g i j)) : Op2 K (rI C g) (oI gd) := by
  intro B ρ F H ω a b c x y Q w ra rb e k
  match a, b, ra, rb, e with
  | .int i, .int j, ra, rb, e =>
    cases rp_int_inv ra
    cases rp_int_inv rb
    obtain ⟨hc, hr⟩ := h i j c e
    exact ⟨i, j, rfl, rfl, hc, k _ F H (Grow.refl w.sub) (hr ρ F)⟩
  | .int _, .non, _, _, e => cases e
  | .int _, .bl _, _, _, e => cases e
  | .int _, .str _, _, _, e => cases e
  | .int _, .lst _, _, _, e => cases e
  | .int _, .tup _, _, _, e => cases e
  | .int _, .dic _ _, _, _, e => cases e
  | .int _, .obj _, _, _, e => cases e
  | .int _, .fn _, _, _, e => cases e
  | .int _, .ty _, _, _, e => cases e
  | .int _, .scr _, _, _, e => cases e
  | .non, _, _, _, e => cases e
  | .bl _, _, _, _, e => cases e
  | .str _, _, _, _, e => cases e
  | .lst _, _, _, _, e => cases e
  | .tup _, _, _, _, e => cases e
  | .dic _ _, _, _, _, e => cases e
  | .obj _, _, _, _, e => cases e
  | .fn _, _, _, _, e => cases e
  | .ty _, _, _, _, e => cases e
  | .scr _, _, _, _, e => cases e
theorem oI0_ok {g : Int → Int → V} {gd : Int → Int → D} (h : ∀ i j ρ F, Rp K ρ F (gd i j) (g i j)) : Op2 K (rI0 g) (oI fun i j => some (gd i j)) := by
  intro B ρ F H ω a b c x y Q w ra rb e k
  obtain ⟨i, j, e1, e2, _, q⟩ := oI_ok (K := K) (C := fun _ _ => True) (g := g) (gd := fun i j => some (gd i j)) (fun i j c e => ⟨trivial, fun ρ F => by cases e; exact h i j ρ F⟩) B ρ F H ω a b c x y Q w ra rb e k
  exact ⟨i, j, e1, e2, q⟩
theorem Op2.or1 {r r' : R2} {o : O2} (h : Op2 K r o) : Op2 K (fun x y H Q => r x y H Q ∨ r' x y H Q) o := fun B ρ F H ω a b c x y Q w ra rb e k => .inl (h B ρ F H ω a b c x y Q w ra rb e k)
def oSub : O2 := oI fun i j => some (.int (i - j))
theorem oSub_ok : Op2 K (rI0 fun i j => .int (i - j)) oSub := oI0_ok fun _ _ _ _ => rp_int
def oLt : O2 := oI fun i j => some (.bl (decide (i < j)))
def oLe : O2 := oI fun i j => some (.bl (decide (i ≤ j)))
def oGt : O2 := oI fun i j => some (.bl (decide (j < i)))
def oGe : O2 := oI fun i j => some (.bl (decide (j ≤ i)))
theorem oLt_ok : Op2 K (rI0 fun i j => .bl (decide (i < j))) oLt := oI0_ok fun _ _ _ _ => rp_bl
theorem oLe_ok : Op2 K (rI0 fun i j => .bl (decide (i ≤ j))) oLe := oI0_ok fun _ _ _ _ => rp_bl
theorem oGt_ok : Op2 K (rI0 fun i j => .bl (decide (j < i))) oGt := oI0_ok fun _ _ _ _ => rp_bl
theorem oGe_ok : Op2 K (rI0 fun i j => .bl (decide (j ≤ i))) oGe := oI0_ok fun _ _ _ _ => rp_bl
theorem oI_chain {g : Int → Int → Bool} : Op2B K (rI0 fun i j => .bl (g i j)) (oI fun i j => some (.bl (g i j))) := by
  intro B ρ F H ω a b k x y Q w ra rb e q
  have e' := e
  cases a <;> first | (cases e'; done) | skip
  cases b <;> first | (cases e'; done) | skip
  rename_i i j
  cases rp_int_inv ra
  cases rp_int_inv rb
  have e2 : some (g i j) = some k := e
  cases e2
  exact ⟨i, j, rfl, rfl, q⟩
def small (i : Int) : Bool := cdec (-(2 ^ 64) < i ∧ i < 2 ^ 64)
def oMulI : Int → Int → Option D := fun i j => if (small i || small j) = true then some (.int (i * j)) else none
def oFdiv : O2 := oI fun i j => if cdec (0 < j ∧ j < 1073741824) = true then some (.int (i / j)) else none
theorem oFdiv_ok : Op2 K (rI CDiv fun i j => .int (i / j)) oFdiv := oI_ok fun i j c e => by
  split at e
  · rename_i h
    cases e
    have h' : 0 < j ∧ j < 1073741824 := cdec_of h
    exact ⟨h', fun _ _ => rp_int⟩
  · cases e
def oMod : O2 := oI fun i j => if decide (0 < j) = true then some (.int (i % j)) else none
theorem oMod_ok : Op2 K (rI (fun _ j => 0 < j) fun i j => .int (i % j)) oMod := oI_ok fun i j c e => by
  split at e
  · rename_i h
    cases e
    exact ⟨of_decide_eq_true h, fun _ _ => rp_int⟩
  · cases e
def oPow : O2 := oI fun i j => if decide (0 ≤ j ∧ j ≤ 1000 ∧ i.natAbs < 2 ^ 64) = true then some (.int (i ^ j.toNat)) else none
theorem oPow_ok : Op2 K (rI CPow fun i j => .int (i ^ j.toNat)) oPow := oI_ok fun i j c e => by
  split at e
  · rename_i h
    cases e
    obtain ⟨h1, h2, h3⟩ := of_decide_eq_true h
    exact ⟨⟨h1, by omega, h3⟩, fun _ _ => rp_int⟩
  · cases e
def oNeg : O1 := fun _ a => match a with | .int i => some (.int (-i)) | _ => none
theorem oNeg_ok : Op1 K (rU fun i => .int (-i)) oNeg := by
  intro B ρ F H ω a c x Q w ra e k
  cases a with
  | int i =>
    cases e
    cases rp_int_inv ra
    exact ⟨i, rfl, k _ F H (Grow.refl w.sub) rp_int⟩
  | _ => cases e

/-! ### + and * -/
/-- list + list as a new list's data -/
def catD (a b : List D) : Option (List D) := if decide (a.length + b.length ≤ 1000000) = true then some (a ++ b) else none
def oAdd : O2 := fun ω a b => match a, b with
  | .int i, .int j => some (.int (i + j))
  | .tup xs, .tup ys => (catD xs ys).map .tup
  | .str x, .str y => if decide (x.length + y.length ≤ 1000000) = true then some (.str (x ++ y)) else none
  | a, b => match vL ω a, vL ω b with
    | some xs, some ys => (catD xs ys).map .lst
    | _, _ => none
def rAddAll (K : PySem.W.Frag) : R2 := fun x y H Q => (rI0 fun i j => .int (i + j)) x y H Q ∨ rCatA K x y H Q ∨ (∃ i j, x = .str i ∧ y = .str j ∧ i.length + j.length ≤ sizeLine ∧ Q (.str (i ++ j)) H) ∨ rCat x y H Q
theorem op_addAll : OpR X (binaryOp .Add) (rAddAll X.K) := op_add.or (op_catA.or (op_add_str.or op_cat))
theorem catD_ok {a b c : List D} (h : catD a b = some c) : c = a ++ b ∧ a.length + b.length ≤ 1000000 := by
  unfold catD at h
  split at h
  · rename_i z
    cases h
    exact ⟨rfl, of_decide_eq_true z⟩
  · cases h
theorem oAdd_ok : Op2 K (rAddAll K) oAdd := by
  intro B ρ F H ω a b c x y Q w ra rb e k
  unfold oAdd at e
  split at e
  · rename_i i j
    cases e
    cases rp_int_inv ra
    cases rp_int_inv rb
    exact .inl ⟨i, j, rfl, rfl, k _ F H (Grow.refl w.sub) rp_int⟩
  · rename_i xs ys
    cases ec : catD xs ys with
    | none => rw [ec] at e; cases e
    | some zs =>
      rw [ec] at e
      cases e
      obtain ⟨rfl, hz⟩ := catD_ok ec
      obtain ⟨p, vs, rfl, hp, rp⟩ := asT_ok w ra (show asT (.tup xs) = some xs from rfl)
      obtain ⟨q, us, rfl, hq, rq⟩ := asT_ok w rb (show asT (.tup ys) = some ys from rfl)
      obtain ⟨p', vs', ep, hp', rp'⟩ := rp_tup_inv ra
      obtain ⟨q', us', eq', hq', rq'⟩ := rp_tup_inv rb
      cases ep
      cases eq'
      refine .inr (.inl ⟨p, q, vs, us, rfl, rfl, hp, hq, by rw [← rp.len, ← rq.len, sizeLine_eq]; omega, fun e0 => ?_, fun _ e1 => ?_, fun _ _ n hn => ?_⟩)
      · subst e0
        have : xs = [] := List.eq_nil_of_length_eq_zero (by rw [rp.len]; rfl)
        subst this
        exact k _ F H (Grow.refl w.sub) rb
      · subst e1
        have : ys = [] := List.eq_nil_of_length_eq_zero (by rw [rq.len]; rfl)
        subst this
        rw [List.append_nil] at *
        exact k _ F H (Grow.refl w.sub) ra
      · have g := Grow.put (o := .tup (vs ++ us)) w.sub hn
        exact k _ _ _ g (rp_tup (SqT.of upd_same) (Rps.mono (List.prefix_refl _) g.ff (rp.append rq)))
  · rename_i s t
    split at e
    · rename_i z
      cases e
      cases rp_str_inv ra
      cases rp_str_inv rb
      exact .inr (.inr (.inl ⟨s, t, rfl, rfl, by have := of_decide_eq_true z; rw [sizeLine_eq]; omega, k _ F H (Grow.refl w.sub) rp_str⟩))
    · cases e
  · split at e
    · rename_i xs ys e1 e2
      cases ec : catD xs ys with
      | none => rw [ec] at e; cases e
      | some zs =>
        rw [ec] at e
        cases e
        obtain ⟨rfl, hz⟩ := catD_ok ec
        obtain ⟨p, vs, rfl, hp, rp⟩ := vL_ok w ra e1
        obtain ⟨q, us, rfl, hq, rq⟩ := vL_ok w rb e2
        refine .inr (.inr (.inr ⟨p, q, vs, us, rfl, rfl, hp, hq, by rw [← rp.len, ← rq.len, sizeLine_eq]; omega, fun n hn => ?_⟩))
        have g := Grow.put (o := .lst (vs ++ us)) w.sub hn
        exact k _ _ _ g (rp_lst upd_same (Rps.mono (List.prefix_refl _) g.ff (rp.append rq)))
    · cases e
def oMul : O2 := fun ω a b => match a, b with
  | .int i, .int j => oMulI i j
  | .tup xs, .int n => if decide (xs ≠ [] ∧ 2 ≤ n ∧ n ≤ 1000 ∧ xs.length ≤ 1000) = true then some (.tup (List.replicate n.toNat xs).flatten) else none
  | a, .int n => match vL ω a with
    | some xs => if decide (0 ≤ n ∧ n ≤ 1000 ∧ xs.length ≤ 1000) = true then some (.lst (List.replicate n.toNat xs).flatten) else none
    | none => none
  | _, _ => none
def rMulAll (K : PySem.W.Frag) : R2 := fun x y H Q => (rI CMul fun i j => .int (i * j)) x y H Q ∨ rRepT K x y H Q ∨ rRep x y H Q
theorem op_mulAll : OpR X (binaryOp .Mult) (rMulAll X.K) := op_mul.or (op_repT.or op_rep)
theorem Rps.rep {ρ : List Addr} {F : Hp} {ds : List D} {vs : List V} (r : Rps K ρ F ds vs) : ∀ n : Nat, Rps K ρ F (List.replicate n ds).flatten (List.replicate n vs).flatten
  | 0 => Rps.nil
  | n + 1 => by
    rw [List.replicate_succ, List.replicate_succ, List.flatten_cons, List.flatten_cons]
    exact r.append (Rps.rep r n)
theorem oMul_ok : Op2 K (rMulAll K) oMul := by
  intro B ρ F H ω a b c x y Q w ra rb e k
  unfold oMul at e
  split at e
  · rename_i i j
    unfold oMulI at e
    split at e
    · rename_i h
      cases e
      cases rp_int_inv ra
      cases rp_int_inv rb
      refine .inl ⟨i, j, rfl, rfl, ?_, k _ F H (Grow.refl w.sub) rp_int⟩
      rcases Bool.or_eq_true_iff.mp h with h | h
      · exact .inl (cdec_of h)
      · exact .inr (cdec_of h)
    · cases e
  · rename_i xs n
    split at e
    · rename_i h
      cases e
      obtain ⟨h1, h2, h3, h4⟩ := of_decide_eq_true h
      obtain ⟨p, vs, rfl, hp, rp⟩ := asT_ok w ra (show asT (.tup xs) = some xs from rfl)
      cases rp_int_inv rb
      refine .inr (.inl ⟨p, n, vs, rfl, rfl, hp, fun z => h1 (List.eq_nil_of_length_eq_zero (by rw [rp.len, z]; rfl)), h2, h3, by rw [← rp.len]; exact h4, fun m hm => ?_⟩)
      have g := Grow.put (o := .tup (List.replicate n.toNat vs).flatten) w.sub hm
      exact k _ _ _ g (rp_tup (SqT.of upd_same) (Rps.mono (List.prefix_refl _) g.ff (rp.rep _)))
    · cases e
  · rename_i n _ _
    split at e
    · rename_i xs ex
      split at e
      · rename_i h
        cases e
        obtain ⟨h2, h3, h4⟩ := of_decide_eq_true h
        obtain ⟨p, vs, rfl, hp, rp⟩ := vL_ok w ra ex
        cases rp_int_inv rb
        refine .inr (.inr ⟨p, n, vs, rfl, rfl, hp, by omega, by omega, ?_, fun m hm => ?_⟩)
        · rw [← rp.len, sizeLine_eq]
          have h5 : n.toNat ≤ 1000 := by omega
          have := Nat.mul_le_mul h4 h5
          omega
        · have g := Grow.put (o := .lst (List.replicate n.toNat vs).flatten) w.sub hm
          exact k _ _ _ g (rp_lst upd_same (Rps.mono (List.prefix_refl _) g.ff (rp.rep _)))
      · cases e
    · cases e
  · cases e
end
end DL

set_option Elab.async false
set_option linter.all false
set_option maxRecDepth 100000
set_option maxHeartbeats 2000000
noncomputable section
namespace DL
open PySem PySem.Spec PyProof.Rows L2

/-! ### == by data -/
mutual
def pyOf : D → Option PyData
  | .non => some .none
  | .bl b => some (.bool b)
  | .int i => some (.int i)
  | .str s => some (.str s)
  | .lst ds => (pysOf ds).map .list
  | .tup ds => (pysOf ds).map .tuple
  | _ => none
def pysOf : List D → Option (List PyData)
  | [] => some []
  | d :: r => (pyOf d).bind fun x => (pysOf r).map (x :: ·)
end
section
variable {K : PySem.W.Frag} {X : Cx} {ρ : List Addr} {F H : Hp}
mutual
theorem py_dp (s : Same F H) : ∀ {d : D} {v : V} {x : PyData}, Rp K ρ F d v → pyOf d = some x → Dp K H v x
  | .non, _, _, r, e => by unfold pyOf at e; cases e; cases rp_non_inv r; exact .non
  | .bl b, _, _, r, e => by unfold pyOf at e; cases e; cases rp_bl_inv r; exact .bl b
  | .int b, _, _, r, e => by unfold pyOf at e; cases e; cases rp_int_inv r; exact .int b
  | .str b, _, _, r, e => by unfold pyOf at e; cases e; cases rp_str_inv r; exact .str b
  | .lst ds, _, _, r, e => by
    unfold pyOf at e
    obtain ⟨a, vs, rfl, h, rs⟩ := rp_lst_inv r
    cases ep : pysOf ds with
    | none => rw [ep] at e; cases e
    | some xs => rw [ep] at e; cases e; exact .lst (SqL.of (s _ _ h)) (py_dps s rs ep)
  | .tup ds, _, _, r, e => by
    unfold pyOf at e
    obtain ⟨a, vs, rfl, h, rs⟩ := rp_tup_inv r
    cases ep : pysOf ds with
    | none => rw [ep] at e; cases e
    | some xs => rw [ep] at e; cases e; exact .tup (Same.seqT s h) (py_dps s rs ep)
  | .dic _ _, _, _, _, e => by unfold pyOf at e; cases e
  | .obj _, _, _, _, e => by unfold pyOf at e; cases e
  | .fn _, _, _, _, e => by unfold pyOf at e; cases e
  | .ty _, _, _, _, e => by unfold pyOf at e; cases e
  | .scr _, _, _, _, e => by unfold pyOf at e; cases e
theorem py_dps (s : Same F H) : ∀ {ds : List D} {vs : List V} {xs : List PyData}, Rps K ρ F ds vs → pysOf ds = some xs → DpAll K H vs xs
  | [], _, _, r, e => by unfold pysOf at e; cases e; unfold Rps at r; subst r; exact .nil
  | d :: ds, _, _, r, e => by
    unfold pysOf at e
    unfold Rps at r
    obtain ⟨v, t, rfl, h1, h2⟩ := r
    cases e1 : pyOf d with
    | none => rw [e1] at e; cases e
    | some x =>
      rw [e1] at e
      cases e2 : pysOf ds with
      | none => rw [e2] at e; cases e
      | some ys => rw [e2] at e; cases e; exact .cons (py_dp s h1 e1) (py_dps s h2 e2)
end
end
/-- a shared list by its content -/
def n1 (ω : List OB) (d : D) : D := match d with
  | .obj h => match ω[h]? with | some (.lst ds) => .lst ds | _ => d
  | _ => d
theorem n1_dp {K : PySem.W.Frag} {B : Bs} {ρ : List Addr} {F H : Hp} {ω : List OB} (w : Wd K B ρ F ω H) {d : D} {v : V} {x : PyData} (r : Rp K ρ F d v) (e : pyOf (n1 ω d) = some x) : Dp K H v x := by
  unfold n1 at e
  split at e
  · rename_i h
    split at e
    · rename_i ds eo
      obtain ⟨a, vs, rfl, hv, rs⟩ := vL_ok w r (show vL ω (.obj h) = some ds by unfold vL; dsimp only; rw [eo])
      unfold pyOf at e
      cases ep : pysOf ds with
      | none => rw [ep] at e; cases e
      | some xs => rw [ep] at e; cases e; exact .lst (SqL.of hv) (py_dps w.sub rs ep)
    · unfold pyOf at e; cases e
  · exact py_dp w.sub r e
def eqB (ω : List OB) (a b : D) : Option Bool := match pyOf (n1 ω a), pyOf (n1 ω b) with
  | some x, some y => if (x.canLay0 && y.canLay0 && decide (min x.depth y.depth ≤ 64)) = true then some (PyData.eqv x y) else none
  | _, _ => none
def oEq : O2 := fun ω a b => (eqB ω a b).map .bl
def oNe : O2 := fun ω a b => (eqB ω a b).map fun k => .bl (!k)
def rEqM (K : PySem.W.Frag) (g : Bool → Bool) : R2 := fun x y H Q => ∃ d e, Dp K H x d ∧ Dp K H y e ∧ d.canLay0 = true ∧ e.canLay0 = true ∧ min d.depth e.depth ≤ 64 ∧ Q (.bl (g (PyData.eqv d e))) H
theorem op_eqM {X : Cx} (hu : X.A.units + 64 < cLine) : OpR X (compareOp .Eq) (rEqM X.K id) := by
  intro pins s σ H x y v u Q I rx ry h
  obtain ⟨d, e, hd, he, sd, se, hm, q⟩ := h
  obtain ⟨as, r1⟩ := Dp.reads I d x v hd rx
  obtain ⟨bs, r2⟩ := Dp.reads I e y u he ry
  exact SeqAt.compareEq_reads r1 r2 sd se (by omega) ⟨.bl _, H, I, rfl, q⟩
theorem op_neM {X : Cx} (hu : X.A.units + 64 < cLine) : OpR X (compareOp .NotEq) (rEqM X.K not) := by
  intro pins s σ H x y v u Q I rx ry h
  obtain ⟨d, e, hd, he, sd, se, hm, q⟩ := h
  obtain ⟨as, r1⟩ := Dp.reads I d x v hd rx
  obtain ⟨bs, r2⟩ := Dp.reads I e y u he ry
  exact SeqAt.compareNe_reads r1 r2 sd se (by omega) ⟨.bl _, H, I, rfl, q⟩
section
variable {K : PySem.W.Frag} {X : Cx}
theorem eqB_ok {B : Bs} {ρ : List Addr} {F H : Hp} {ω : List OB} (w : Wd K B ρ F ω H) {a b : D} {x y : V} {k : Bool} (ra : Rp K ρ F a x) (rb : Rp K ρ F b y) (e : eqB ω a b = some k) :
    ∃ d e', Dp K H x d ∧ Dp K H y e' ∧ d.canLay0 = true ∧ e'.canLay0 = true ∧ min d.depth e'.depth ≤ 64 ∧ PyData.eqv d e' = k := by
  unfold eqB at e
  split at e
  · rename_i p q e1 e2
    split at e
    · rename_i h
      cases e
      obtain ⟨h12, h3⟩ := Bool.and_eq_true_iff.mp h
      obtain ⟨h1, h2⟩ := Bool.and_eq_true_iff.mp h12
      exact ⟨p, q, n1_dp w ra e1, n1_dp w rb e2, h1, h2, of_decide_eq_true h3, rfl⟩
    · cases e
  · cases e
theorem oEq_ok : Op2 K (rEqM K id) oEq := by
  intro B ρ F H ω a b c x y Q w ra rb e k
  unfold oEq at e
  cases eb : eqB ω a b with
  | none => rw [eb] at e; cases e
  | some t =>
    rw [eb] at e
    cases e
    obtain ⟨d, e', h1, h2, h3, h4, h5, h6⟩ := eqB_ok w ra rb eb
    exact ⟨d, e', h1, h2, h3, h4, h5, by rw [h6]; exact k _ F H (Grow.refl w.sub) rp_bl⟩
theorem oNe_ok : Op2 K (rEqM K not) oNe := by
  intro B ρ F H ω a b c x y Q w ra rb e k
  unfold oNe at e
  cases eb : eqB ω a b with
  | none => rw [eb] at e; cases e
  | some t =>
    rw [eb] at e
    cases e
    obtain ⟨d, e', h1, h2, h3, h4, h5, h6⟩ := eqB_ok w ra rb eb
    exact ⟨d, e', h1, h2, h3, h4, h5, by rw [h6]; exact k _ F H (Grow.refl w.sub) rp_bl⟩
/-- is None, is not None; is, of bools -/
def isNonD : D → Bool
  | .non => true
  | _ => false
theorem isNon_ok {ρ : List Addr} {F : Hp} {d : D} {v : V} (r : Rp K ρ F d v) : decide (v = .non) = isNonD d := by
  cases d with
  | non => cases rp_non_inv r; rfl
  | bl b => cases rp_bl_inv r; rfl
  | int b => cases rp_int_inv r; rfl
  | str b => cases rp_str_inv r; rfl
  | lst ds => obtain ⟨a, vs, rfl, _⟩ := rp_lst_inv r; rfl
  | tup ds => obtain ⟨a, vs, rfl, _⟩ := rp_tup_inv r; rfl
  | dic ks ds => obtain ⟨a, vs, rfl, _⟩ := rp_dic_inv r; rfl
  | obj h => obtain ⟨a, rfl, _⟩ := rp_obj_inv r; rfl
  | fn a => cases rp_fn_inv r; rfl
  | ty n => cases rp_ty_inv r; rfl
  | scr ds => obtain ⟨a, vs, rfl, _⟩ := rp_scr_inv r; rfl
def oIsN : O2 := fun _ a b => match b with | .non => some (.bl (isNonD a)) | _ => none
def oNotN : O2 := fun _ a b => match b with | .non => some (.bl (!isNonD a)) | _ => none
theorem oIsN_ok : Op2 K (fun x y H Q => y = .non ∧ Q (.bl (decide (x = .non))) H) oIsN := by
  intro B ρ F H ω a b c x y Q w ra rb e k
  cases b with
  | non => cases e; exact ⟨rp_non_inv rb, by rw [isNon_ok ra]; exact k _ F H (Grow.refl w.sub) rp_bl⟩
  | _ => cases e
theorem oNotN_ok : Op2 K (fun x y H Q => y = .non ∧ Q (.bl (!decide (x = .non))) H) oNotN := by
  intro B ρ F H ω a b c x y Q w ra rb e k
  cases b with
  | non => cases e; exact ⟨rp_non_inv rb, by rw [isNon_ok ra]; exact k _ F H (Grow.refl w.sub) rp_bl⟩
  | _ => cases e
def oIsB : O2 := fun _ a b => match a, b with | .bl i, .bl j => some (.bl (decide (i = j))) | _, _ => none
theorem oIsB_ok : Op2 K rIsB oIsB := by
  intro B ρ F H ω a b c x y Q w ra rb e k
  unfold oIsB at e
  split at e
  · rename_i i j
    cases e
    exact ⟨i, j, rp_bl_inv ra, rp_bl_inv rb, k _ F H (Grow.refl w.sub) rp_bl⟩
  · cases e
/-- in, not in: flat items -/
def flatD : D → Bool
  | .non => true
  | .bl _ => true
  | .int _ => true
  | .str _ => true
  | _ => false
def toV : D → V
  | .non => .non
  | .bl b => .bl b
  | .int i => .int i
  | .str s => .str s
  | _ => .non
theorem flat_toV {ρ : List Addr} {F : Hp} {d : D} {v : V} (r : Rp K ρ F d v) (h : flatD d = true) : v = toV d ∧ flatV v = true := by
  cases d with
  | non => cases rp_non_inv r; exact ⟨rfl, rfl⟩
  | bl b => cases rp_bl_inv r; exact ⟨rfl, rfl⟩
  | int b => cases rp_int_inv r; exact ⟨rfl, rfl⟩
  | str b => cases rp_str_inv r; exact ⟨rfl, rfl⟩
  | _ => cases h
theorem flats_toV {ρ : List Addr} {F : Hp} : ∀ {ds : List D} {vs : List V}, Rps K ρ F ds vs → ds.all flatD = true → vs = ds.map toV ∧ vs.all flatV = true
  | [], _, r, _ => by unfold Rps at r; subst r; exact ⟨rfl, rfl⟩
  | d :: ds, _, r, h => by
    unfold Rps at r
    obtain ⟨v, t, rfl, h1, h2⟩ := r
    rw [List.all_cons, Bool.and_eq_true_iff] at h
    obtain ⟨e1, e2⟩ := flat_toV h1 h.1
    obtain ⟨e3, e4⟩ := flats_toV h2 h.2
    refine ⟨by rw [List.map_cons, ← e1, ← e3], ?_⟩
    rw [List.all_cons, e2, e4]
    rfl
def vSq (ω : List OB) : D → Option (List D)
  | .tup ds => some ds
  | b => vLs ω b
def inD (ω : List OB) (a b : D) : Option Bool := match vSq ω b with
  | some ds => if (flatD a && ds.all flatD) = true then some (inV (toV a) (ds.map toV)) else none
  | none => none
theorem inD_ok {B : Bs} {ρ : List Addr} {F H : Hp} {ω : List OB} (w : Wd K B ρ F ω H) {a b : D} {x y : V} {k : Bool} (ra : Rp K ρ F a x) (rb : Rp K ρ F b y) (e : inD ω a b = some k) :
    ∃ p xs, y = .ref p ∧ (SqL K H p xs ∨ SqT K H p xs) ∧ flatV x = true ∧ xs.all flatV = true ∧ inV x xs = k := by
  unfold inD at e
  cases eb : vSq ω b with
  | none => rw [eb] at e; cases e
  | some ds =>
    rw [eb] at e
    dsimp only at e
    split at e
    · rename_i h
      cases e
      obtain ⟨h1, h2⟩ := Bool.and_eq_true_iff.mp h
      obtain ⟨e1, f1⟩ := flat_toV ra h1
      have key : ∃ p xs, y = .ref p ∧ (SqL K H p xs ∨ SqT K H p xs) ∧ Rps K ρ F ds xs := by
        cases b with
        | tup es =>
          cases eb
          obtain ⟨p, vs, rfl, hp, rs⟩ := asT_ok w rb (show asT (.tup _) = some _ from rfl)
          exact ⟨p, vs, rfl, .inr hp, rs⟩
        | lst es => obtain ⟨p, vs, rfl, hp, rs⟩ := vLs_ok w rb eb; exact ⟨p, vs, rfl, .inl hp, rs⟩
        | scr es => obtain ⟨p, vs, rfl, hp, rs⟩ := vLs_ok w rb eb; exact ⟨p, vs, rfl, .inl hp, rs⟩
        | obj es => obtain ⟨p, vs, rfl, hp, rs⟩ := vLs_ok w rb eb; exact ⟨p, vs, rfl, .inl hp, rs⟩
        | _ => cases eb
      obtain ⟨p, xs, e2, hp, rs⟩ := key
      obtain ⟨e3, f3⟩ := flats_toV rs h2
      exact ⟨p, xs, e2, hp, f1, f3, by rw [e1, e3]⟩
    · cases e
def oIn : O2 := fun ω a b => (inD ω a b).map .bl
def oNotIn : O2 := fun ω a b => (inD ω a b).map fun k => .bl (!k)
theorem oIn_ok : Op2 K (rIn K false) oIn := by
  intro B ρ F H ω a b c x y Q w ra rb e k
  unfold oIn at e
  cases eb : inD ω a b with
  | none => rw [eb] at e; cases e
  | some t =>
    rw [eb] at e
    cases e
    obtain ⟨p, xs, h1, h2, h3, h4, h5⟩ := inD_ok w ra rb eb
    refine ⟨p, xs, h1, h2, h3, h4, ?_⟩
    show Q (.bl (inV x xs)) H
    rw [h5]
    exact k _ F H (Grow.refl w.sub) rp_bl
theorem oNotIn_ok : Op2 K (rIn K true) oNotIn := by
  intro B ρ F H ω a b c x y Q w ra rb e k
  unfold oNotIn at e
  cases eb : inD ω a b with
  | none => rw [eb] at e; cases e
  | some t =>
    rw [eb] at e
    cases e
    obtain ⟨p, xs, h1, h2, h3, h4, h5⟩ := inD_ok w ra rb eb
    refine ⟨p, xs, h1, h2, h3, h4, ?_⟩
    show Q (.bl (!inV x xs)) H
    rw [h5]
    exact k _ F H (Grow.refl w.sub) rp_bl

/-! ### items, slices, len -/
def oIx : O2 := fun ω a b => match b with
  | .int i => (match a with
    | .tup ds => atI ds i
    | .str z => if decide (z.length ≤ 1000000) = true then (atI z.cps.toList i).map fun c => .str ⟨#[c]⟩ else none
    | a => (vLs ω a).bind fun ds => atI ds i)
  | _ => none
theorem atI_rel {ρ : List Addr} {F : Hp} {ds : List D} {vs : List V} {i : Int} {d : D} (r : Rps K ρ F ds vs) (h : atI ds i = some d) : ∃ v, atI vs i = some v ∧ Rp K ρ F d v := by
  unfold atI at h ⊢
  rw [← r.len]
  cases e : ixN ds.length i with
  | none => rw [e] at h; cases h
  | some j =>
    rw [e] at h
    obtain ⟨v, hv, rv⟩ := r.get (show ds[j]? = some d from h)
    exact ⟨v, hv, rv⟩
theorem oIx_ok : Op2 K (rIx K) oIx := by
  intro B ρ F H ω a b c x y Q w ra rb e k
  cases b with
  | int i =>
    have eL : ∀ {ds : List D}, vLs ω a = some ds → atI ds i = some c → rIx K x y H Q := fun {ds} e1 e2 => by
      obtain ⟨p, vs, rfl, hp, rs⟩ := vLs_ok w ra e1
      obtain ⟨v, hv, rv⟩ := atI_rel rs e2
      exact .inl ⟨p, vs, i, v, rfl, rp_int_inv rb, hp, hv, k v F H (Grow.refl w.sub) rv⟩
    cases a with
    | tup ds =>
      obtain ⟨p, vs, rfl, hp, rs⟩ := asT_ok w ra (show asT (.tup ds) = some ds from rfl)
      obtain ⟨v, hv, rv⟩ := atI_rel rs (show atI ds i = some c from e)
      exact .inr (.inl ⟨p, vs, i, v, rfl, rp_int_inv rb, hp, hv, k v F H (Grow.refl w.sub) rv⟩)
    | str z =>
      have e' : (if decide (z.length ≤ 1000000) = true then (atI z.cps.toList i).map fun c => D.str ⟨#[c]⟩ else none) = some c := e
      split at e'
      · rename_i hz
        cases ea : atI z.cps.toList i with
        | none => rw [ea] at e'; cases e'
        | some q =>
          rw [ea] at e'
          cases e'
          exact .inr (.inr ⟨z, i, q, rp_str_inv ra, rp_int_inv rb, by have := of_decide_eq_true hz; rw [sizeLine_eq]; omega, ea, k _ F H (Grow.refl w.sub) rp_str⟩)
      · cases e'
    | lst ds => exact eL rfl (by simpa [oIx, vLs, vL] using e)
    | scr ds => exact eL rfl (by simpa [oIx, vLs, vL] using e)
    | obj h =>
      have e' : ((vLs ω (.obj h)).bind fun ds => atI ds i) = some c := e
      cases ev : vLs ω (.obj h) with
      | none => rw [ev] at e'; cases e'
      | some ds => rw [ev] at e'; exact eL ev e'
    | _ => cases e
  | _ => cases e
def lenD (ω : List OB) : D → Option Nat
  | .tup ds => some ds.length
  | .str z => if decide (z.length ≤ 1000000) = true then some z.length else none
  | d => (vLs ω d).map List.length
def oLen : OC := fun ω ds => match ds with
  | [d] => (lenD ω d).map fun n : Nat => D.int (n : Int)
  | _ => none
theorem oLen_ok : OpC K (fun xs H Q => ∃ x n, xs = [x] ∧ LenV K x H n ∧ Q (.int n) H) oLen := by
  intro B ρ F H ω ds c vs Q w rs e k
  match ds, rs, e with
  | [d], rs, e =>
    obtain ⟨x, rfl, rx⟩ := rps1 rs
    have e' : (lenD ω d).map (fun n : Nat => D.int (n : Int)) = some c := e
    cases en : lenD ω d with
    | none => rw [en] at e'; cases e'
    | some n =>
      rw [en] at e'
      cases e'
      refine ⟨x, n, rfl, ?_, k _ F H (Grow.refl w.sub) rp_int⟩
      have key : ∀ {es : List D}, vLs ω d = some es → es.length = n → LenV K x H n := fun {es} e1 e2 => by
        obtain ⟨p, us, rfl, hp, r⟩ := vLs_ok w rx e1
        exact .inl ⟨us, hp, by rw [← r.len, e2]⟩
      cases d with
      | tup es =>
        cases en
        obtain ⟨p, us, rfl, hp, r⟩ := asT_ok w rx (show asT (.tup es) = some es from rfl)
        exact .inr ⟨us, hp, r.len⟩
      | str z =>
        have en' : (if decide (z.length ≤ 1000000) = true then some z.length else none) = some n := en
        split at en'
        · rename_i hz
          cases en'
          cases rp_str_inv rx
          exact ⟨by have := of_decide_eq_true hz; rw [sizeLine_eq]; omega, rfl⟩
        · cases en'
      | lst es => cases en; exact key rfl rfl
      | scr es => cases en; exact key rfl rfl
      | obj h =>
        have en' : (vLs ω (.obj h)).map List.length = some n := en
        cases ev : vLs ω (.obj h) with
        | none => rw [ev] at en'; cases en'
        | some es => rw [ev] at en'; cases en'; exact key ev rfl
      | _ => cases en
  | [], _, e => cases e
  | _ :: _ :: _, _, e => cases e
def cutD (xs : List D) (lo hi : Option Int) : List D := (xs.drop (HT.sIx xs.length 0 lo)).take (HT.sIx xs.length xs.length hi - HT.sIx xs.length 0 lo)
def oSl : OS := fun ω a lo hi => match a with
  | .tup ds => some (.tup (cutD ds lo hi))
  | a => (vLs ω a).map fun ds => .lst (cutD ds lo hi)
def rSlAll (K : PySem.W.Frag) : V → Option Int → Option Int → Hp → VK → Prop := fun x lo hi H Q => rSlA K x lo hi H Q ∨ rSlL K x lo hi H Q
theorem sl_all : SlR X (rSlAll X.K) := sl_tupA.or sl_list
theorem cutD_rel {ρ : List Addr} {F : Hp} {ds : List D} {vs : List V} (r : Rps K ρ F ds vs) (lo hi : Option Int) : Rps K ρ F (cutD ds lo hi) (cutV vs lo hi) := by
  unfold cutD cutV
  rw [r.len]
  exact (r.drop _).take _
theorem oSl_ok : OpSl K (rSlAll K) oSl := by
  intro B ρ F H ω a c lo hi x Q w ra e k
  have key : ∀ {es : List D}, vLs ω a = some es → c = .lst (cutD es lo hi) → rSlAll K x lo hi H Q := fun {es} e1 e2 => by
    obtain ⟨p, us, rfl, hp, r⟩ := vLs_ok w ra e1
    subst e2
    refine .inr ⟨p, us, rfl, hp, fun n hn => ?_⟩
    have g := Grow.put (o := .lst (cutV us lo hi)) w.sub hn
    exact k _ _ _ g (rp_lst upd_same (Rps.mono (List.prefix_refl _) g.ff (cutD_rel r lo hi)))
  cases a with
  | tup ds =>
    cases e
    obtain ⟨p, vs, rfl, hp, rs⟩ := asT_ok w ra (show asT (.tup ds) = some ds from rfl)
    refine .inl ⟨p, vs, rfl, hp, fun hw => ?_, fun _ n hn => ?_⟩
    · have e : cutD ds lo hi = ds := by
        unfold cutD
        rw [rs.len, hw.1, hw.2, List.drop_zero, Nat.sub_zero, ← rs.len, List.take_length]
      rw [e] at k
      exact k _ F H (Grow.refl w.sub) ra
    · have g := Grow.put (o := .tup (cutV vs lo hi)) w.sub hn
      exact k _ _ _ g (rp_tup (SqT.of upd_same) (Rps.mono (List.prefix_refl _) g.ff (cutD_rel rs lo hi)))
  | lst ds => cases e; exact key rfl rfl
  | scr ds => cases e; exact key rfl rfl
  | obj h =>
    have e' : (vLs ω (.obj h)).map (fun ds => D.lst (cutD ds lo hi)) = some c := e
    cases ev : vLs ω (.obj h) with
    | none => rw [ev] at e'; cases e'
    | some es => rw [ev] at e'; cases e'; exact key ev rfl
  | _ => cases e
/-- xs[::-1] of a list -/
def eRev (f : EF) : EF := f.bind fun d γ ω => match vLs ω d with
  | some ds => .ok (.lst ds.reverse) γ ω
  | none => .bad
theorem de_rev {W : WX} {e : Expr} {f : EF} {k : Nat} {p1 p2 p3 pos : Pos} (h : DE X W e f) : DE X W (.Subscript e (.Slice none none (some (.UnaryOp .USub (.Constant (.int 1) k p1) p2)) p3) pos) (eRev f) :=
  (pe_revL h).imp fun σ H Q ⟨B, ρ, F, γ, ω, rp, q⟩ => ⟨B, ρ, F, γ, ω, rp, Sat.bind q fun d v γ1 ω1 ρ1 F1 H1 r1 p1 s1 q1 q => by
    cases ev : vLs ω1 d with
    | none => rw [ev] at q; exact q.elim
    | some ds =>
      rw [ev] at q
      obtain ⟨p, us, rfl, hp, r⟩ := vLs_ok r1.wd q1 ev
      refine ⟨p, us, rfl, hp, fun n hn => ?_⟩
      have g := Grow.put (o := .lst us.reverse) r1.wd.sub hn
      exact q.grown r1 g (rp_lst upd_same (Rps.mono (List.prefix_refl _) g.ff r.reverse))⟩
end
end DL

set_option Elab.async false
set_option linter.all false
set_option maxRecDepth 100000
set_option maxHeartbeats 2000000
noncomputable section
namespace DL
open PySem PySem.Spec PyProof.Rows L2

/-! ### built-ins -/
/-- a kind's name -/
def tyN (ω : List OB) : D → Option String
  | .non => some "NoneType"
  | .bl _ => some "bool"
  | .int _ => some "int"
  | .str _ => some "str"
  | .lst _ => some "list"
  | .scr _ => some "list"
  | .tup _ => some "tuple"
  | .dic _ _ => some "dict"
  | .obj h => match ω[h]? with
    | some (.lst _) => some "list"
    | some (.dic _ _) => some "dict"
    | _ => none
  | _ => none
section
variable {K : PySem.W.Frag} {X : Cx}
theorem tyX_lst {H : Hp} {a : Addr} {vs : List V} (h : SqL K H a vs) : TyX K H (.ref a) (.type "list") := by
  rcases h with (h | ⟨o, h⟩) | ⟨o, its, n, hk, hc, _⟩
  · exact .base (.lst h)
  · exact .base (.frz h)
  · exact .kList hk hc
theorem tyX_tup {H : Hp} {a : Addr} {vs : List V} (h : SqT K H a vs) : TyX K H (.ref a) (.type "tuple") := by
  rcases h with (h | ⟨o, h⟩) | ⟨o, its, n, hk, hc, _⟩
  · exact .base (.tup h)
  · exact .fTuple h
  · exact .kTuple hk hc
theorem tyN_ok {B : Bs} {ρ : List Addr} {F H : Hp} {ω : List OB} (w : Wd K B ρ F ω H) {d : D} {v : V} {t : String} (r : Rp K ρ F d v) (e : tyN ω d = some t) : TyX K H v (.type t) := by
  cases d with
  | non => cases e; cases rp_non_inv r; exact .base .non
  | bl b => cases e; cases rp_bl_inv r; exact .base (.bl b)
  | int b => cases e; cases rp_int_inv r; exact .base (.int b)
  | str b => cases e; cases rp_str_inv r; exact .base (.str b)
  | lst ds => cases e; obtain ⟨a, vs, rfl, h, _⟩ := rp_lst_inv r; exact tyX_lst (SqL.of (w.sub _ _ h))
  | scr ds => cases e; obtain ⟨a, vs, rfl, h, _⟩ := rp_scr_inv r; exact tyX_lst (Same.seq w.sub h)
  | tup ds => cases e; obtain ⟨a, vs, rfl, h, _⟩ := rp_tup_inv r; exact tyX_tup (Same.seqT w.sub h)
  | dic ks ds => cases e; obtain ⟨a, vs, rfl, h, _⟩ := rp_dic_inv r; exact .base (.dK (w.sub _ _ h))
  | obj h =>
    unfold tyN at e
    dsimp only at e
    split at e
    · rename_i ds eo
      cases e
      obtain ⟨a, rfl, _, vs, hv, _⟩ := w.obj r eo
      exact tyX_lst (SqL.of hv)
    · rename_i ks ds eo
      cases e
      obtain ⟨a, rfl, _, vs, hv, _⟩ := w.obj r eo
      exact .base (.dK hv)
    · cases e
  | _ => cases e
def kinds : List String := ["NoneType", "bool", "int", "str", "list", "tuple", "dict"]
def subK (a b : String) : Bool := a == b || (a == "bool" && b == "int")
theorem subK_ok : ∀ a ∈ kinds, ∀ b ∈ kinds, kitB a b = some (subK a b) := by decide +kernel
theorem tyN_kind {ω : List OB} {d : D} {t : String} (e : tyN ω d = some t) : t ∈ kinds := by
  cases d with
  | obj h =>
    unfold tyN at e
    dsimp only at e
    split at e <;> first | (cases e; decide) | cases e
  | non => cases e; decide
  | bl b => cases e; decide
  | int b => cases e; decide
  | str b => cases e; decide
  | lst ds => cases e; decide
  | scr ds => cases e; decide
  | tup ds => cases e; decide
  | dic ks ds => cases e; decide
  | _ => cases e
def oIsi : OC := fun ω ds => match ds with
  | [d, .ty n] => if n ∈ kinds then (tyN ω d).map fun t => .bl (subK t n) else none
  | _ => none
theorem oIsi_ok : OpC K (rIsi K) oIsi := by
  intro B ρ F H ω ds c vs Q w rs e k
  unfold oIsi at e
  split at e
  · rename_i d n
    split at e
    · rename_i hn
      obtain ⟨x, y, rfl, rx, ry⟩ := rps2 rs
      cases et : tyN ω d with
      | none => rw [et] at e; cases e
      | some t =>
        rw [et] at e
        cases e
        cases rp_ty_inv ry
        exact ⟨x, .ty n, .type t, .type n, _, rfl, .ty n, tyN_ok w rx et, kit_ty (subK_ok t (tyN_kind et) n hn), k _ F H (Grow.refl w.sub) rp_bl⟩
    · cases e
  · cases e
/-- isinstance(x, (T1, T2)): the tuple of classes is written there -/
def oIsi2 : OC := fun ω ds => match ds with
  | [d, .tup [.ty n, .ty m]] => if n ∈ kinds ∧ m ∈ kinds then (tyN ω d).map fun t => .bl (subK t n || subK t m) else none
  | _ => none
def rIsiT2 (K : PySem.W.Frag) : List V → Hp → VK → Prop := fun xs H Q => ∃ (x : V) (tp : Addr) (n m t : String), xs = [x, .ref tp] ∧ SqT K H tp [.ty n, .ty m] ∧ n ∈ kinds ∧ m ∈ kinds ∧ t ∈ kinds ∧ TyX K H x (.type t) ∧ Q (.bl (subK t n || subK t m)) H
theorem call_isiT2 : CallR X (.builtin "isinstance") (rIsiT2 X.K) := by
  intro pins s σ H xs us Q I r ⟨x, tp, n, m, t, e, hT, hn, hm, ht, ty, q⟩
  subst e
  have ka : PySem.W.kitAny X.K (.type t) [.type n, .type m] = some (subK t n || subK t m) := by
    refine kitAny_cons (kit_ty (subK_ok t ht n hn)) (fun e => ?_) (fun e => by rw [e]; rfl)
    refine kitAny_cons (kit_ty (subK_ok t ht m hm)) (fun e2 => ?_) (fun e2 => by rw [e2]; simp)
    rw [e, e2]
    rfl
  obtain ⟨u1, u2, rfl, r1, r2⟩ := vals2 r
  cases (show u2 = Value.ref tp from r2)
  obtain ⟨P, Z, p, hx⟩ := kit_of I r1 ty
  obtain ⟨its, rv, ⟨o, h1, h2, nn, h3⟩, hz⟩ := I.tuple hT
  have e3 : its = [Value.type n, Value.type m] := ClsV.all (.cons (.ty n) (.cons (.ty m) .nil)) rv
  subst e3
  obtain ⟨oc, od, dt, sl⟩ := o
  dsimp only at h2 h3
  subst h2 h3
  exact PySem.W.kia_tup Z I.kIn p h1 ka hx fun tk => ⟨.bl _, H, I.tok tk, rfl, q⟩
theorem oIsi2_ok : OpC K (rIsiT2 K) oIsi2 := by
  intro B ρ F H ω ds c vs Q w rs e k
  unfold oIsi2 at e
  split at e
  · rename_i d n m
    split at e
    · rename_i hnm
      obtain ⟨x, y, rfl, rx, ry⟩ := rps2 rs
      cases et : tyN ω d with
      | none => rw [et] at e; cases e
      | some t =>
        rw [et] at e
        cases e
        obtain ⟨a, us, rfl, hs, ru⟩ := rp_tup_inv ry
        obtain ⟨u1, u2, rfl, q1, q2⟩ := rps2 ru
        cases rp_ty_inv q1
        cases rp_ty_inv q2
        exact ⟨x, a, n, m, t, rfl, Same.seqT w.sub hs, hnm.1, hnm.2, tyN_kind et, tyN_ok w rx et, k _ F H (Grow.refl w.sub) rp_bl⟩
    · cases e
  · cases e
def oAbs : OC := fun _ ds => match ds with | [.int i] => some (.int (if i < 0 then -i else i)) | _ => none
theorem oAbs_ok : OpC K (fun xs H Q => ∃ i, xs = [.int i] ∧ Q (.int (if i < 0 then -i else i)) H) oAbs := by
  intro B ρ F H ω ds c vs Q w rs e k
  unfold oAbs at e
  split at e
  · rename_i i
    cases e
    obtain ⟨x, rfl, rx⟩ := rps1 rs
    cases rp_int_inv rx
    exact ⟨i, rfl, k _ F H (Grow.refl w.sub) rp_int⟩
  · cases e
def oInt : OC := fun _ ds => match ds with | [.int i] => some (.int i) | _ => none
theorem oInt_ok : OpC K (fun xs H Q => (∃ i, xs = [.int i] ∧ Q (.int i) H) ∨ ∃ k, xs = [.bl k] ∧ Q (.int (if k then 1 else 0)) H) oInt := by
  intro B ρ F H ω ds c vs Q w rs e k
  unfold oInt at e
  split at e
  · rename_i i
    cases e
    obtain ⟨x, rfl, rx⟩ := rps1 rs
    cases rp_int_inv rx
    exact .inl ⟨i, rfl, k _ F H (Grow.refl w.sub) rp_int⟩
  · cases e
def oMin2 : OC := fun _ ds => match ds with | [.int i, .int j] => some (.int (if j < i then j else i)) | _ => none
theorem oMin2_ok : OpC K (fun xs H Q => ∃ i j, xs = [.int i, .int j] ∧ Q (.int (if j < i then j else i)) H) oMin2 := by
  intro B ρ F H ω ds c vs Q w rs e k
  unfold oMin2 at e
  split at e
  · rename_i i j
    cases e
    obtain ⟨x, y, rfl, rx, ry⟩ := rps2 rs
    cases rp_int_inv rx
    cases rp_int_inv ry
    exact ⟨i, j, rfl, k _ F H (Grow.refl w.sub) rp_int⟩
  · cases e
def oMax2 : OC := fun _ ds => match ds with | [.int i, .int j] => some (.int (if j > i then j else i)) | _ => none
theorem oMax2_ok : OpC K (fun xs H Q => ∃ i j, xs = [.int i, .int j] ∧ Q (.int (if j > i then j else i)) H) oMax2 := by
  intro B ρ F H ω ds c vs Q w rs e k
  unfold oMax2 at e
  split at e
  · rename_i i j
    cases e
    obtain ⟨x, y, rfl, rx, ry⟩ := rps2 rs
    cases rp_int_inv rx
    cases rp_int_inv ry
    exact ⟨i, j, rfl, k _ F H (Grow.refl w.sub) rp_int⟩
  · cases e
/-- one list of ints -/
def intsOf (ω : List OB) (ds : List D) : Option (List Int) := match ds with
  | [d] => (vLs ω d).bind intsD
  | _ => none
theorem intsOf_ok {B : Bs} {ρ : List Addr} {F H : Hp} {ω : List OB} (w : Wd K B ρ F ω H) {ds : List D} {vs : List V} {ns : List Int} (r : Rps K ρ F ds vs) (e : intsOf ω ds = some ns) : ∃ a, vs = [V.ref a] ∧ SqL K H a (ns.map V.int) := by
  unfold intsOf at e
  split at e
  · rename_i d
    obtain ⟨x, rfl, rx⟩ := rps1 r
    cases ev : vLs ω d with
    | none => rw [ev] at e; cases e
    | some es =>
      rw [ev] at e
      have e' : intsD es = some ns := e
      obtain ⟨p, us, rfl, hp, rs⟩ := vLs_ok w rx ev
      have := ints_eq e'
      subst this
      exact ⟨p, rfl, by rw [← rs.ints]; exact hp⟩
  · cases e
def oSum : OC := fun ω ds => (intsOf ω ds).map fun ns => .int ns.sum
theorem oSum_ok : OpC K (rSum K) oSum := by
  intro B ρ F H ω ds c vs Q w rs e k
  unfold oSum at e
  cases en : intsOf ω ds with
  | none => rw [en] at e; cases e
  | some ns =>
    rw [en] at e
    cases e
    obtain ⟨a, rfl, h⟩ := intsOf_ok w rs en
    exact ⟨a, ns, rfl, h, k _ F H (Grow.refl w.sub) rp_int⟩
/-- the least, the greatest of some ints -/
def leastI : List Int → Int
  | [] => 0
  | a :: r => r.foldl (fun m x => if x < m then x else m) a
theorem foldl_le (r : List Int) : ∀ a, (r.foldl (fun m x => if x < m then x else m) a ≤ a) ∧ (∀ y ∈ r, r.foldl (fun m x => if x < m then x else m) a ≤ y) ∧ (r.foldl (fun m x => if x < m then x else m) a = a ∨ r.foldl (fun m x => if x < m then x else m) a ∈ r) := by
  induction r with
  | nil => intro a; exact ⟨Int.le_refl _, fun y h => by simp at h, .inl rfl⟩
  | cons x r ih =>
    intro a
    obtain ⟨h1, h2, h3⟩ := ih (if x < a then x else a)
    refine ⟨?_, fun y hy => ?_, ?_⟩
    · show List.foldl _ (if x < a then x else a) r ≤ a
      refine Int.le_trans h1 ?_
      split <;> omega
    · show List.foldl _ (if x < a then x else a) r ≤ y
      rcases List.mem_cons.mp hy with e | e
      · subst e
        refine Int.le_trans h1 ?_
        split <;> omega
      · exact h2 y e
    · show List.foldl _ (if x < a then x else a) r = a ∨ List.foldl _ (if x < a then x else a) r ∈ x :: r
      rcases h3 with e | e
      · by_cases hc : x < a
        · right; rw [e, if_pos hc]; exact List.mem_cons_self
        · left; rw [e, if_neg hc]
      · right; exact List.mem_cons_of_mem _ e
theorem leastI_ok {ns : List Int} (h : 0 < ns.length) : leastI ns ∈ ns ∧ ∀ y ∈ ns, leastI ns ≤ y := by
  cases ns with
  | nil => simp at h
  | cons a r =>
    obtain ⟨h1, h2, h3⟩ := foldl_le r a
    refine ⟨?_, fun y hy => ?_⟩
    · rcases h3 with e | e
      · show List.foldl _ a r ∈ a :: r
        rw [e]; exact List.mem_cons_self
      · exact List.mem_cons_of_mem _ e
    · rcases List.mem_cons.mp hy with e | e
      · subst e; exact h1
      · exact h2 y e
theorem least_uniq {ns : List Int} {m : Int} (h1 : m ∈ ns) (h2 : ∀ y ∈ ns, m ≤ y) : m = leastI ns := by
  have hl : 0 < ns.length := List.length_pos_of_mem h1
  obtain ⟨a, b⟩ := leastI_ok hl
  have := h2 _ a
  have := b _ h1
  omega
def oMin : OC := fun ω ds => (intsOf ω ds).bind fun ns => if ns.isEmpty then none else some (.int (leastI ns))
theorem oMin_ok : OpC K (rMin K) oMin := by
  intro B ρ F H ω ds c vs Q w rs e k
  unfold oMin at e
  cases en : intsOf ω ds with
  | none => rw [en] at e; cases e
  | some ns =>
    rw [en] at e
    have e' : (if ns.isEmpty then none else some (D.int (leastI ns))) = some c := e
    split at e'
    · cases e'
    · rename_i hne
      cases e'
      obtain ⟨a, rfl, h⟩ := intsOf_ok w rs en
      have hl : 0 < ns.length := by
        cases ns with
        | nil => exact absurd rfl hne
        | cons a r => simp
      exact ⟨a, ns, rfl, h, hl, fun m h1 h2 => by rw [least_uniq h1 h2]; exact k _ F H (Grow.refl w.sub) rp_int⟩
/-- all(..) of a list of bools -/
def oAll : OC := fun ω ds => match ds with
  | [d] => (vLs ω d).bind fun es => (bools es).map fun bs => .bl (bs.all id)
  | _ => none
theorem Rps.bls' {ρ : List Addr} {F : Hp} {ns : List Bool} {vs : List V} (h : Rps K ρ F (ns.map D.bl) vs) : vs = ns.map V.bl := h.bls
theorem oAll_ok : OpC K (rAll K) oAll := by
  intro B ρ F H ω ds c vs Q w rs e k
  unfold oAll at e
  split at e
  · rename_i d
    obtain ⟨x, rfl, rx⟩ := rps1 rs
    cases ev : vLs ω d with
    | none => rw [ev] at e; cases e
    | some es =>
      rw [ev] at e
      have e' : (bools es).map (fun bs => D.bl (bs.all id)) = some c := e
      cases eb : bools es with
      | none => rw [eb] at e'; cases e'
      | some bs =>
        rw [eb] at e'
        cases e'
        obtain ⟨p, us, rfl, hp, r⟩ := vLs_ok w rx ev
        have := bools_eq eb
        subst this
        rw [r.bls] at hp
        exact ⟨p, bs, rfl, hp, k _ F H (Grow.refl w.sub) rp_bl⟩
  · cases e
/-- tuple(x) -/
def oTuple : OC := fun ω ds => match ds with
  | [.tup es] => some (.tup es)
  | [d] => (vLs ω d).map .tup
  | _ => none
theorem oTuple_ok : OpC K (fun xs H Q => ∃ p ys, xs = [.ref p] ∧ ((SqL K H p ys ∧ ∀ l, H l = none → Q (.ref l) (upd H l (.tup ys))) ∨ (SqT K H p ys ∧ Q (.ref p) H))) oTuple := by
  intro B ρ F H ω ds c vs Q w rs e k
  unfold oTuple at e
  split at e
  · rename_i es
    cases e
    obtain ⟨x, rfl, rx⟩ := rps1 rs
    obtain ⟨p, us, rfl, hp, r⟩ := asT_ok w rx (show asT (.tup es) = some es from rfl)
    exact ⟨p, us, rfl, .inr ⟨hp, k _ F H (Grow.refl w.sub) rx⟩⟩
  · rename_i d _
    obtain ⟨x, rfl, rx⟩ := rps1 rs
    cases ev : vLs ω d with
    | none => rw [ev] at e; cases e
    | some es =>
      rw [ev] at e
      cases e
      obtain ⟨p, us, rfl, hp, r⟩ := vLs_ok w rx ev
      refine ⟨p, us, rfl, .inl ⟨hp, fun l hl => ?_⟩⟩
      have g := Grow.put (o := .tup us) w.sub hl
      exact k _ _ _ g (rp_tup (SqT.of upd_same) (Rps.mono (List.prefix_refl _) g.ff r))
  · cases e
/-- list(x): a new list -/
def oList : ON := fun ω ds => match ds with
  | [d] => vSq ω d
  | _ => none
theorem vSq_ok {B : Bs} {ρ : List Addr} {F H : Hp} {ω : List OB} (w : Wd K B ρ F ω H) {b : D} {y : V} {ds : List D} (rb : Rp K ρ F b y) (eb : vSq ω b = some ds) : ∃ p xs, y = .ref p ∧ (SqL K H p xs ∨ SqT K H p xs) ∧ Rps K ρ F ds xs := by
  cases b with
  | tup es =>
    cases eb
    obtain ⟨p, vs, rfl, hp, rs⟩ := asT_ok w rb (show asT (.tup _) = some _ from rfl)
    exact ⟨p, vs, rfl, .inr hp, rs⟩
  | lst es => obtain ⟨p, vs, rfl, hp, rs⟩ := vLs_ok w rb eb; exact ⟨p, vs, rfl, .inl hp, rs⟩
  | scr es => obtain ⟨p, vs, rfl, hp, rs⟩ := vLs_ok w rb eb; exact ⟨p, vs, rfl, .inl hp, rs⟩
  | obj es => obtain ⟨p, vs, rfl, hp, rs⟩ := vLs_ok w rb eb; exact ⟨p, vs, rfl, .inl hp, rs⟩
  | _ => cases eb
theorem oList_ok : OpCN K (fun xs H Q => ∃ p ys, xs = [.ref p] ∧ (SqL K H p ys ∨ SqT K H p ys) ∧ ∀ l, H l = none → Q (.ref l) (upd H l (.lst ys))) oList := by
  intro B ρ F H ω ds c vs Q w rs e k
  unfold oList at e
  split at e
  · rename_i d
    obtain ⟨x, rfl, rx⟩ := rps1 rs
    obtain ⟨p, us, rfl, hp, r⟩ := vSq_ok w rx e
    exact ⟨p, us, rfl, hp, fun l hl => k l us hl r⟩
  · cases e
/-- sorted(x) of ints: a new list -/
def insI (x : Int) : List Int → List Int
  | [] => [x]
  | y :: r => if x ≤ y then x :: y :: r else y :: insI x r
def sortI : List Int → List Int
  | [] => []
  | x :: r => insI x (sortI r)
theorem insI_perm (x : Int) : ∀ l : List Int, (insI x l).Perm (x :: l)
  | [] => List.Perm.refl _
  | y :: r => by
    unfold insI
    split
    · exact List.Perm.refl _
    · exact ((insI_perm x r).cons y).trans (List.Perm.swap x y r)
theorem sortI_perm : ∀ l : List Int, (sortI l).Perm l
  | [] => List.Perm.refl _
  | x :: r => (insI_perm x (sortI r)).trans ((sortI_perm r).cons x)
theorem insI_sorted (x : Int) : ∀ l : List Int, l.Pairwise (· ≤ ·) → (insI x l).Pairwise (· ≤ ·)
  | [], _ => by unfold insI; simp
  | y :: r, h => by
    unfold insI
    rw [List.pairwise_cons] at h
    split
    · rename_i hxy
      rw [List.pairwise_cons, List.pairwise_cons]
      refine ⟨fun a ha => ?_, h⟩
      rcases List.mem_cons.mp ha with e | e
      · subst e; exact hxy
      · have := h.1 a e; omega
    · rename_i hxy
      rw [List.pairwise_cons]
      refine ⟨fun a ha => ?_, insI_sorted x r h.2⟩
      have := (insI_perm x r).mem_iff.mp ha
      rcases List.mem_cons.mp this with e | e
      · subst e; omega
      · exact h.1 a e
theorem sortI_sorted : ∀ l : List Int, (sortI l).Pairwise (· ≤ ·)
  | [] => List.Pairwise.nil
  | x :: r => insI_sorted x _ (sortI_sorted r)
theorem sorted_uniq : ∀ {a b : List Int}, a.Perm b → a.Pairwise (· ≤ ·) → b.Pairwise (· ≤ ·) → a = b
  | [], b, p, _, _ => by rw [p.nil_eq]
  | x :: a, [], p, _, _ => by have := p.length_eq; simp at this
  | x :: a, y :: b, p, ha, hb => by
    rw [List.pairwise_cons] at ha hb
    have e : x = y := by
      have h1 : y ∈ x :: a := p.mem_iff.mpr List.mem_cons_self
      have h2 : x ∈ y :: b := p.mem_iff.mp List.mem_cons_self
      rcases List.mem_cons.mp h1 with e | e
      · exact e.symm
      · rcases List.mem_cons.mp h2 with e2 | e2
        · exact e2
        · have := ha.1 y e
          have := hb.1 x e2
          omega
    subst e
    rw [sorted_uniq ((List.perm_cons x).mp p) ha.2 hb.2]
theorem perm_sortI {a b : List Int} (p : a.Perm b) (s : a.Pairwise (· ≤ ·)) : a = sortI b := sorted_uniq (p.trans (sortI_perm b).symm) s (sortI_sorted b)
def oSorted : ON := fun ω ds => (intsOf ω ds).map fun ns => (sortI ns).map D.int
theorem oSorted_ok : OpCN K (rSortedI K) oSorted := by
  intro B ρ F H ω ds c vs Q w rs e k
  unfold oSorted at e
  cases en : intsOf ω ds with
  | none => rw [en] at e; cases e
  | some ns =>
    rw [en] at e
    cases e
    obtain ⟨a, rfl, h⟩ := intsOf_ok w rs en
    exact ⟨a, ns, rfl, h, fun ns' p h1 h2 hp => by
      rw [perm_sortI h1 h2]
      exact k p _ hp (Rps.of_ints _)⟩
end
end DL

set_option Elab.async false
set_option linter.all false
set_option maxRecDepth 100000
set_option maxHeartbeats 2000000
noncomputable section
namespace DL
open PySem PySem.Spec PyProof.Rows L2

/-! ### shared objects are changed -/
section
variable {K : PySem.W.Frag} {B : Bs} {ρ : List Addr} {F : Hp} {γ : List SD} {ω : List OB} {σ : L2.St} {H : Hp}
theorem Rep.objSet (r : Rep K B ρ F γ ω σ H) {h : Nat} {a : Addr} {o o' : OB} {u : HO} (ha : ρ[h]? = some a) (ho : ω[h]? = some o) (n : ObAt K ρ F (upd H a u) a o') : Rep K B ρ F γ (ω.set h o') σ (upd H a u) := by
  have hm : a ∈ ρ := List.mem_of_getElem? ha
  obtain ⟨q, hq⟩ := (r.wd.obs h a o ha ho).some
  have off : ∀ x, x ≠ a → upd H a u x = H x := fun x hx => upd_ne hx
  refine ⟨?_, r.len, fun j sd hj => ?_, r.apart⟩
  · exact { sub := fun x v e => by
              have n : x ≠ a := fun z => by subst z; rw [r.wd.nof x hm] at e; cases e
              rw [off x n]; exact r.wd.sub x v e
            old := fun x v e hx => by
              have n : x ≠ a := fun z => by
                subst z
                obtain ⟨l, el, hl⟩ := r.wd.pre
                rw [el] at hm
                rcases List.mem_append.mp hm with y | y
                · exact hx y
                · rw [hl x y] at e; cases e
              rw [off x n]; exact r.wd.old x v e hx
            pre := r.wd.pre
            fsub := r.wd.fsub
            fnew := r.wd.fnew
            nd := r.wd.nd
            nof := r.wd.nof
            len := by simpa using r.wd.len
            obs := fun j b v h1 h2 => by
              by_cases hj : j = h
              · subst hj
                have hlt : j < ω.length := (List.getElem?_eq_some_iff.mp ho).1
                rw [List.getElem?_set_self hlt] at h2
                cases h2
                rw [ha] at h1
                cases h1
                exact n
              · rw [List.getElem?_set_ne (Ne.symm hj)] at h2
                have nb : b ≠ a := fun z => by
                  subst z
                  exact hj (nd_ix r.wd.nd h1 ha)
                exact (r.wd.obs j b v h1 h2).mono (List.prefix_refl _) (Same.refl _) (off b nb) }
  · have q := r.slots j sd hj
    cases sd with
    | no => trivial
    | dat d => exact q
    | own es =>
      obtain ⟨p', vs', e', hp', rs2, f', np', h0'⟩ := q
      have n : p' ≠ a := fun z => by subst z; exact np' hm
      exact ⟨p', vs', e', by rw [off p' n]; exact hp', rs2, f', np', h0'⟩
    | exn e => exact q
end
/-- a list's method by name: what it returns, what the objects are behind it -/
abbrev OM := List OB → D → List D → Option (D × List OB)
def eMt (op : OM) (f : EF) (a : M (List D)) : EF := f.bind fun d γ ω => if (vL ω d).isSome = true then (a.bind fun ds γ ω => match op ω d ds with
  | some (r, ω') => .ok r γ ω'
  | none => .bad) γ ω else .bad
def OpM (K : PySem.W.Frag) (r : V → List V → Hp → VK → Prop) (op : OM) : Prop := ∀ (B : Bs) (ρ : List Addr) (F H : Hp) (γ : List SD) (ω ω' : List OB) (σ : L2.St) (d c : D) (ds : List D) (x : V) (xs : List V) (Q : VK),
  Rep K B ρ F γ ω σ H → Rp K ρ F d x → Rps K ρ F ds xs → op ω d ds = some (c, ω') → (∀ v F' H', Rep K B ρ F' γ ω' σ H' → Same F F' → Rp K ρ F' c v → Q v H') → r x xs H Q
section
variable {X : Cx} {W : WX} {K : PySem.W.Frag}
theorem mt_use {mg : Str → Option Value} {op : OM} {f : EF} {a : M (List D)} {r : V → List V → Hp → VK → Prop} (ho : OpM K r op) {σ : L2.St} {H : Hp} {Q : VK} (h : dX K mg W (eMt op f a) σ H Q) :
    dX K mg W f σ H fun x H1 => tyV K "list" x H1 ∧ dX K mg W a σ H1 fun xs H2 => r x xs H2 Q := by
  obtain ⟨B, ρ, F, γ, ω, rp, q⟩ := h
  refine ⟨B, ρ, F, γ, ω, rp, Sat.bind q fun d x γ1 ω1 ρ1 F1 H1 r1 p1 s1 q1 q => ?_⟩
  by_cases hl : (vL ω1 d).isSome = true
  · rw [if_pos hl] at q
    obtain ⟨ds0, e0⟩ := Option.isSome_iff_exists.mp hl
    obtain ⟨p, vs, rfl, hp, _⟩ := vL_ok r1.wd q1 e0
    refine ⟨.inl ⟨rfl, vs, SqL.of hp⟩, B, ρ1, F1, γ1, ω1, r1, Sat.bind q fun ds xs γ2 ω2 ρ2 F2 H2 r2 p2 s2 q2 q => ?_⟩
    cases e : op ω2 d ds with
    | none => rw [e] at q; exact q.elim
    | some cw =>
      obtain ⟨c, ω'⟩ := cw
      rw [e] at q
      exact ho B ρ2 F2 H2 γ2 ω2 ω' σ d c ds _ xs Q r2 (Rp.mono p2 s2 q1) q2 e fun v F' H' r' s' rv => q v ρ2 F' H' r' (List.prefix_refl _) s' rv
  · rw [if_neg hl] at q; exact q.elim
theorem de_mt {o e : Expr} {es : List Expr} {name : Str} {id : String} {apos cpos : Pos} {op : OM} {f : EF} {a : M (List D)} {r : V → List V → Hp → VK → Prop} (slot : Slot "list" name id) (hty : typeOf (.builtin id) = pure (.type "method_descriptor")) (hm : MtR X id r) (ho : OpM X.K r op) (h1 : DE X W o f) (h2 : DA X W (e :: es) a)
    (hbase : attributeBase o name X.env (eval o X.env) = eval o X.env := by rfl)
    (hfew : ((backTo cpos (starEach (e :: es) X.env)).all (fun x => !x.1) && (backToKw cpos (keywordEach [] X.env)).all (fun x => x.1.isSome)
      && decide ((e :: es).length + ([] : List Keyword).length + (if ([] : List Keyword).isEmpty then 0 else 1) < 30)) = true := by rfl)
    (hline : (apos.endLine == cpos.line) = true := by rfl) (hs : starEach (e :: es) X.env = (false, eval e X.env) :: starEach es X.env := by rfl) (hplain : (backTo cpos (starEach es X.env)).any (·.1) = false := by rfl) :
    DE X W (.Call (.Attribute o name apos) (e :: es) [] cpos) (eMt op f a) :=
  (pe_bm PySem.F.plainAttrs_list slot hty hm h1 h2 hbase hfew hline hs hplain).imp fun _ _ _ h => mt_use ho h
theorem de_mt0 {o : Expr} {name : Str} {id : String} {apos cpos : Pos} {op : OM} {f : EF} {r : V → List V → Hp → VK → Prop} (slot : Slot "list" name id) (hty : typeOf (.builtin id) = pure (.type "method_descriptor")) (hm : MtR X id r) (ho : OpM X.K r op) (h1 : DE X W o f)
    (hbase : attributeBase o name X.env (eval o X.env) = eval o X.env := by rfl) (hline : (apos.endLine == cpos.line) = true := by rfl) : DE X W (.Call (.Attribute o name apos) [] [] cpos) (eMt op f aNil) :=
  (pe_bm0 PySem.F.plainAttrs_list slot hty hm h1 hbase hline).imp fun σ H Q h => by
    obtain ⟨B, ρ, F, γ, ω, rp, q⟩ := mt_use ho h
    refine ⟨B, ρ, F, γ, ω, rp, ?_⟩
    cases em : f γ ω with
    | bad => rw [em] at q; exact q
    | exc e γ1 ω1 => rw [em] at q; exact q
    | ok d γ1 ω1 =>
      rw [em] at q
      intro v ρ' F' H' r p s rv
      obtain ⟨h1, B2, ρ2, F2, γ2, ω2, r2, q2⟩ := q v ρ' F' H' r p s rv
      exact ⟨h1, q2 [] ρ2 F2 H' r2 (List.prefix_refl _) (Same.refl _) Rps.nil⟩
/-- the shared list of a handle -/
def hL (ω : List OB) (d : D) : Option (Nat × List D) := match d with
  | .obj h => match ω[h]? with | some (.lst xs) => some (h, xs) | _ => none
  | _ => none
theorem hL_ok {B : Bs} {ρ : List Addr} {F H : Hp} {ω : List OB} (w : Wd K B ρ F ω H) {d : D} {v : V} {h : Nat} {ds : List D} (r : Rp K ρ F d v) (e : hL ω d = some (h, ds)) : ∃ a vs, v = .ref a ∧ ρ[h]? = some a ∧ ω[h]? = some (.lst ds) ∧ H a = some (.lst vs) ∧ Rps K ρ F ds vs := by
  unfold hL at e
  split at e
  · split at e
    · rename_i xs eo
      cases e
      obtain ⟨a, rfl, ha, vs, hv, rs⟩ := w.obj r eo
      exact ⟨a, vs, rfl, ha, eo, hv, rs⟩
    · cases e
  · cases e
def mAppend : OM := fun ω d ds => match ds with
  | [y] => (hL ω d).bind fun p => if p.2.length < 1000000 then some (.non, ω.set p.1 (.lst (p.2 ++ [y]))) else none
  | _ => none
theorem mAppend_ok : OpM K rAppend mAppend := by
  intro B ρ F H γ ω ω' σ d c ds x xs Q r rd rs e k
  unfold mAppend at e
  split at e
  · rename_i y
    cases eh : hL ω d with
    | none => rw [eh] at e; cases e
    | some p =>
      obtain ⟨h, zs⟩ := p
      rw [eh] at e
      have e' : (if zs.length < 1000000 then some (D.non, ω.set h (OB.lst (zs ++ [y]))) else none) = some (c, ω') := e
      split at e'
      · rename_i hz
        cases e'
        obtain ⟨a, vs, rfl, ha, ho, hv, rz⟩ := hL_ok r.wd rd eh
        obtain ⟨v, rfl, rv⟩ := rps1 rs
        refine ⟨a, vs, v, rfl, rfl, hv, by rw [← rz.len, sizeLine_eq]; omega, ?_⟩
        exact k .non F _ (r.objSet ha ho ⟨_, upd_same, rz.snoc rv⟩) (Same.refl _) rp_non
      · cases e'
  · cases e
def mPop : OM := fun ω d ds => match ds with
  | [] => (hL ω d).bind fun p => (p.2[p.2.length - 1]?).map fun y => (y, ω.set p.1 (.lst p.2.dropLast))
  | _ => none
theorem Rps.dropLast {ρ : List Addr} {F : Hp} {ds : List D} {vs : List V} (r : Rps K ρ F ds vs) : Rps K ρ F ds.dropLast vs.dropLast := by
  rw [List.dropLast_eq_take, List.dropLast_eq_take, r.len]
  exact r.take _
theorem mPop_ok : OpM K rPop mPop := by
  intro B ρ F H γ ω ω' σ d c ds x xs Q r rd rs e k
  unfold mPop at e
  split at e
  · cases eh : hL ω d with
    | none => rw [eh] at e; cases e
    | some p =>
      obtain ⟨h, zs⟩ := p
      rw [eh] at e
      have e' : (zs[zs.length - 1]?).map (fun y => (y, ω.set h (OB.lst zs.dropLast))) = some (c, ω') := e
      cases ey : zs[zs.length - 1]? with
      | none => rw [ey] at e'; cases e'
      | some y =>
        rw [ey] at e'
        cases e'
        obtain ⟨a, vs, rfl, ha, ho, hv, rz⟩ := hL_ok r.wd rd eh
        obtain ⟨v, ev, rv⟩ := rz.get ey
        unfold Rps at rs
        subst rs
        refine ⟨a, vs, v, rfl, rfl, hv, by rw [← rz.len]; exact ev, ?_⟩
        exact k v F _ (r.objSet ha ho ⟨_, upd_same, Rps.dropLast rz⟩) (Same.refl _) rv
  · cases e
def mPopAt : OM := fun ω d ds => match ds with
  | [.int i] => if cdec (0 ≤ i ∧ i < 2 ^ 63) = true then (hL ω d).bind fun p => (p.2[i.toNat]?).map fun y => (y, ω.set p.1 (.lst (p.2.eraseIdx i.toNat))) else none
  | _ => none
theorem mPopAt_ok : OpM K rPopAt mPopAt := by
  intro B ρ F H γ ω ω' σ d c ds x xs Q r rd rs e k
  unfold mPopAt at e
  split at e
  · rename_i i
    split at e
    · rename_i hi
      obtain ⟨h0, h1⟩ := cdec_of hi
      cases eh : hL ω d with
      | none => rw [eh] at e; cases e
      | some p =>
        obtain ⟨h, zs⟩ := p
        rw [eh] at e
        have e' : (zs[i.toNat]?).map (fun y => (y, ω.set h (OB.lst (zs.eraseIdx i.toNat)))) = some (c, ω') := e
        cases ey : zs[i.toNat]? with
        | none => rw [ey] at e'; cases e'
        | some y =>
          rw [ey] at e'
          cases e'
          obtain ⟨a, vs, rfl, ha, ho, hv, rz⟩ := hL_ok r.wd rd eh
          obtain ⟨v, ev, rv⟩ := rz.get ey
          obtain ⟨u, rfl, ru⟩ := rps1 rs
          cases rp_int_inv ru
          have hlt : i.toNat < vs.length := (List.getElem?_eq_some_iff.mp ev).1
          refine ⟨a, vs, i, i.toNat, v, rfl, rfl, hv, by omega, h1, PySem.StrLaws.seqIndex_nonneg h0 (by omega), ev, ?_⟩
          exact k v F _ (r.objSet ha ho ⟨_, upd_same, rz.eraseIdx _⟩) (Same.refl _) rv
    · cases e
  · cases e
def mExtend : OM := fun ω d ds => match ds with
  | [y] => (hL ω d).bind fun p => (vL ω y).bind fun zs => if p.2.length + zs.length ≤ 1000000 then some (.non, ω.set p.1 (.lst (p.2 ++ zs))) else none
  | _ => none
theorem mExtend_ok : OpM K rExtend mExtend := by
  intro B ρ F H γ ω ω' σ d c ds x xs Q r rd rs e k
  unfold mExtend at e
  split at e
  · rename_i y
    cases eh : hL ω d with
    | none => rw [eh] at e; cases e
    | some p =>
      obtain ⟨h, zs⟩ := p
      rw [eh] at e
      have e' : ((vL ω y).bind fun ys => if zs.length + ys.length ≤ 1000000 then some (D.non, ω.set h (OB.lst (zs ++ ys))) else none) = some (c, ω') := e
      cases ev : vL ω y with
      | none => rw [ev] at e'; cases e'
      | some ys =>
        rw [ev] at e'
        have e2 : (if zs.length + ys.length ≤ 1000000 then some (D.non, ω.set h (OB.lst (zs ++ ys))) else none) = some (c, ω') := e'
        split at e2
        · rename_i hz
          cases e2
          obtain ⟨a, vs, rfl, ha, ho, hv, rz⟩ := hL_ok r.wd rd eh
          obtain ⟨v, rfl, rv⟩ := rps1 rs
          obtain ⟨b, us, rfl, hb, ru⟩ := vL_ok r.wd rv ev
          refine ⟨a, b, vs, us, rfl, rfl, hv, hb, by rw [← rz.len, ← ru.len, sizeLine_eq]; omega, ?_⟩
          exact k .non F _ (r.objSet ha ho ⟨_, upd_same, rz.append ru⟩) (Same.refl _) rp_non
        · cases e2
  · cases e
/-- o[i] = e, o a shared list -/
def sSub (fo fi fe : EF) : M Fl := fe.bind fun y => fo.bind fun o => fi.bind fun i γ ω => match i with
  | .int k => (match hL ω o with
    | some (h, xs) => (match ixN xs.length k with
      | some j => .ok .nx γ (ω.set h (.lst (xs.set j y)))
      | none => .bad)
    | none => .bad)
  | _ => .bad
theorem ds_sub {o i e : Expr} {fo fi fe : EF} {tpos pos : Pos} (he : DE X W e fe) (h1 : DE X W o fo) (h2 : DE X W i fi)
    (ha : ∀ v, assign (.Subscript o i tpos) X.env v = (do
      let ov ← holding [v] (eval o X.env)
      let iv ← holding [v, ov] (eval i X.env)
      standAt tpos
      holding [v, ov, iv] (setItem ov iv v)
      release [v, ov, iv] []) := by intro _; rfl) (hs : swapsWithSole [.Subscript o i tpos] e pos.line X.env = pure false := by rfl) (hw : swappedStores [.Subscript o i tpos] e X.env = pure none := by rfl)
    (h3 : (assignEach [.Subscript o i tpos] X.env).map (·.2) = [assign (.Subscript o i tpos) X.env] := by rfl) : DS X W (.Assign [.Subscript o i tpos] e pos) (sSub fo fi fe) :=
  (ps_asg he (pg_sub h1 h2 set_list ha) hs hw h3).imp fun E σ H ⟨B, ρ, F, γ, ω, rp, q⟩ => ⟨B, ρ, F, γ, ω, rp, SatS.bind q fun dy y γ1 ω1 ρ1 F1 H1 r1 p1 s1 q1 q =>
    ⟨B, ρ1, F1, γ1, ω1, r1, SatS.bind q fun dd x γ2 ω2 ρ2 F2 H2 r2 p2 s2 q2 q => ⟨B, ρ2, F2, γ2, ω2, r2, SatS.bind q fun di iv γ3 ω3 ρ3 F3 H3 r3 p3 s3 q3 q => by
      split at q
      · rename_i k
        split at q
        · rename_i h xs eh
          split at q
          · rename_i j ej
            obtain ⟨a, vs, rfl, ha, ho, hv, rz⟩ := hL_ok r3.wd (Rp.mono p3 s3 q2) eh
            refine ⟨a, vs, k, j, rfl, rp_int_inv q3, hv, by rw [← rz.len]; exact ej, ?_⟩
            exact q σ ρ3 F3 _ (r3.objSet ha ho ⟨_, upd_same, rz.set j (Rp.mono (p2.trans p3) (s2.trans s3) q1)⟩) (List.prefix_refl _) (Same.refl _)
          · exact q.elim
        · exact q.elim
      · exact q.elim⟩⟩⟩

/-! ### fields and methods of instances -/
/-- the instance of the class at C that a handle means -/
def hI (C : Addr) (ω : List OB) (d : D) : Option (Nat × List (Str × D)) := match d with
  | .obj h => match ω[h]? with | some (.ins C' fs) => if C' = C then some (h, fs) else none | _ => none
  | _ => none
theorem hI_ok {B : Bs} {ρ : List Addr} {F H : Hp} {ω : List OB} {C : Addr} (w : Wd K B ρ F ω H) {d : D} {v : V} {h : Nat} {fs : List (Str × D)} (r : Rp K ρ F d v) (e : hI C ω d = some (h, fs)) : ∃ a dx gs, v = .ref a ∧ ρ[h]? = some a ∧ ω[h]? = some (.ins C fs) ∧ H a = some (.ins C dx gs) ∧ RpF K ρ F fs gs := by
  unfold hI at e
  split at e
  · split at e
    · rename_i C' gs eo
      split at e
      · rename_i hc
        cases e
        subst hc
        obtain ⟨a, rfl, ha, dx, gs, hv, rs⟩ := w.obj r eo
        exact ⟨a, dx, gs, rfl, ha, eo, hv, rs⟩
      · cases e
    · cases e
  · cases e
def eFld (C : Addr) (f : EF) (x : Str) : EF := f.bind fun d γ ω => match (hI C ω d).bind fun p => p.2.lookup x with
  | some y => .ok y γ ω
  | none => .bad
theorem de_fld {o : Expr} {f : EF} {x : Str} {pos : Pos} {C : Addr} (c : Cls X.K C) (n : NoAttr X.K C x) (h : DE X W o f) (hb : attributeBase o x X.env (eval o X.env) = eval o X.env := by rfl) : DE X W (.Attribute o x pos) (eFld C f x) :=
  (pe_fld h hb).imp fun σ H Q ⟨B, ρ, F, γ, ω, rp, q⟩ => ⟨B, ρ, F, γ, ω, rp, Sat.bind q fun d v γ1 ω1 ρ1 F1 H1 r1 p1 s1 q1 q => by
    cases ei : hI C ω1 d with
    | none => rw [ei] at q; exact q.elim
    | some p =>
      obtain ⟨h, fs⟩ := p
      rw [ei] at q
      have q' : Sat (α := D) X.K X.mg W B ρ1 F1 σ Q (match fs.lookup x with | some y => .ok y γ1 ω1 | none => .bad) := q
      cases el : fs.lookup x with
      | none => rw [el] at q'; exact q'.elim
      | some y =>
        rw [el] at q'
        obtain ⟨a, dx, gs, rfl, ha, ho, hv, rs⟩ := hI_ok r1.wd q1 ei
        obtain ⟨u, eu, ru⟩ := RpF.look rs el
        exact ⟨a, C, dx, gs, u, rfl, hv, c, n, eu, q'.here r1 ru⟩⟩
def putD (x : Str) (y : D) : List (Str × D) → List (Str × D)
  | [] => [(x, y)]
  | (g, z) :: r => if g = x then (g, y) :: r else (g, z) :: putD x y r
theorem RpF.len {ρ : List Addr} {F : Hp} : ∀ {ds : List (Str × D)} {vs : List (Str × V)}, RpF K ρ F ds vs → ds.length = vs.length
  | [], _, h => by have h' : _ = _ := h; subst h'; rfl
  | (x, d) :: r, _, ⟨v, s, e, h1, h2⟩ => by subst e; simp [RpF.len h2]
theorem RpF.put {ρ : List Addr} {F : Hp} {x : Str} {y : D} {v : V} (h : Rp K ρ F y v) : ∀ {ds : List (Str × D)} {vs : List (Str × V)}, RpF K ρ F ds vs → RpF K ρ F (putD x y ds) (putF x v vs)
  | [], _, e => by
    have e' : _ = [] := e
    subst e'
    exact ⟨v, [], rfl, h, rfl⟩
  | (g, d) :: r, _, ⟨u, s, e, h1, h2⟩ => by
    subst e
    unfold putD putF
    by_cases hg : g = x
    · rw [if_pos hg, if_pos hg]; exact ⟨v, s, rfl, h, h2⟩
    · rw [if_neg hg, if_neg hg]; exact ⟨u, _, rfl, h1, RpF.put h h2⟩
def sFldD (C : Addr) (fo fe : EF) (x : Str) : M Fl := fe.bind fun y => fo.bind fun d γ ω => match hI C ω d with
  | some (h, fs) => if fs.length < 900 then .ok .nx γ (ω.set h (.ins C (putD x y fs))) else .bad
  | none => .bad
theorem ds_fld {o e : Expr} {fo fe : EF} {x : Str} {pos pos' : Pos} {C : Addr} (c : Cls X.K C) (n : NoAttr X.K C x) (ho : DE X W o fo) (he : DE X W e fe) (hs : swapsWith e (some (.Attribute o x pos')) pos.line X.env = pure false := by rfl) :
    DS X W (.Assign [.Attribute o x pos'] e pos) (sFldD C fo fe x) :=
  (ps_fld ho he hs).imp fun E σ H ⟨B, ρ, F, γ, ω, rp, q⟩ => ⟨B, ρ, F, γ, ω, rp, SatS.bind q fun dy y γ1 ω1 ρ1 F1 H1 r1 p1 s1 q1 q => ⟨B, ρ1, F1, γ1, ω1, r1, SatS.bind q fun d v γ2 ω2 ρ2 F2 H2 r2 p2 s2 q2 q => by
    cases ei : hI C ω2 d with
    | none => rw [ei] at q; exact q.elim
    | some p =>
      obtain ⟨h, fs⟩ := p
      rw [ei] at q
      dsimp only at q
      split at q
      · rename_i hl
        obtain ⟨a, dx, gs, rfl, ha, ho, hv, rs⟩ := hI_ok r2.wd q2 ei
        refine ⟨a, C, dx, gs, rfl, hv, c, n, by rw [← RpF.len rs]; omega, ?_⟩
        exact q σ ρ2 F2 _ (r2.objSet ha ho ⟨dx, _, upd_same, RpF.put (Rp.mono p2 s2 q1) rs⟩) (List.prefix_refl _) (Same.refl _)
      · exact q.elim⟩⟩
end
/-! ### calls of methods, calls by keywords -/
/-- the keywords' values put in the parameters' order -/
def permL {α : Type} (is : List Nat) (l : List α) : List α := is.filterMap fun i => l[i]?
theorem permL_rps {K : PySem.W.Frag} {ρ : List Addr} {F : Hp} {ds : List D} {vs : List V} (r : Rps K ρ F ds vs) : ∀ is : List Nat, Rps K ρ F (permL is ds) (permL is vs)
  | [] => Rps.nil
  | i :: is => by
    unfold permL
    rw [List.filterMap_cons, List.filterMap_cons]
    cases e : ds[i]? with
    | none =>
      have : vs[i]? = none := by
        rw [List.getElem?_eq_none_iff] at e ⊢
        rw [← r.len]; exact e
      rw [this]
      exact permL_rps r is
    | some d =>
      obtain ⟨v, ev, rv⟩ := r.get e
      rw [ev]
      exact Rps.cons rv (permL_rps r is)
theorem permL_vals {vs : List V} {us : List Value} (r : Vals vs us) : ∀ is : List Nat, Vals (permL is vs) (permL is us)
  | [] => .nil
  | i :: is => by
    unfold permL
    rw [List.filterMap_cons, List.filterMap_cons]
    cases e : vs[i]? with
    | none => rw [r.none_of e]; exact permL_vals r is
    | some d =>
      obtain ⟨v, ev, rv⟩ := r.get e
      rw [ev]
      exact .cons rv (permL_vals r is)
/-- f(k1 = .., ..), o.m(k1 = .., ..): n places ahead (self) -/
structure KwB (fd : FuncData) (ps ks : List Str) (n : Nat) (is : List Nat) : Prop where
  to : ∀ (s : Shared) (us ws : List Value), us.length = n → ws.length = ks.length → BindsTo s fd ⟨us, ks.zip ws⟩ (ps.zip (us ++ permL is ws))
section
variable {X : Cx} {W : WX} {k n : Nat} {f C : Addr} {fd : FuncData} {ps ks : List Str} {is : List Nat} {x m : Str} {p pos apos : Pos} {e o : Expr} {es : List Expr} {kws : List Keyword} {fo : EF} {fa fk : M (List D)} {fn : Fn} {sp : Sp} {E : L2.St → XK}
theorem run_kw {CX : CXT} {pins : List (Addr × Obj)} {σ : L2.St} {H : Hp} {s : Shared} {Q : VK} {us ws : List Value} {vs zs : List V} (G : FnOk X.prog X.w X.K X.mg X.base CX k f fd ps sp) (hr : Room k X.A) (hb : KwB fd ps ks n is) (hx : PassesAt CX X σ (E σ)) (I : Inv X pins σ H s)
    (r : Vals vs us) (rz : Vals zs ws) (l1 : us.length = n) (l2 : ws.length = ks.length) (h : sp (vs ++ permL is zs) H Q (E σ)) : wpAny (model X.prog X.w) X.A (call (.ref f) us (ks.zip ws)) (EP X pins σ Q) X.xe s := by
  have r2 : Vals (vs ++ permL is zs) (us ++ permL is ws) := r.append (permL_vals rz is)
  refine wpAny_call (codeAny_mono (G.run X.A X.stack s H ⟨us, ks.zip ws⟩ (us ++ permL is ws) (vs ++ permL is zs) Q (E σ) hr I.env0 (hb.to s us ws l1 l2) r2 h) fun r s' hq => ?_)
  cases r with
  | error e => exact hx pins H s e s' I hq
  | ok fl =>
    cases fl with
    | ret u => exact I.after hq
    | next => exact False.elim hq
    | brk => exact False.elim hq
    | cont => exact False.elim hq
abbrev DK (X : Cx) (W : WX) (kws : List Keyword) (f : M (List D)) : Prop := PK X kws (dX X.K X.mg W f)
theorem _root_.L2.PK.imp {X : Cx} {es : List Keyword} {t t' : TA} (h : PK X es t) (k : ∀ σ H Q, t' σ H Q → t σ H Q) : PK X es t' := ⟨fun pos pins s σ H Q I q => h.run pos pins s σ H Q I (k σ H Q q)⟩
theorem dk_nil : DK X W [] aNil := pk_nil.imp fun σ H Q ⟨B, ρ, F, γ, ω, rp, q⟩ => q.here rp Rps.nil
theorem dk_cons {e : Expr} {kws : List Keyword} {f : EF} {g : M (List D)} {nm : Option Str} {kp : Pos} (h1 : DE X W e f) (h2 : DK X W kws g) : DK X W (⟨nm, e, kp⟩ :: kws) (aCons f g) :=
  (pk_cons h1 h2).imp fun σ H Q ⟨B, ρ, F, γ, ω, rp, q⟩ => ⟨B, ρ, F, γ, ω, rp, Sat.bind q fun d v γ1 ω1 ρ1 F1 H1 r1 p1 s1 q1 q =>
    ⟨B, ρ1, F1, γ1, ω1, r1, Sat.bind q fun ds vs γ2 ω2 ρ2 F2 H2 r2 p2 s2 q2 q => q.here r2 (Rps.cons (Rp.mono p2 s2 q1) q2)⟩⟩
/-- a function's result for its caller -/
def ret (f : Fn) (ds : List D) : EF := fun γ ω => match f ds ω with
  | .ok d _ ω' => .ok d γ ω'
  | .exc e _ ω' => .exc e γ ω'
  | .bad => .bad
def eFunK (f : Fn) (is : List Nat) (a : M (List D)) : EF := a.bind fun ds => ret f (permL is ds)
theorem de_callK (G : FnOk X.prog X.w X.K X.mg X.base (L2.CX X.prog X.w) k f fd ps (spF X.K X.mg n fn)) (hm : X.mg x = some (.ref f)) (hk : PySem.W.keepIn X.K (.ref f) = true) (hb : KwB fd ps ks 0 is) (hr : Room k X.A) (hg : Gl X x) (tk : Takes X W) (hkw : DK X W kws fk) (hl : Len ks.length fk) (hn : ∀ ds : List D, ds.length = ks.length → (permL is ds).length = n)
    (hall : (backToKw pos (keywordEach kws X.env)).all (·.1.isSome) = true := by rfl) (hks : (backToKw pos (keywordEach kws X.env)).filterMap (·.1) = ks := by rfl)
    (hdb : (x == ("__debug__" : Str)) = false := by decide) (hpl : ((backTo pos (starEach [] X.env)).any (·.1) || (backToKw pos (keywordEach kws X.env)).any (·.1.isNone)) = false := by rfl) : DE X W (.Call (.Name x p) [] kws pos) (eFunK fn is fk) := by
  refine ⟨fun pins s σ H Q I ⟨B, ρ, F, γ, ω, rp, q⟩ => ?_⟩
  have q' : Sat (α := D) X.K X.mg W B ρ F σ Q ((fk γ ω).bind fun ds => ret fn (permL is ds)) := q
  refine wpAny_Call_Name_kw (ld_glob I hg hm ?_ hdb)
  refine PySem.W.callWith_KW0 (h₀ := X.base) I.ok.mod.kin hk hall (thn (hkw.run pos pins s σ H (fun zs H2 => spF X.K X.mg n fn (permL is zs) H2 Q (WE W σ) ∧ zs.length = ks.length) I ⟨B, ρ, F, γ, ω, rp, ?_⟩) fun ws s2 ⟨zs, H2, I2, rz, q2, lz⟩ => ⟨I2.kIn, ?_⟩) hpl
  · cases em : fk γ ω with
    | bad => rw [em] at q'; exact q'
    | exc e γ1 ω1 => rw [em] at q'; exact q'
    | ok ds γ1 ω1 =>
      rw [em] at q'
      intro vs ρ1 F1 H1 r1 p1 s1 rs
      have ld := hl γ ω ds γ1 ω1 em
      exact ⟨sat_call r1 (permL_rps rs is) n (.inr (hn ds ld)) (q'.later p1 s1), by rw [← Rps.len rs, ld]⟩
  · rw [hks]
    exact run_kw (us := []) (vs := []) (E := WE W) G hr hb (passAt tk σ) I2 .nil rz rfl (by rw [← rz.length, lz]) q2
/-- o.m(e, ..) -/
def eMeth (f : Fn) (C : Addr) (m : Str) (fo : EF) (a : M (List D)) : EF := fo.bind fun d γ ω => match hI C ω d with
  | some (_, fs) => if (fs.lookup m).isNone = true then (a.bind fun ds => ret f (d :: ds)) γ ω else .bad
  | none => .bad
theorem look_none {K : PySem.W.Frag} {ρ : List Addr} {F : Hp} {f : Str} : ∀ {fs : List (Str × D)} {gs : List (Str × V)}, RpF K ρ F fs gs → fs.lookup f = none → gs.lookup f = none
  | [], _, e, _ => by have e' : _ = [] := e; subst e'; rfl
  | (x, d') :: r, _, ⟨v, s, e, h1, h2⟩, h => by
    subst e
    by_cases hx : f = x
    · subst hx
      simp [List.lookup] at h
    · have hb : (f == x) = false := by simpa using hx
      rw [show List.lookup f ((x, d') :: r) = List.lookup f r from by simp [List.lookup, hb]] at h
      rw [show List.lookup f ((x, v) :: s) = List.lookup f s from by simp [List.lookup, hb]]
      exact look_none h2 h
theorem de_meth {pl : Sem Bool} (G : FnOk X.prog X.w X.K X.mg X.base (L2.CX X.prog X.w) k f fd ps (spF X.K X.mg n fn)) (c : Cls X.K C) (hm : Meth X.K C m f) (hb : Binds X.K fd ps []) (hr : Room k X.A) (tk : Takes X W) (h1 : DE X W o fo) (ha : DA X W (e :: es) fa) (hl : Len (n - 1) fa) (hn : 0 < n)
    (hst : starEach (e :: es) X.env = (false, eval e X.env) :: starEach es X.env := by rfl) (hpl : (backTo pos (starEach es X.env)).any (·.1) = false := by rfl)
    (ht : eval (.Call (.Attribute o m apos) (e :: es) [] pos) X.env = (do
      let ov ← eval o X.env
      standAt apos.atName
      let (f, first) ← holding [ov] (getMethod ov m pl)
      callWith pos f first (backTo pos (starEach (e :: es) X.env)) (backToKw pos (keywordEach [] X.env))) := by rfl) : DE X W (.Call (.Attribute o m apos) (e :: es) [] pos) (eMeth fn C m fo fa) := by
  refine ⟨fun pins s σ H Q I ⟨B, ρ, F, γ, ω, rp, q⟩ => ?_⟩
  refine PySem.W.methodCall_KW (pl := pl) (thn (h1.run pins s σ H (fun x H1 => ∃ a dx gs, x = .ref a ∧ H1 a = some (.ins C dx gs) ∧ gs.lookup m = none ∧ dX X.K X.mg W fa σ H1 fun vs H2 => spF X.K X.mg n fn (x :: vs) H2 Q (WE W σ)) I ⟨B, ρ, F, γ, ω, rp, Sat.bind q fun d v γ1 ω1 ρ1 F1 H1 r1 p1 s1 q1 q => ?_⟩) fun u s1 ⟨x, H1, I1, rx, a, dx, gs, ex, ea, l, q⟩ => ?_) ht
  · cases ei : hI C ω1 d with
    | none => rw [ei] at q; exact q.elim
    | some pp =>
      obtain ⟨h, fs⟩ := pp
      rw [ei] at q
      dsimp only at q
      split at q
      · rename_i hln
        obtain ⟨a, dx, gs, rfl, hρ, ho, hv, rs⟩ := hI_ok r1.wd q1 ei
        refine ⟨a, dx, gs, rfl, hv, look_none rs (Option.isNone_iff_eq_none.mp hln), B, ρ1, F1, γ1, ω1, r1, ?_⟩
        have q' : Sat (α := D) X.K X.mg W B ρ1 F1 σ Q ((fa γ1 ω1).bind fun ds => ret fn (d :: ds)) := q
        cases em : fa γ1 ω1 with
        | bad => rw [em] at q'; exact q'
        | exc e γ2 ω2 => rw [em] at q'; exact q'
        | ok ds γ2 ω2 =>
          rw [em] at q'
          intro vs ρ2 F2 H2 r2 p2 s2 rs2
          exact sat_call r2 (Rps.cons (Rp.mono p2 s2 q1) rs2) n (.inr (by rw [List.length_cons, hl _ _ _ _ _ em]; omega)) (q'.later p2 s2)
      · exact q.elim
  · subst ex
    obtain rfl : u = Value.ref a := rx
    refine getmeth_ok I1 ea c hm l ?_
    refine PySem.W.callWith_K (first := [.ref a]) (h₀ := X.base) I.ok.mod.kin hm.kp (thn (ha.run pos pins s1 σ H1 _ I1 q) fun us s2 ⟨vs, H2, I2, r, q2⟩ => ⟨I2.kIn, ?_⟩) hst hpl
    exact run_fnSD (us := .ref a :: us) (vs := .ref a :: vs) (E := WE W) G hr hb .nil (passAt tk σ) I2 (.cons rfl r) (by rw [List.append_nil]; exact q2)
theorem de_meth0 {pl : Sem Bool} (G : FnOk X.prog X.w X.K X.mg X.base (L2.CX X.prog X.w) k f fd ps (spF X.K X.mg 1 fn)) (c : Cls X.K C) (hm : Meth X.K C m f) (hb : Binds X.K fd ps []) (hr : Room k X.A) (tk : Takes X W) (h1 : DE X W o fo)
    (ht : eval (.Call (.Attribute o m apos) [] [] pos) X.env = (do
      let ov ← eval o X.env
      standAt apos.atName
      let (f, first) ← holding [ov] (getMethod ov m pl)
      callWith pos f first (backTo pos (starEach [] X.env)) (backToKw pos (keywordEach [] X.env))) := by rfl) : DE X W (.Call (.Attribute o m apos) [] [] pos) (eMeth fn C m fo aNil) := by
  refine ⟨fun pins s σ H Q I ⟨B, ρ, F, γ, ω, rp, q⟩ => ?_⟩
  refine PySem.W.methodCall_KW (pl := pl) (thn (h1.run pins s σ H (fun x H1 => ∃ a dx gs, x = .ref a ∧ H1 a = some (.ins C dx gs) ∧ gs.lookup m = none ∧ spF X.K X.mg 1 fn [x] H1 Q (WE W σ)) I ⟨B, ρ, F, γ, ω, rp, Sat.bind q fun d v γ1 ω1 ρ1 F1 H1 r1 p1 s1 q1 q => ?_⟩) fun u s1 ⟨x, H1, I1, rx, a, dx, gs, ex, ea, l, q⟩ => ?_) ht
  · cases ei : hI C ω1 d with
    | none => rw [ei] at q; exact q.elim
    | some pp =>
      obtain ⟨h, fs⟩ := pp
      rw [ei] at q
      dsimp only at q
      split at q
      · rename_i hln
        obtain ⟨a, dx, gs, rfl, hρ, ho, hv, rs⟩ := hI_ok r1.wd q1 ei
        exact ⟨a, dx, gs, rfl, hv, look_none rs (Option.isNone_iff_eq_none.mp hln), sat_call r1 (Rps.cons q1 Rps.nil) 1 (.inr rfl) q⟩
      · exact q.elim
  · subst ex
    obtain rfl : u = Value.ref a := rx
    refine getmeth_ok I1 ea c hm l ?_
    exact PySem.W.callWith_K0 (first := [.ref a]) I1.kIn hm.kp (run_fnSD (us := [.ref a]) (vs := [.ref a]) (E := WE W) G hr hb .nil (passAt tk σ) I1 (.cons rfl .nil) (by rw [List.append_nil]; exact q))
/-- o.m(k = e, ..) -/
theorem de_methK {pl : Sem Bool} (G : FnOk X.prog X.w X.K X.mg X.base (L2.CX X.prog X.w) k f fd ps (spF X.K X.mg n fn)) (c : Cls X.K C) (hm : Meth X.K C m f) (hb : KwB fd ps ks 1 is) (hr : Room k X.A) (tk : Takes X W) (h1 : DE X W o fo) (hkw : DK X W kws fk) (hl : Len ks.length fk) (hn : ∀ ds : List D, ds.length = ks.length → (permL is ds).length + 1 = n)
    (hall : (backToKw pos (keywordEach kws X.env)).all (·.1.isSome) = true := by rfl) (hks : (backToKw pos (keywordEach kws X.env)).filterMap (·.1) = ks := by rfl)
    (hpl : ((backTo pos (starEach [] X.env)).any (·.1) || (backToKw pos (keywordEach kws X.env)).any (·.1.isNone)) = false := by rfl)
    (ht : eval (.Call (.Attribute o m apos) [] kws pos) X.env = (do
      let ov ← eval o X.env
      standAt apos.atName
      let (f, first) ← holding [ov] (getMethod ov m pl)
      callWith pos f first (backTo pos (starEach [] X.env)) (backToKw pos (keywordEach kws X.env))) := by rfl) : DE X W (.Call (.Attribute o m apos) [] kws pos) (eMeth fn C m fo (fk.bind fun zs => M.pure (permL is zs))) := by
  refine ⟨fun pins s σ H Q I ⟨B, ρ, F, γ, ω, rp, q⟩ => ?_⟩
  refine PySem.W.methodCall_KW (pl := pl) (thn (h1.run pins s σ H (fun x H1 => ∃ a dx gs, x = .ref a ∧ H1 a = some (.ins C dx gs) ∧ gs.lookup m = none ∧ dX X.K X.mg W fk σ H1 fun zs H2 => spF X.K X.mg n fn (x :: permL is zs) H2 Q (WE W σ) ∧ zs.length = ks.length) I ⟨B, ρ, F, γ, ω, rp, Sat.bind q fun d v γ1 ω1 ρ1 F1 H1 r1 p1 s1 q1 q => ?_⟩) fun u s1 ⟨x, H1, I1, rx, a, dx, gs, ex, ea, l, q⟩ => ?_) ht
  · cases ei : hI C ω1 d with
    | none => rw [ei] at q; exact q.elim
    | some pp =>
      obtain ⟨h, fs⟩ := pp
      rw [ei] at q
      dsimp only at q
      split at q
      · rename_i hln
        obtain ⟨a, dx, gs, rfl, hρ, ho, hv, rs⟩ := hI_ok r1.wd q1 ei
        refine ⟨a, dx, gs, rfl, hv, look_none rs (Option.isNone_iff_eq_none.mp hln), B, ρ1, F1, γ1, ω1, r1, ?_⟩
        have q' : Sat (α := D) X.K X.mg W B ρ1 F1 σ Q (((fk γ1 ω1).bind fun zs => M.pure (permL is zs)).bind fun ds => ret fn (d :: ds)) := q
        cases em : fk γ1 ω1 with
        | bad => rw [em] at q'; exact q'
        | exc e γ2 ω2 => rw [em] at q'; exact q'
        | ok ds γ2 ω2 =>
          rw [em] at q'
          intro vs ρ2 F2 H2 r2 p2 s2 rs2
          have ld := hl _ _ _ _ _ em
          exact ⟨sat_call r2 (Rps.cons (Rp.mono p2 s2 q1) (permL_rps rs2 is)) n (.inr (by rw [List.length_cons, hn ds ld])) (q'.later p2 s2), by rw [← Rps.len rs2, ld]⟩
      · exact q.elim
  · subst ex
    obtain rfl : u = Value.ref a := rx
    refine getmeth_ok I1 ea c hm l ?_
    refine PySem.W.callWith_KW0 (first := [.ref a]) (h₀ := X.base) I.ok.mod.kin hm.kp hall (thn (hkw.run pos pins s1 σ H1 _ I1 q) fun ws s2 ⟨zs, H2, I2, rz, q2, lz⟩ => ⟨I2.kIn, ?_⟩) hpl
    rw [hks]
    exact run_kw (us := [.ref a]) (vs := [.ref a]) (E := WE W) G hr hb (passAt tk σ) I2 (.cons rfl .nil) rz rfl (by rw [← rz.length, lz]) q2
end
end DL

set_option Elab.async false
set_option linter.all false
set_option maxRecDepth 100000
set_option maxHeartbeats 2000000
noncomputable section
namespace DL
open PySem PySem.Spec PyProof.Rows L2

/-! ### new instances -/
/-- C(e, ..): a new instance, __init__ run on it -/
def mk (C : Addr) (f : Fn) (ds : List D) : EF := fun γ ω => match f (.obj ω.length :: ds) (ω ++ [.ins C []]) with
  | .ok .non _ ω' => .ok (.obj ω.length) γ ω'
  | .exc e _ ω' => .exc e γ ω'
  | _ => .bad
def eMake (C : Addr) (f : Fn) (a : M (List D)) : EF := a.bind fun ds => mk C f ds
def eMakeK (C : Addr) (f : Fn) (is : List Nat) (a : M (List D)) : EF := a.bind fun ds => mk C f (permL is ds)
section
variable {X : Cx} {W : WX} {k n : Nat} {f C : Addr} {fd : FuncData} {ps ks : List Str} {is : List Nat} {x : Str} {p pos : Pos} {e : Expr} {es : List Expr} {kws : List Keyword} {fa fk : M (List D)} {fn : Fn}
theorem mk_use {B : Bs} {ρ : List Addr} {F H : Hp} {γ : List SD} {ω : List OB} {σ : L2.St} {Q : VK} {ds : List D} {vs : List V} {a dx : Addr} (r : Rep X.K B ρ F γ ω σ H) (rs : Rps X.K ρ F ds vs) (hn : ds.length + 1 = n) (ha : H a = none) (hd : H dx = none) (hne : dx ≠ a)
    (q : Sat (α := D) X.K X.mg W B ρ F σ Q (mk C fn ds γ ω)) : spF X.K X.mg n fn (.ref a :: vs) (upd (upd H dx (.own a)) a (.ins C dx [])) (fun v H2 => v = .non ∧ Q (.ref a) H2) (WE W σ) := by
  have r1 : Rep X.K B ρ F γ ω σ (upd H dx (.own a)) := r.grow (Grow.add r.wd.sub hd)
  have ha1 : upd H dx (.own a) a = none := by rw [upd_ne (Ne.symm hne)]; exact ha
  have l2 := r1.lone (o := .ins C dx []) ha1
  have r2 : Rep X.K B ρ F γ ω σ (upd (upd H dx (.own a)) a (.ins C dx [])) := r1.grow (Grow.add r1.wd.sub ha1)
  have r3 := r2.alloc (o := .ins C []) ⟨dx, [], upd_same, rfl⟩ l2
  have pp : ρ <+: ρ ++ [a] := List.prefix_append _ _
  have ro : Rp X.K (ρ ++ [a]) F (.obj ω.length) (.ref a) := rp_obj (by rw [← r.wd.len, List.getElem?_concat_length])
  refine sat_call r3 (Rps.cons ro (rs.mono pp (Same.refl _))) n (.inr (by rw [List.length_cons]; exact hn)) ?_
  unfold mk at q
  cases ef : fn (.obj ω.length :: ds) (ω ++ [.ins C []]) with
  | bad => rw [ef] at q; exact q.elim
  | exc e γ' ω' =>
    rw [ef] at q
    exact fun C' dd ρ' F' H' r' p' s' ex => q C' dd ρ' F' H' r' (pp.trans p') s' ex
  | ok d γ' ω' =>
    rw [ef] at q
    cases d with
    | non => exact fun v ρ' F' H' r' p' s' rv => ⟨rp_non_inv rv, q (.ref a) ρ' F' H' r' (pp.trans p') s' (Rp.mono p' s' ro)⟩
    | _ => exact q.elim
/-- a new instance made by any call: how the arguments are bound is given -/
theorem run_mkA {CX : CXT} {sp : Sp} {E : XK} {pins : List (Addr × Obj)} {σ : L2.St} {H : Hp} {s : Shared} {Q : VK} {us : List Value} {kw : List (Str × Value)} {gV : V → List V} {g : Value → List Value} (M : Mk X.K C f) (F : FnOk X.prog X.w X.K X.mg X.base CX k f fd ps sp) (hr : Room (k + 1) X.A)
    (hb : ∀ (s : Shared) (a : Addr), X.K.In s.heap → (g (.ref a)).length = ps.length → BindsTo s fd ⟨.ref a :: us, kw⟩ (ps.zip (g (.ref a)))) (hx : PassesAt CX X σ E) (I : Inv X pins σ H s) (r : ∀ a, Vals (gV (.ref a)) (g (.ref a)))
    (h : ∀ x dx, H x = none → H dx = none → dx ≠ x → sp (gV (.ref x)) (upd (upd H dx (.own x)) x (.ins C dx [])) (fun v H2 => v = .non ∧ Q (.ref x) H2) E) :
    wpAny (model X.prog X.w) X.A (call (.ref C) us kw) (EP X pins σ Q) X.xe s := by
  have hq := h (s.heap.objs.size + 1) s.heap.objs.size (I.hok.fresh (Nat.le_succ _)) (I.hok.fresh (Nat.le_refl _)) (Nat.ne_of_lt (Nat.lt_succ_self _))
  have I2 := Inv.made (C := C) I
  have r2 := r (s.heap.objs.size + 1)
  have hl : (g (Value.ref (s.heap.objs.size + 1))).length = ps.length := by
    have e := r2.length
    rw [F.len _ _ _ _ hq] at e
    exact e.symm
  refine wpAny_call (make_map (f := f) I.kIn M.makes M.init (beq_iff_eq.mp M.fn) (codeAny_mono (F.run _ X.stack _ _ ⟨Value.ref (s.heap.objs.size + 1) :: us, kw⟩ (g (Value.ref (s.heap.objs.size + 1))) _ _ E (hr.make C us kw)
    (I2.env0.make C us kw) (hb _ _ I2.kIn hl) r2 hq) fun r s' hq' => ?_))
  cases r with
  | error e => exact hx pins _ _ e s' I2 hq'
  | ok fl =>
    cases fl with
    | ret u =>
      obtain ⟨v, H', I3, rv, ev, q3⟩ := I2.after hq'
      subst ev
      exact ⟨rv, ⟨V.ref (s.heap.objs.size + 1), H', I3, rfl, q3⟩⟩
    | next => exact False.elim hq'
    | brk => exact False.elim hq'
    | cont => exact False.elim hq'
theorem de_make (M : Mk X.K C f) (G : FnOk X.prog X.w X.K X.mg X.base (L2.CX X.prog X.w) k f fd ps (spF X.K X.mg n fn)) (hr : Room (k + 1) X.A) (hg : Gl X x) (hm : X.mg x = some (.ref C)) (hb : Binds X.K fd ps []) (tk : Takes X W) (ha : DA X W (e :: es) fa) (hl : Len (n - 1) fa) (hn : 0 < n)
    (hdb : (x == ("__debug__" : Str)) = false := by decide) (he : starEach (e :: es) X.env = (false, eval e X.env) :: starEach es X.env := by rfl) (hpl : (backTo pos (starEach es X.env)).any (·.1) = false := by rfl) : DE X W (.Call (.Name x p) (e :: es) [] pos) (eMake C fn fa) := by
  refine ⟨fun pins s σ H Q I ⟨B, ρ, F, γ, ω, rp, q⟩ => ?_⟩
  refine wpAny_Call_Name_kw (ld_glob I hg hm ?_ hdb)
  refine PySem.W.callWith_K (h₀ := X.base) I.ok.mod.kin M.kp (thn (ha.run pos pins s σ H (fun vs H1 => ∀ a dx, H1 a = none → H1 dx = none → dx ≠ a → spF X.K X.mg n fn (.ref a :: vs) (upd (upd H1 dx (.own a)) a (.ins C dx [])) (fun v H2 => v = .non ∧ Q (.ref a) H2) (WE W σ)) I ⟨B, ρ, F, γ, ω, rp, ?_⟩) fun us s1 ⟨vs, H1, I1, r, q⟩ => ⟨I1.kIn, ?_⟩) he hpl
  · have q' : Sat (α := D) X.K X.mg W B ρ F σ Q ((fa γ ω).bind fun ds => mk C fn ds) := q
    cases em : fa γ ω with
    | bad => rw [em] at q'; exact q'
    | exc e γ1 ω1 => rw [em] at q'; exact q'
    | ok ds γ1 ω1 =>
      rw [em] at q'
      intro vs ρ1 F1 H1 r1 p1 s1 rs a dx h1 h2 h3
      exact mk_use r1 rs (by rw [hl _ _ _ _ _ em]; omega) h1 h2 h3 (q'.later p1 s1)
  · refine run_mkA (E := WE W σ) (gV := fun a => a :: vs) (g := fun a => a :: us) M G hr (fun s a ki hl => ?_) (passAt tk σ) I1 (fun a => .cons rfl r) q
    have := hb s (.ref a :: us) ki (by rw [List.append_nil]; exact hl)
    rw [List.append_nil] at this
    exact this
/-- C(k = e, ..) -/
theorem de_makeK (M : Mk X.K C f) (G : FnOk X.prog X.w X.K X.mg X.base (L2.CX X.prog X.w) k f fd ps (spF X.K X.mg n fn)) (hr : Room (k + 1) X.A) (hg : Gl X x) (hm : X.mg x = some (.ref C)) (hb : KwB fd ps ks 1 is) (tk : Takes X W) (hkw : DK X W kws fk) (hl : Len ks.length fk) (hn : ∀ ds : List D, ds.length = ks.length → (permL is ds).length + 1 = n)
    (hall : (backToKw pos (keywordEach kws X.env)).all (·.1.isSome) = true := by rfl) (hks : (backToKw pos (keywordEach kws X.env)).filterMap (·.1) = ks := by rfl)
    (hdb : (x == ("__debug__" : Str)) = false := by decide) (hpl : ((backTo pos (starEach [] X.env)).any (·.1) || (backToKw pos (keywordEach kws X.env)).any (·.1.isNone)) = false := by rfl) : DE X W (.Call (.Name x p) [] kws pos) (eMakeK C fn is fk) := by
  refine ⟨fun pins s σ H Q I ⟨B, ρ, F, γ, ω, rp, q⟩ => ?_⟩
  refine wpAny_Call_Name_kw (ld_glob I hg hm ?_ hdb)
  refine PySem.W.callWith_KW0 (h₀ := X.base) I.ok.mod.kin M.kp hall (thn (hkw.run pos pins s σ H (fun zs H2 => zs.length = ks.length ∧ ∀ a dx, H2 a = none → H2 dx = none → dx ≠ a → spF X.K X.mg n fn (.ref a :: permL is zs) (upd (upd H2 dx (.own a)) a (.ins C dx [])) (fun v H3 => v = .non ∧ Q (.ref a) H3) (WE W σ)) I ⟨B, ρ, F, γ, ω, rp, ?_⟩) fun ws s2 ⟨zs, H2, I2, rz, lz, q2⟩ => ⟨I2.kIn, ?_⟩) hpl
  · have q' : Sat (α := D) X.K X.mg W B ρ F σ Q ((fk γ ω).bind fun ds => mk C fn (permL is ds)) := q
    cases em : fk γ ω with
    | bad => rw [em] at q'; exact q'
    | exc e γ1 ω1 => rw [em] at q'; exact q'
    | ok ds γ1 ω1 =>
      rw [em] at q'
      intro vs ρ1 F1 H1 r1 p1 s1 rs
      have ld := hl _ _ _ _ _ em
      exact ⟨by rw [← Rps.len rs, ld], fun a dx h1 h2 h3 => mk_use r1 (permL_rps rs is) (hn ds ld) h1 h2 h3 (q'.later p1 s1)⟩
  · rw [hks]
    have lw : ws.length = ks.length := by rw [← rz.length, lz]
    refine run_mkA (us := []) (kw := ks.zip ws) (E := WE W σ) (gV := fun a => a :: permL is zs) (g := fun a => a :: permL is ws) M G hr (fun s a _ _ => ?_) (passAt tk σ) I2 (fun a => .cons rfl (permL_vals rz is)) q2
    exact hb.to s [.ref a] ws rfl lw
end

/-! ### a, b, c = e1, e2, e3 of plain local names -/
def sPar3 (i j l : Nat) (f : M (List D)) : M Fl := f.bind fun ds γ ω => match ds with
  | [a, b, c] => .ok .nx (((γ.set i (.dat a)).set j (.dat b)).set l (.dat c)) ω
  | _ => .bad
section
variable {X : Cx} {W : WX}
theorem rps3 {K : PySem.W.Frag} {ρ : List Addr} {F : Hp} {a b c : D} {vs : List V} (h : Rps K ρ F [a, b, c] vs) : ∃ x y z, vs = [x, y, z] ∧ Rp K ρ F a x ∧ Rp K ρ F b y ∧ Rp K ρ F c z := by
  unfold Rps at h
  obtain ⟨v, r, rfl, h1, h2⟩ := h
  obtain ⟨y, z, rfl, h3, h4⟩ := rps2 h2
  exact ⟨v, y, z, rfl, h1, h3, h4⟩
theorem ds_par3 {i j l : Nat} {x y z : Str} {a b c : Expr} {f : M (List D)} {px py pz pt pos : Pos} {kt k2 pt2} (hc : X.calm = true) (hN : X.N.Nodup) (hi : X.N[i]? = some x) (hj : X.N[j]? = some y) (hl : X.N[l]? = some z) (hij : i ≠ j) (hil : i ≠ l) (hjl : j ≠ l)
    (hx : X.env.scope.names.lookup x = some .local) (hy : X.env.scope.names.lookup y = some .local) (hz : X.env.scope.names.lookup z = some .local) (ha : DA X W [a, b, c] f)
    (hw : swappedStores [.Tuple [.Name x px, .Name y py, .Name z pz] kt pt] (.Tuple [a, b, c] k2 pt2) X.env = pure (some [x, y, z]))
    (hs : swapsWithSole [.Tuple [.Name x px, .Name y py, .Name z pz] kt pt] (.Tuple [a, b, c] k2 pt2) pos.line X.env = pure false := by rfl) :
    DS X W (.Assign [.Tuple [.Name x px, .Name y py, .Name z pz] kt pt] (.Tuple [a, b, c] k2 pt2) pos) (sPar3 i j l f) :=
  (ps_par3 hc hN hi hj hl hij hil hjl hx hy hz ha hw hs).imp fun E σ H ⟨B, ρ, F, γ, ω, rp, q⟩ => ⟨B, ρ, F, γ, ω, rp, SatS.bind q fun ds vs γ1 ω1 ρ1 F1 H1 r1 p1 s1 q1 q => by
    match ds, q1, q with
    | [], _, q => exact q.elim
    | [_], _, q => exact q.elim
    | [_, _], _, q => exact q.elim
    | _ :: _ :: _ :: _ :: _, _, q => exact q.elim
    | [a, b, c], q1, q =>
      obtain ⟨u, v, w, rfl, h1, h2, h3⟩ := rps3 (show Rps X.K ρ1 F1 [a, b, c] vs from q1)
      exact ⟨u, v, w, rfl, q _ ρ1 F1 H1 (((r1.set h1 i).set h2 j).set h3 l) (List.prefix_refl _) (Same.refl _)⟩⟩
/-! ### {} -/
theorem de_dic0 {pos : Pos} : DE X W (.Dict [] [] pos) (eC (.dic [] [])) :=
  pe_dnewK.imp fun σ H Q ⟨B, ρ, F, γ, ω, rp, q⟩ => fun p hp => by
    have g := Grow.put (o := .dK []) rp.wd.sub hp
    exact Sat.grown q rp g (rp_dic (vs := []) upd_same rfl Rps.nil)
/-- [.. for x in d if ..] where d is {} -/
def nLcD0 (i : Nat) : M (List D) := fun γ ω => match γ[i]? with
  | some (.dat (.dic [] [])) => .ok [] γ ω
  | _ => .bad
theorem dn_lcD0 {i : Nat} {x : Str} {p : Pos} {elt tg : Expr} {ifs : List Expr} {scope : Scope} {own : List (Str × Nat)} {pos : Pos} {t : Tg} {tt : M Bool} {te : EF} (hc : X.calm = true) (hN : X.N.Nodup) (hi : PE X (.Name x p) (tVar i)) (ok : blkC X.N X.env.scope scope own = true) (b : Blk X scope tg ifs elt t tt te)
    (hs : ∀ y, foldedSetIterable (.Name x p) X.env y = pure y := by intro _; rfl) : DN X W (.ListComp elt [⟨tg, .Name x p, ifs, 0⟩] scope pos) (nLcD0 i) :=
  (pe_lock (pe_lc (tt := dX X.K X.mg W0 tt) (te := dX X.K X.mg W0 te) (g := gOf X.K t) hc hN (pi_keys hi) (blkOk_by ok) b.g b.i b.e hs)).imp fun σ H Q ⟨B, ρ, F, γ, ω, rp, q⟩ => by
    unfold nLcD0 at q
    split at q
    · rename_i e
      obtain ⟨v, hv, rv⟩ := rp.slots i _ e
      obtain ⟨d, vs, rfl, hd, hl, rs⟩ := rp_dic_inv rv
      have hd' : H d = some (.dK []) := rp.wd.sub _ _ hd
      refine ⟨d, .dK [], hd', True.intro, fun od => ?_⟩
      refine ⟨.ref d, hv, d, od, rfl, .inl ⟨[], upd_same, ?_⟩⟩
      intro p hp
      have hpd : p ≠ d := fun z => by subst z; rw [upd_same] at hp; cases hp
      have hp0 : H p = none := by rw [upd_ne hpd] at hp; exact hp
      refine ⟨fun _ _ H' => H' = upd (upd H d (.frz od (.dK []))) p (.lst []), ⟨0, rfl⟩, fun j m H' e' => .inl ?_⟩
      subst e'
      have hH : upd (upd (upd H d (.frz od (.dK []))) p (.lst [])) d (.dK []) = upd H p (.lst []) := by
        funext z
        by_cases hz : z = d
        · subst hz; rw [upd_same, upd_ne (Ne.symm hpd), hd']
        · rw [upd_ne hz]
          by_cases hz2 : z = p
          · subst hz2; rw [upd_same, upd_same]
          · rw [upd_ne hz2, upd_ne hz, upd_ne hz2]
      refine ⟨⟨by rw [upd_ne (Ne.symm hpd), upd_same], Nat.zero_le _⟩, by rw [upd_ne (Ne.symm hpd), upd_same], ?_⟩
      rw [hH]
      exact q p [] ρ F _ (rp.grow (Grow.add rp.wd.sub hp0)) (List.prefix_refl _) (Same.refl _) upd_same Rps.nil (rp.lone hp0)
    · exact q.elim
end
/-! ### len, of a dict too -/
def lenD2 (ω : List OB) (d : D) : Option Nat := match d with
  | .dic ks _ => some ks.length
  | d => lenD ω d
def oLen2 : OC := fun ω ds => match ds with
  | [d] => (lenD2 ω d).map fun n : Nat => D.int (n : Int)
  | _ => none
def rLen2 (K : PySem.W.Frag) : List V → Hp → VK → Prop := fun xs H Q => (∃ x n, xs = [x] ∧ LenV K x H n ∧ Q (.int n) H) ∨ ∃ a kvs, xs = [.ref a] ∧ H a = some (.dK kvs) ∧ Q (.int kvs.length) H
theorem call_len2 {X : Cx} : CallR X (.builtin "len") (rLen2 X.K) := call_len.or (by
  intro pins s σ H xs us Q I r h
  obtain ⟨a, kvs, rfl, e, q⟩ := h
  obtain ⟨u, rfl, rx⟩ := vals1 r
  cases (show u = Value.ref a from rx)
  exact d_len I (.inl e) fun t s' I' => ⟨.int kvs.length, H, I', ⟨t, rfl⟩, q⟩)
theorem oLen2_ok {K : PySem.W.Frag} : OpC K (rLen2 K) oLen2 := by
  intro B ρ F H ω ds c vs Q w rs e k
  match ds, rs, e with
  | [.dic ks zs], rs, e =>
    obtain ⟨x, rfl, rx⟩ := rps1 rs
    obtain ⟨a, vs, rfl, h, l, _⟩ := rp_dic_inv rx
    have e' : some (D.int (ks.length : Int)) = some c := e
    cases e'
    exact .inr ⟨a, _, rfl, w.sub _ _ h, by
      rw [show (ks.zip vs).length = ks.length from by rw [List.length_zip, ← l]; omega]
      exact k _ F H (Grow.refl w.sub) rp_int⟩
  | [.non], rs, e => exact .inl (oLen_ok B ρ F H ω _ c vs Q w rs e k)
  | [.bl _], rs, e => exact .inl (oLen_ok B ρ F H ω _ c vs Q w rs e k)
  | [.int _], rs, e => exact .inl (oLen_ok B ρ F H ω _ c vs Q w rs e k)
  | [.str _], rs, e => exact .inl (oLen_ok B ρ F H ω _ c vs Q w rs e k)
  | [.lst _], rs, e => exact .inl (oLen_ok B ρ F H ω _ c vs Q w rs e k)
  | [.tup _], rs, e => exact .inl (oLen_ok B ρ F H ω _ c vs Q w rs e k)
  | [.obj _], rs, e => exact .inl (oLen_ok B ρ F H ω _ c vs Q w rs e k)
  | [.fn _], rs, e => exact .inl (oLen_ok B ρ F H ω _ c vs Q w rs e k)
  | [.ty _], rs, e => exact .inl (oLen_ok B ρ F H ω _ c vs Q w rs e k)
  | [.scr _], rs, e => exact .inl (oLen_ok B ρ F H ω _ c vs Q w rs e k)
  | [], rs, e => cases e
  | _ :: _ :: _, rs, e => cases e

/-! ### x == [], x != [] -/
def rLen0 (K : PySem.W.Frag) (g : Bool → Bool) : R2 := fun x y H Q => ∃ a b xs ys, x = .ref a ∧ y = .ref b ∧ SqL K H a xs ∧ SqL K H b ys ∧ xs.length ≠ ys.length ∧ Q (.bl (g false)) H
theorem op_eqL {X : Cx} (hu : X.A.units + 64 < cLine) : OpR X (compareOp .Eq) (rLen0 X.K id) := by
  intro pins s σ H x y v u Q I rx ry h
  obtain ⟨a, b, xs, ys, rfl, rfl, ha, hb, hl, q⟩ := h
  cases (show v = Value.ref a from rx)
  cases (show u = Value.ref b from ry)
  obtain ⟨us, r1, p1, _⟩ := I.list ha
  obtain ⟨ws, r2, p2, _⟩ := I.list hb
  exact SeqAt.eq_list_lengthsAt p1.isList p2.isList (by rw [bne_iff_ne, List.size_toArray, List.size_toArray, ← r1.length, ← r2.length]; exact hl) (by omega) ⟨.bl false, H, I, rfl, q⟩
theorem op_neL {X : Cx} (hu : X.A.units + 64 < cLine) : OpR X (compareOp .NotEq) (rLen0 X.K not) := by
  intro pins s σ H x y v u Q I rx ry h
  obtain ⟨a, b, xs, ys, rfl, rfl, ha, hb, hl, q⟩ := h
  cases (show v = Value.ref a from rx)
  cases (show u = Value.ref b from ry)
  obtain ⟨us, r1, p1, _⟩ := I.list ha
  obtain ⟨ws, r2, p2, _⟩ := I.list hb
  exact SeqAt.RcNeAt.lists_lengths p1.isList p2.isList (by rw [bne_iff_ne, List.size_toArray, List.size_toArray, ← r1.length, ← r2.length]; exact hl) (by omega) _ _ _ _ ⟨.bl true, H, I, rfl, q⟩
def oE0 (g : Bool → Bool) : O2 := fun ω a b => match b with
  | .lst [] => (vL ω a).map fun xs => .bl (g xs.isEmpty)
  | _ => none
theorem oE0_ok {K : PySem.W.Frag} {g : Bool → Bool} : Op2 K (fun x y H Q => rEqM K g x y H Q ∨ rLen0 K g x y H Q) (oE0 g) := by
  intro B ρ F H ω a b c x y Q w ra rb e k
  unfold oE0 at e
  split at e
  · cases ev : vL ω a with
    | none => rw [ev] at e; cases e
    | some xs =>
      rw [ev] at e
      cases e
      obtain ⟨p, vs, rfl, hp, rs⟩ := vL_ok w ra ev
      obtain ⟨q, us, rfl, hq, rq⟩ := rp_lst_inv rb
      unfold Rps at rq
      subst rq
      have k' := k _ F H (Grow.refl w.sub) rp_bl
      cases xs with
      | nil =>
        unfold Rps at rs
        subst rs
        refine .inl ⟨.list [], .list [], .lst (SqL.of hp) .nil, .lst (SqL.of (w.sub _ _ hq)) .nil, rfl, rfl, by decide, ?_⟩
        exact k'
      | cons d ds =>
        refine .inr ⟨p, q, vs, [], rfl, rfl, SqL.of hp, SqL.of (w.sub _ _ hq), by rw [← rs.len]; simp, ?_⟩
        exact k'
  · cases e
theorem op_eq0 {X : Cx} (hu : X.A.units + 64 < cLine) : OpR X (compareOp .Eq) (fun x y H Q => rEqM X.K id x y H Q ∨ rLen0 X.K id x y H Q) := (op_eqM hu).or (op_eqL hu)
theorem op_ne0 {X : Cx} (hu : X.A.units + 64 < cLine) : OpR X (compareOp .NotEq) (fun x y H Q => rEqM X.K not x y H Q ∨ rLen0 X.K not x y H Q) := (op_neM hu).or (op_neL hu)

/-! ### names of the program, of built-in types; bodies that are never right -/
section
variable {X : Cx} {W : WX}
theorem de_gl {x : Str} {d : D} {pos : Pos} {v : V} (hg : Gl X x) (hm : ∃ u, X.mg x = some u ∧ RelV v u) (hr : ∀ K ρ F, Rp K ρ F d v) (hd : (x == ("__debug__" : Str)) = false := by decide) : DE X W (.Name x pos) (eC d) := by
  obtain ⟨u, h1, h2⟩ := hm
  exact de_c (pe_glob hg h1 h2 hd) hr
theorem de_tyName {x : Str} {n : String} {pos : Pos} (hg : Gl X x) (hm : X.mg x = none) (hv : bootBuiltins x = some (.type n)) (hn : x ≠ "__name__" := by decide) (hd : (x == ("__debug__" : Str)) = false := by decide) : DE X W (.Name x pos) (eC (.ty n)) :=
  de_c (pe_bltn hg hm hv (show RelV (.ty n) (.type n) from rfl) hn hd) fun _ _ _ => rp_ty
theorem dss_bad {l : List Stmt} : DSs X W l M.bad := ⟨fun pins s σ H E I ⟨B, ρ, F, γ, ω, rp, q⟩ => q.elim⟩
end
/-! ### small things for the walks -/
theorem permL_len {is : List Nat} {k : Nat} (h : is.all (fun i => decide (i < k)) = true) : ∀ ds : List D, ds.length = k → (permL is ds).length = is.length := by
  intro ds hd
  induction is with
  | nil => rfl
  | cons i r ih =>
    rw [List.all_cons, Bool.and_eq_true] at h
    unfold permL
    rw [List.filterMap_cons, List.getElem?_eq_getElem (by rw [hd]; exact of_decide_eq_true h.1)]
    dsimp only
    rw [List.length_cons, List.length_cons]
    exact congrArg Nat.succ (ih h.2)
theorem permL_len1 {is : List Nat} {k : Nat} (h : is.all (fun i => decide (i < k)) = true) : ∀ ds : List D, ds.length = k → (permL is ds).length + 1 = is.length + 1 := fun ds hd => by rw [permL_len h ds hd]
/-- fnD, the meaning named -/
theorem fnE {P : Program} {w : World} {K : PySem.W.Frag} {mg : Str → Option Value} {base : Heap} {x qual : Str} {st : Stmt} {f : Addr} {fd : FuncData} {N ps : List Str} {k n m : Nat} {g : M Fl} {F : Fn} (Fu : Fun K x qual st f fd) (S : FnScope N ps (defScope st)) (hn : ps.length = n) (hN : N.length = m) (hF : F = fun ds ω => fin (g (startD m ds) ω))
    (hbody : ∀ (cdv : Value) (A : Around) (outer : List Env) (s : Shared) (H : Hp) (E : XK), Room k (A.deeper (envOfC qual (defScope st) s.heap.objs.size f cdv)) → ∀ X : Cx, X = cxOf (L2.CX P w) P w K mg base N qual (defScope st) f cdv A outer s H E →
      Takes X (fun cls d _ H => E cls d H) → PassesOwn (model X.prog X.w) X.A X.env X.xe → PSs X (defBody st) (dS K mg (fun cls d _ H => E cls d H) g)) :
    FnOk P w K mg base (L2.CX P w) (k + 1) f fd ps (spF K mg n F) := by
  subst hF hN
  exact fnD Fu S hn hbody
/-! ### the law's own promise -/
def spLaw (K : PySem.W.Frag) : Sp := fun vs H Q _ => ∃ (a : Addr) (ns : List Int), vs = [.ref a] ∧ ns.length ≤ 63 ∧ (∀ b, H b = none ∨ ∃ o xs, H b = some (.frz o (.lst xs))) ∧ SqL K H a (ns.map V.int) ∧ ∀ H', Q (.bl true) H'
/-- how f must answer: true at every script -/
def LawIs (f : Fn) : Prop := ∀ ns : List Int, ns.length ≤ 63 → ∃ γ ω, f [.scr (ns.map D.int)] [] = .ok (.bl true) γ ω
theorem law_ok {P : Program} {w : World} {K : PySem.W.Frag} {mg : Str → Option Value} {base : Heap} {k : Nat} {f : Addr} {fd : FuncData} {ps : List Str} {F : Fn} (G : FnOk P w K mg base (L2.CX P w) k f fd ps (spF K mg 1 F)) (h : LawIs F) : FnOk P w K mg base (L2.CX P w) k f fd ps (spLaw K) := by
  refine G.imp fun vs H Q E ⟨a, ns, e, hl, hO, hS, q⟩ => ?_
  obtain ⟨γ, ω, hf⟩ := h ns hl
  refine ⟨[], H, [.scr (ns.map D.int)], [], rfl, ?_, ?_, ?_⟩
  · exact ⟨Same.refl _, fun _ _ e _ => e, ⟨[], rfl, fun _ h => by cases h⟩, Same.refl _, fun _ _ e => .inl e, List.nodup_nil, fun _ h => (by cases h), rfl, fun i a o h => by cases h⟩
  · subst e
    exact Rps.cons (rp_scr hS (Rps.of_ints ns)) Rps.nil
  · rw [hf]
    intro v ρ F' H' _ rv
    rw [rp_bl_inv rv]
    exact q H'
theorem BindsTo.kw {s : Shared} {fd : FuncData} {args : Args} {b : List (Str × Value)} (h : bindArgs fd args = pure b) : BindsTo s fd args b := .of_eq h
theorem kwb_mk {K : PySem.W.Frag} {x qual : Str} {st : Stmt} {f : Addr} {fd : FuncData} {ps ks : List Str} {n : Nat} {is : List Nat} (F : Fun K x qual st f fd)
    (h : ∀ (kV doc pm : Value) (an : Option Addr) (cdv ct : Value) (us ws : List Value), us.length = n → ws.length = ks.length → bindArgs (PySem.W.fnOf x qual (defArgs st) (defBody st) (defScope st) .none kV doc pm an cdv ct) ⟨us, ks.zip ws⟩ = pure (ps.zip (us ++ permL is ws))) : KwB fd ps ks n is := by
  obtain ⟨oc, od, kV, doc, pm, an, cdv, ct, osl, rfl, lk, hcd⟩ := F.ex
  exact ⟨fun s us ws l1 l2 => .of_eq (h kV doc pm an cdv ct us ws l1 l2)⟩
/-- an own error's facts together -/
theorem err_mk {P : Program} {w : World} {K : PySem.W.Frag} {mg : Str → Option Value} {x f qual : Str} {st : Stmt} {C fI : Addr} {fd : FuncData} {nm q : Str} {N : Addr} {bs bm : List Value} {sn : List Str} {sub : List Value} {ab : Bool} {col : Option Bool} {dd : Option Addr} {k0 k1 k2 k3 k5 : Option Value}
    (hm : mg x = some (.ref C)) (hx : K.lookup C = some (excClassObj nm q C N bs bm true sn sub ab col dd k0 k1 k2 k3 k5 "ValueError.__new__")) (hbm : PySem.HandSPX.refsVE bm = true)
    (sa : PySem.W.findIn K (.ref C) "__setattr__" = some (some (.builtin "object.__setattr__"))) (ex : PySem.W.subIn K (.ref C) (.type "BaseException") = some true) (ty : PySem.W.typeIn K (.ref C) = some (.type "type")) (kp : PySem.W.keepIn K (.ref C) = true)
    (no : PySem.W.findIn K (.ref C) f = some none) (ini : PySem.W.findIn K (.ref C) "__init__" = some (some (.ref fI))) (tf : PySem.W.typeIn K (.ref fI) = some (.type "function"))
    (Fu : Fun K "__init__" qual st fI fd) (S : FnScope ["self", f] ["self", f] (defScope st)) (hb : ∃ p1 p2 p3 p4, defBody st = [.Assign [.Attribute (.Name "self" p1) f p2] (.Name f p3) p4]) (h1 : (f == ("__debug__" : Str)) = false) (h2 : (f == ("__classdict__" : Str)) = false)
    (hs : (defScope st).names.lookup ("self" : Str) = some NameKind.local) (hf : (defScope st).names.lookup f = some NameKind.local) (B : Binds K fd ["self", f] []) : ∀ base : Heap, Err P w K mg base x f := fun base =>
  ⟨C, fI, fd, hm, ⟨⟨nm, q, N, bs, bm, sn, sub, ab, col, dd, k0, k1, k2, k3, k5, hx, hbm⟩, sa, ex, ty, kp⟩, no, ini, tf, DL.ok_init Fu S hb h1 h2 hs hf, B⟩
theorem exm_mk {K : PySem.W.Frag} {S T : Addr} {b : Bool} (h1 : PySem.W.subIn K (.ref T) (.type "BaseException") = some true) (h2 : PySem.W.isClsIn K S = true) (h3 : PySem.W.typeIn K (.ref T) = some (.type "type")) (h2' : PySem.W.isClsIn K T = true) (h3' : PySem.W.typeIn K (.ref S) = some (.type "type")) (h4 : PySem.W.subIn K (.ref S) (.ref T) = some b) :
    PySem.W.exmOne K (.ref S) (.ref T) = some b := by
  have e1 : (PySem.W.subIn K (.ref T) (.type "BaseException") == some true) = true := by rw [h1] <;> rfl
  have h2a : (PySem.W.clsIn K S).isSome = true := h2
  have h2b : (PySem.W.clsIn K T).isSome = true := h2'
  show (if (PySem.W.subIn K (.ref T) (.type "BaseException") == some true) = true then PySem.W.kitCls K (.ref S) (.ref T) else none) = some b
  rw [if_pos e1]
  first
  | (unfold PySem.W.kitCls; simp only [h2a, h2b, h3, h3', h4]; rfl)
  | (unfold PySem.W.kitCls; simp [h2a, h2b, h3, h3', h4])
/-! ### sum, of a tuple too -/
def oSum2 : OC := fun ω ds => match ds with
  | [.tup es] => (intsD es).map fun ns => .int ns.sum
  | ds => oSum ω ds
def rSum2 (K : PySem.W.Frag) : List V → Hp → VK → Prop := fun vs H Q => rSum K vs H Q ∨ ∃ (a : Addr) (ns : List Int), vs = [V.ref a] ∧ SqT K H a (ns.map V.int) ∧ Q (.int ns.sum) H
theorem cr_sumT {X : Cx} (hc : X.calm = true) : CallR X (.builtin "sum") (fun vs H Q => ∃ (a : Addr) (ns : List Int), vs = [V.ref a] ∧ SqT X.K H a (ns.map V.int) ∧ Q (.int ns.sum) H) := by
  intro pins s σ H vs us Q I r h
  obtain ⟨a, ns, rfl, hs, q⟩ := h
  obtain ⟨its, rv, hl, _⟩ := I.tuple hs
  rw [Vals.ref1 r]
  have hi := rv.ints
  obtain ⟨xs, e⟩ := hi.allInts.items
  have hn : numsOf (intItems xs).toList = ns := by rw [← e]; exact hi.numsOf
  rw [nums_intItems] at hn
  rw [e] at hl
  refine PySem.W.ktm_sumG (I.ok.hd hc) hl fun h' tk t' hk => ?_
  rw [preSum_eq, List.take_of_length_le (by simp), hn]
  exact ⟨.int _, H, I.kept hk, ⟨_, rfl⟩, q⟩
theorem cr_sum2 {X : Cx} (hc : X.calm = true) : CallR X (.builtin "sum") (rSum2 X.K) := (cr_sum hc).or (cr_sumT hc)
theorem oSum2_ok {K : PySem.W.Frag} : OpC K (rSum2 K) oSum2 := by
  intro B ρ F H ω ds c vs Q w rs e k
  unfold oSum2 at e
  split at e
  · rename_i es
    obtain ⟨x, rfl, rx⟩ := rps1 rs
    obtain ⟨a, vs, rfl, h, rt⟩ := rp_tup_inv rx
    cases en : intsD es with
    | none => rw [en] at e; cases e
    | some ns =>
      rw [en] at e
      cases e
      have e1 := ints_eq en
      subst e1
      rw [rt.ints] at h
      exact .inr ⟨a, ns, rfl, Same.seqT w.sub h, k _ F H (Grow.refl w.sub) rp_int⟩
  · exact .inl (oSum_ok B ρ F H ω _ c vs Q w rs e k)
end DL

set_option Elab.async false
set_option linter.all false
set_option maxRecDepth 100000
set_option maxHeartbeats 2000000
noncomputable section
namespace DL
open PySem PySem.Spec PyProof.Rows L2

/-! ### meanings, run: one row a word, at a frame and the shared objects -/
section
variable {α β : Type} {γ γ1 : List SD} {ω ω1 : List OB} {K : α → M β}
theorem rb_ok {a : α} : Res.bind (.ok a γ ω) K = K a γ ω := rfl
theorem rb_exc {e : Ex} : Res.bind (.exc e γ ω : Res α) K = .exc e γ ω := rfl
theorem rb_bad : Res.bind (.bad : Res α) K = .bad := rfl
theorem x_bind {m : M α} : M.bind m K γ ω = (m γ ω).bind K := rfl
theorem x_pure {a : α} : M.pure a γ ω = .ok a γ ω := rfl
theorem x_some {a : α} : M.of (some a) γ ω = .ok a γ ω := rfl
theorem x_none : (M.of (none : Option α)) γ ω = .bad := rfl
theorem x_badM : (M.bad : M α) γ ω = .bad := rfl
theorem x_c {d : D} : eC d γ ω = .ok d γ ω := rfl
theorem x_e2 {op : O2} {fa fb : EF} : e2 op fa fb γ ω = (fa γ ω).bind fun x γ ω => (fb γ ω).bind fun y γ ω => M.of (op ω x y) γ ω := rfl
theorem x_e1 {op : O1} {fa : EF} : e1 op fa γ ω = (fa γ ω).bind fun x γ ω => M.of (op ω x) γ ω := rfl
theorem x_tB {f : EF} : tB f γ ω = (f γ ω).bind fun d γ ω => M.of (asB d) γ ω := rfl
theorem x_asB {b : Bool} : asB (.bl b) = some b := rfl
/-- a chain's middle: go on or end with False -/
def chK (f : EF) (k : Bool) : EF := if k = true then f else M.pure (.bl false)
theorem chK_t {f : EF} : chK f true γ ω = f γ ω := rfl
theorem chK_f {f : EF} : chK f false γ ω = .ok (.bl false) γ ω := rfl
theorem x_eCh {o o' : O2} {fa fb fc : EF} : eCh o o' fa fb fc γ ω = (fa γ ω).bind fun x γ ω => (fb γ ω).bind fun y γ ω => (M.of ((o ω x y).bind asB) γ ω).bind fun k γ ω => chK (fun γ ω => (fc γ ω).bind fun z γ ω => M.of (o' ω y z) γ ω) k γ ω := rfl
/-- the choice, by a known test -/
def pick {α : Type} (k : Bool) (f g : M α) : M α := if k = true then f else g
theorem pick_t {f g : M α} : pick true f g γ ω = f γ ω := rfl
theorem pick_f {f g : M α} : pick false f g γ ω = g γ ω := rfl
theorem x_andM {f g : M Bool} : tAndM f g γ ω = (f γ ω).bind fun c γ ω => pick c g (M.pure false) γ ω := rfl
theorem x_orM {f g : M Bool} : tOrM f g γ ω = (f γ ω).bind fun c γ ω => pick c (M.pure true) g γ ω := rfl
theorem x_notM {f : M Bool} : tNotM f γ ω = (f γ ω).bind fun c γ ω => .ok (!c) γ ω := rfl
theorem x_and {f g : EF} : eAnd f g γ ω = (f γ ω).bind fun d γ ω => (M.of (asB d) γ ω).bind fun c γ ω => pick c g (M.pure (.bl false)) γ ω := rfl
theorem x_or {f g : EF} : eOr f g γ ω = (f γ ω).bind fun d γ ω => (M.of (asB d) γ ω).bind fun c γ ω => pick c (M.pure (.bl true)) g γ ω := rfl
theorem x_not {f : EF} : eNot f γ ω = (f γ ω).bind fun d γ ω => (M.of (asB d) γ ω).bind fun c γ ω => .ok (.bl (!c)) γ ω := rfl
theorem x_if {c : M Bool} {f g : EF} : eIf c f g γ ω = (c γ ω).bind fun k γ ω => pick k f g γ ω := rfl
theorem x_nil : aNil γ ω = .ok [] γ ω := rfl
theorem x_cons {f : EF} {g : M (List D)} : aCons f g γ ω = (f γ ω).bind fun x γ ω => (g γ ω).bind fun xs γ ω => .ok (x :: xs) γ ω := rfl
/-- a display's end: its size is checked -/
def szT (ds : List D) (γ : List SD) (ω : List OB) : Res D := if sized ds = true then .ok (.tup ds) γ ω else .bad
def szL (ds : List D) (γ : List SD) (ω : List OB) : Res (List D) := if sized ds = true then .ok ds γ ω else .bad
theorem szT_ok {ds : List D} (h : ds.length ≤ 1000000) : szT ds γ ω = .ok (.tup ds) γ ω := if_pos (decide_eq_true h)
theorem szL_ok {ds : List D} (h : ds.length ≤ 1000000) : szL ds γ ω = .ok ds γ ω := if_pos (decide_eq_true h)
theorem szL0 : szL [] γ ω = .ok [] γ ω := rfl
theorem szL1 {a : D} : szL [a] γ ω = .ok [a] γ ω := rfl
theorem szL2 {a b : D} : szL [a, b] γ ω = .ok [a, b] γ ω := rfl
theorem szL3 {a b c : D} : szL [a, b, c] γ ω = .ok [a, b, c] γ ω := rfl
theorem szL4 {a b c d : D} : szL [a, b, c, d] γ ω = .ok [a, b, c, d] γ ω := rfl
theorem szL6 {a b c d e f : D} : szL [a, b, c, d, e, f] γ ω = .ok [a, b, c, d, e, f] γ ω := rfl
theorem szL7 {a b c d e f g : D} : szL [a, b, c, d, e, f, g] γ ω = .ok [a, b, c, d, e, f, g] γ ω := rfl
theorem szL8 {a b c d e f g h : D} : szL [a, b, c, d, e, f, g, h] γ ω = .ok [a, b, c, d, e, f, g, h] γ ω := rfl
theorem szL10 {a b c d e f g h i j : D} : szL [a, b, c, d, e, f, g, h, i, j] γ ω = .ok [a, b, c, d, e, f, g, h, i, j] γ ω := rfl
theorem szT0 : szT [] γ ω = .ok (.tup []) γ ω := rfl
theorem szT1 {a : D} : szT [a] γ ω = .ok (.tup [a]) γ ω := rfl
theorem szT2 {a b : D} : szT [a, b] γ ω = .ok (.tup [a, b]) γ ω := rfl
theorem szT3 {a b c : D} : szT [a, b, c] γ ω = .ok (.tup [a, b, c]) γ ω := rfl
theorem szT4 {a b c d : D} : szT [a, b, c, d] γ ω = .ok (.tup [a, b, c, d]) γ ω := rfl
theorem x_tup {f : M (List D)} : eTup f γ ω = (f γ ω).bind fun ds γ ω => szT ds γ ω := by
  show (f γ ω).bind _ = (f γ ω).bind _
  congr 1
  funext ds γ ω
  unfold szT
  split <;> rfl
theorem x_nlst {f : M (List D)} : nLst f γ ω = (f γ ω).bind fun ds γ ω => szL ds γ ω := by
  show (f γ ω).bind _ = (f γ ω).bind _
  congr 1
  funext ds γ ω
  unfold szL
  split <;> rfl
theorem x_call {op : OC} {f : M (List D)} : eCall op f γ ω = (f γ ω).bind fun ds γ ω => M.of (op ω ds) γ ω := rfl
theorem x_ncall {op : ON} {f : M (List D)} : nCall op f γ ω = (f γ ω).bind fun ds γ ω => M.of (op ω ds) γ ω := rfl
theorem x_oNone : oNone γ ω = .ok none γ ω := rfl
theorem x_oSome {f : EF} : oSome f γ ω = (f γ ω).bind fun d γ ω => (M.of (asI d) γ ω).bind fun i γ ω => .ok (some i) γ ω := rfl
theorem x_asI {i : Int} : asI (.int i) = some i := rfl
theorem x_sl {op : OS} {f : EF} {l h : M (Option Int)} : eSl op f l h γ ω = (f γ ω).bind fun x γ ω => (l γ ω).bind fun lo γ ω => (h γ ω).bind fun hi γ ω => M.of (op ω x lo hi) γ ω := rfl
theorem x_flst {f : M (List D)} : fLst f γ ω = (f γ ω).bind fun ds γ ω => .ok (.lst ds) γ ω := rfl
theorem x_alloc {f : M (List D)} : eAlloc f γ ω = (f γ ω).bind fun ds γ ω => .ok (.obj ω.length) γ (ω ++ [.lst ds]) := rfl
/-- behind a call -/
def bk (γ : List SD) : Res D → Res D
  | .ok d _ ω' => .ok d γ ω'
  | .exc e _ ω' => .exc e γ ω'
  | .bad => .bad
theorem bk_ok {γ' : List SD} {d : D} : bk γ (.ok d γ' ω) = .ok d γ ω := rfl
theorem bk_exc {γ' : List SD} {e : Ex} : bk γ (.exc e γ' ω) = .exc e γ ω := rfl
theorem x_fun {f : Fn} {a : M (List D)} : eFun f a γ ω = (a γ ω).bind fun ds γ ω => bk γ (f ds ω) := by
  show (a γ ω).bind _ = (a γ ω).bind _
  congr 1
theorem x_ret {f : Fn} {ds : List D} : ret f ds γ ω = bk γ (f ds ω) := by
  unfold ret
  cases f ds ω <;> rfl
theorem x_funK {f : Fn} {is : List Nat} {a : M (List D)} : eFunK f is a γ ω = (a γ ω).bind fun ds γ ω => bk γ (f (permL is ds) ω) := by
  show (a γ ω).bind _ = (a γ ω).bind _
  congr 1
/-- behind a look at an object's field -/
def opt (o : Option D) (γ : List SD) (ω : List OB) : Res D := match o with | some y => .ok y γ ω | none => .bad
theorem opt_some {y : D} : opt (some y) γ ω = .ok y γ ω := rfl
def fld (C : Addr) (ω : List OB) (d : D) (x : Str) : Option D := (hI C ω d).bind fun p => p.2.lookup x
theorem x_fld {C : Addr} {f : EF} {x : Str} : eFld C f x γ ω = (f γ ω).bind fun d γ ω => opt (fld C ω d x) γ ω := by
  show (f γ ω).bind _ = (f γ ω).bind _
  congr 1
/-- behind a method of a list -/
def mtK (op : OM) (d : D) (ds : List D) (γ : List SD) (ω : List OB) : Res D := match op ω d ds with
  | some (r, ω') => .ok r γ ω'
  | none => .bad
theorem mtK_ok {op : OM} {d r : D} {ds : List D} {ω' : List OB} (h : op ω d ds = some (r, ω')) : mtK op d ds γ ω = .ok r γ ω' := by unfold mtK; rw [h]
theorem x_mt {op : OM} {f : EF} {a : M (List D)} : eMt op f a γ ω = (f γ ω).bind fun d γ ω => pick (vL ω d).isSome (fun γ ω => (a γ ω).bind fun ds γ ω => mtK op d ds γ ω) M.bad γ ω := by
  show (f γ ω).bind _ = (f γ ω).bind _
  congr 1
  funext d γ ω
  unfold pick
  by_cases h : (vL ω d).isSome = true
  · rw [if_pos h, if_pos h]
    show (a γ ω).bind _ = (a γ ω).bind _
    congr 1
  · rw [if_neg h, if_neg h]
    rfl
/-- is d an instance of the class at C that has no own thing of this name? -/
def isI (C : Addr) (ω : List OB) (d : D) (m : Str) : Bool := match hI C ω d with
  | some (_, fs) => (fs.lookup m).isNone
  | none => false
theorem x_meth {f : Fn} {C : Addr} {m : Str} {fo : EF} {a : M (List D)} : eMeth f C m fo a γ ω = (fo γ ω).bind fun d γ ω => pick (isI C ω d m) (fun γ ω => (a γ ω).bind fun ds γ ω => bk γ (f (d :: ds) ω)) M.bad γ ω := by
  show (fo γ ω).bind _ = (fo γ ω).bind _
  congr 1
  funext d γ ω
  unfold isI pick
  cases hI C ω d with
  | none => rfl
  | some p =>
    obtain ⟨h, fs⟩ := p
    dsimp only
    by_cases h : (fs.lookup m).isNone = true
    · rw [if_pos h, if_pos h]
      show (a γ ω).bind _ = (a γ ω).bind _
      congr 1
    · rw [if_neg h, if_neg h]
      rfl
/-- behind the making of an instance -/
def mkK (γ : List SD) (h : Nat) : Res D → Res D
  | .ok .non _ ω' => .ok (.obj h) γ ω'
  | .exc e _ ω' => .exc e γ ω'
  | _ => .bad
theorem mkK_ok {γ' : List SD} {h : Nat} : mkK γ h (.ok .non γ' ω) = .ok (.obj h) γ ω := rfl
theorem mkK_exc {γ' : List SD} {h : Nat} {e : Ex} : mkK γ h (.exc e γ' ω) = .exc e γ ω := rfl
theorem x_make {C : Addr} {f : Fn} {a : M (List D)} : eMake C f a γ ω = (a γ ω).bind fun ds γ ω => mkK γ ω.length (f (.obj ω.length :: ds) (ω ++ [.ins C []])) := by
  show (a γ ω).bind _ = (a γ ω).bind _
  congr 1
theorem x_makeK {C : Addr} {f : Fn} {is : List Nat} {a : M (List D)} : eMakeK C f is a γ ω = (a γ ω).bind fun ds γ ω => mkK γ ω.length (f (.obj ω.length :: permL is ds) (ω ++ [.ins C []])) := by
  show (a γ ω).bind _ = (a γ ω).bind _
  congr 1
def lstO (o : Option (List D)) (g : List D → List D) (γ : List SD) (ω : List OB) : Res D := match o with | some y => .ok (.lst (g y)) γ ω | none => .bad
end
/-! statements -/
section
variable {γ γ1 : List SD} {ω ω1 : List OB}
theorem x_next : sNext γ ω = .ok .nx γ ω := rfl
theorem x_seq {f g : M Fl} : sSeq f g γ ω = (f γ ω).thn g := rfl
theorem th_nx {g : M Fl} : Res.thn (.ok .nx γ ω) g = g γ ω := rfl
theorem th_rt {g : M Fl} {d : D} : Res.thn (.ok (.rt d) γ ω) g = .ok (.rt d) γ ω := rfl
theorem th_bk {g : M Fl} : Res.thn (.ok .bk γ ω) g = .ok .bk γ ω := rfl
theorem th_ct {g : M Fl} : Res.thn (.ok .ct γ ω) g = .ok .ct γ ω := rfl
theorem th_exc {g : M Fl} {e : Ex} : Res.thn (.exc e γ ω) g = .exc e γ ω := rfl
theorem x_drop {f : EF} : sDrop f γ ω = (f γ ω).bind fun _ γ ω => .ok .nx γ ω := rfl
theorem x_sret {f : EF} : sRet f γ ω = (f γ ω).bind fun d γ ω => .ok (.rt d) γ ω := rfl
theorem x_sif {c : M Bool} {f g : M Fl} : sIf c f g γ ω = (c γ ω).bind fun k γ ω => pick k f g γ ω := rfl
theorem x_set {i : Nat} {f : EF} : sSet i f γ ω = (f γ ω).bind fun d γ ω => .ok .nx (γ.set i (.dat d)) ω := rfl
def asgK (o : Option (List SD)) (ω : List OB) : Res Fl := match o with | some γ' => .ok .nx γ' ω | none => .bad
theorem asgK_some {γ' : List SD} : asgK (some γ') ω = .ok .nx γ' ω := rfl
theorem x_asg {t : Tg} {f : EF} : sAsg t f γ ω = (f γ ω).bind fun d γ ω => asgK (t.set d γ) ω := by
  show (f γ ω).bind _ = (f γ ω).bind _
  congr 1
theorem tg_tp {l : List Nat} {ds : List D} : Tg.set (.tp l) (.tup ds) γ = setAll l ds γ := rfl
theorem tg_nm {i : Nat} {d : D} : Tg.set (.nm i) d γ = some (γ.set i (.dat d)) := rfl
theorem setAll_nil : setAll [] [] γ = some γ := rfl
theorem setAll_cons {i : Nat} {l : List Nat} {d : D} {ds : List D} : setAll (i :: l) (d :: ds) γ = setAll l ds (γ.set i (.dat d)) := rfl
def parK (i j : Nat) (ds : List D) (γ : List SD) (ω : List OB) : Res Fl := match ds with
  | [a, b] => .ok .nx ((γ.set i (.dat a)).set j (.dat b)) ω
  | _ => .bad
theorem parK_ok {i j : Nat} {a b : D} : parK i j [a, b] γ ω = .ok .nx ((γ.set i (.dat a)).set j (.dat b)) ω := rfl
theorem x_par {i j : Nat} {f : M (List D)} : sPar i j f γ ω = (f γ ω).bind fun ds γ ω => parK i j ds γ ω := by
  show (f γ ω).bind _ = (f γ ω).bind _
  congr 1
def par3K (i j l : Nat) (ds : List D) (γ : List SD) (ω : List OB) : Res Fl := match ds with
  | [a, b, c] => .ok .nx (((γ.set i (.dat a)).set j (.dat b)).set l (.dat c)) ω
  | _ => .bad
theorem par3K_ok {i j l : Nat} {a b c : D} : par3K i j l [a, b, c] γ ω = .ok .nx (((γ.set i (.dat a)).set j (.dat b)).set l (.dat c)) ω := rfl
theorem x_par3 {i j l : Nat} {f : M (List D)} : sPar3 i j l f γ ω = (f γ ω).bind fun ds γ ω => par3K i j l ds γ ω := by
  show (f γ ω).bind _ = (f γ ω).bind _
  congr 1
def subK' (o i y : D) (γ : List SD) (ω : List OB) : Res Fl := match i with
  | .int k => (match hL ω o with
    | some (h, xs) => (match ixN xs.length k with
      | some j => .ok .nx γ (ω.set h (.lst (xs.set j y)))
      | none => .bad)
    | none => .bad)
  | _ => .bad
theorem subK'_ok {h j : Nat} {k : Int} {xs : List D} {y : D} (e : ω[h]? = some (.lst xs)) (e2 : ixN xs.length k = some j) : subK' (.obj h) (.int k) y γ ω = .ok .nx γ (ω.set h (.lst (xs.set j y))) := by
  unfold subK' hL
  simp only [e, e2]
theorem x_sub {fo fi fe : EF} : sSub fo fi fe γ ω = (fe γ ω).bind fun y γ ω => (fo γ ω).bind fun o γ ω => (fi γ ω).bind fun i γ ω => subK' o i y γ ω := by
  show (fe γ ω).bind _ = (fe γ ω).bind _
  congr 1
def fldK (C : Addr) (d : D) (x : Str) (y : D) (γ : List SD) (ω : List OB) : Res Fl := match hI C ω d with
  | some (h, fs) => if fs.length < 900 then .ok .nx γ (ω.set h (.ins C (putD x y fs))) else .bad
  | none => .bad
theorem x_sfld {C : Addr} {fo fe : EF} {x : Str} : sFldD C fo fe x γ ω = (fe γ ω).bind fun y γ ω => (fo γ ω).bind fun d γ ω => fldK C d x y γ ω := by
  show (fe γ ω).bind _ = (fe γ ω).bind _
  congr 1
theorem fldK_ok {C : Addr} {h : Nat} {fs : List (Str × D)} {x : Str} {y : D} (e : ω[h]? = some (.ins C fs)) (hl : fs.length < 900) : fldK C (.obj h) x y γ ω = .ok .nx γ (ω.set h (.ins C (putD x y fs))) := by
  unfold fldK hI
  simp [e, hl]
theorem x_for {t : Tg} {it : M (List D)} {body : M Fl} : sFor t it body γ ω = (it γ ω).bind fun ds γ ω => forL t body ds γ ω := rfl
def lOf (o : Option (List D)) (γ : List SD) (ω : List OB) : Res (List D) := match o with | some ds => .ok ds γ ω | none => .bad
theorem x_iL {f : EF} : iL f γ ω = (f γ ω).bind fun d γ ω => M.of (asL d) γ ω := rfl
theorem x_iT {f : EF} : iT f γ ω = (f γ ω).bind fun d γ ω => M.of (asT d) γ ω := rfl
theorem x_asL {ds : List D} : asL (.lst ds) = some ds := rfl
theorem x_asT {ds : List D} : asT (.tup ds) = some ds := rfl
noncomputable def r1K (ds : List D) (γ : List SD) (ω : List OB) : Res (List D) := match ds with
  | [.int j] => if inB j = true then .ok (rangeD 0 j) γ ω else .bad
  | _ => .bad
theorem r1K_ok {j : Int} (h : -(2 ^ 62) ≤ j ∧ j < 2 ^ 62) : r1K [.int j] γ ω = .ok (rangeD 0 j) γ ω := if_pos (inB_mk h)
theorem x_iR1 {f : M (List D)} : iR1 f γ ω = (f γ ω).bind fun ds γ ω => r1K ds γ ω := by
  show (f γ ω).bind _ = (f γ ω).bind _
  congr 1
  funext ds γ ω
  unfold r1K
  match ds with
  | [] => rfl
  | a :: b :: r => cases a <;> rfl
  | [a] => cases a <;> first | rfl | (dsimp only; split <;> rfl)
noncomputable def r2K (ds : List D) (γ : List SD) (ω : List OB) : Res (List D) := match ds with
  | [.int i, .int j] => if (inB i && inB j) = true then .ok (rangeD i j) γ ω else .bad
  | _ => .bad
theorem r2K_ok {i j : Int} (h1 : -(2 ^ 62) ≤ i ∧ i < 2 ^ 62) (h2 : -(2 ^ 62) ≤ j ∧ j < 2 ^ 62) : r2K [.int i, .int j] γ ω = .ok (rangeD i j) γ ω := if_pos (by rw [Bool.and_eq_true]; exact ⟨inB_mk h1, inB_mk h2⟩)
theorem x_iR2 {f : M (List D)} : iR2 f γ ω = (f γ ω).bind fun ds γ ω => r2K ds γ ω := by
  show (f γ ω).bind _ = (f γ ω).bind _
  congr 1
  funext ds γ ω
  unfold r2K
  match ds with
  | [] => rfl
  | [a] => cases a <;> rfl
  | a :: b :: c :: r => cases a <;> cases b <;> rfl
  | [a, b] => cases a <;> cases b <;> first | rfl | (dsimp only; split <;> rfl)
theorem x_nlc {t : Tg} {vs : List Nat} {it : M (List D)} {tt : M Bool} {te : EF} : nLc t vs it tt te γ ω = (it γ ω).bind fun ds γ ω => lcL t vs tt te ds [] (wipeD γ vs) ω := rfl
def raK (x f : Str) (ds : List D) (γ : List SD) (ω : List OB) : Res Fl := match ds with
  | [d] => .exc ⟨x, [(f, d)]⟩ γ ω
  | _ => .bad
theorem raK_ok {x f : Str} {d : D} : raK x f [d] γ ω = .exc ⟨x, [(f, d)]⟩ γ ω := rfl
theorem x_raise {x f : Str} {a : M (List D)} : sRaise x f a γ ω = (a γ ω).bind fun ds γ ω => raK x f ds γ ω := by
  show (a γ ω).bind _ = (a γ ω).bind _
  congr 1
theorem fin_rt {d : D} : fin (.ok (.rt d) γ ω) = .ok d [] ω := rfl
theorem fin_nx : fin (.ok .nx γ ω) = .ok .non [] ω := rfl
theorem fin_exc {e : Ex} : fin (.exc e γ ω) = .exc e [] ω := rfl
def tryK (known : List Str) (sub : Str → Str → Bool) (hs : List Hd) : Res Fl → Res Fl
  | .exc e γ1 ω1 => if e.cls ∈ known then handle sub e hs γ1 ω1 else .bad
  | r => r
theorem x_try {known : List Str} {sub : Str → Str → Bool} {body : M Fl} {hs : List Hd} : sTry known sub body hs γ ω = tryK known sub hs (body γ ω) := by
  unfold sTry tryK
  cases body γ ω <;> rfl
theorem try_rt {known : List Str} {sub : Str → Str → Bool} {hs : List Hd} {d : D} : tryK known sub hs (.ok (.rt d) γ ω) = .ok (.rt d) γ ω := rfl
/-! loops -/
theorem while_ok {c : M Bool} {g : M Fl} (I : Nat → List SD → List OB → Prop) (P : List SD → List OB → Prop)
    (step : ∀ k γ ω, I k γ ω → (c γ ω = .ok false γ ω ∧ P γ ω) ∨ (c γ ω = .ok true γ ω ∧ ∃ γ2 ω2 k', g γ ω = .ok .nx γ2 ω2 ∧ k' < k ∧ I k' γ2 ω2)) :
    ∀ (n k : Nat) (γ : List SD) (ω : List OB), k < n → I k γ ω → ∃ γ' ω', whileL c g n γ ω = .ok .nx γ' ω' ∧ P γ' ω'
  | 0, _, _, _, h, _ => absurd h (Nat.not_lt_zero _)
  | n + 1, k, γ, ω, h, i => by
    rcases step k γ ω i with ⟨e, p⟩ | ⟨e, γ2, ω2, k', e2, hk, i2⟩
    · exact ⟨γ, ω, by unfold whileL; rw [e], p⟩
    · obtain ⟨γ', ω', e3, p⟩ := while_ok I P step n k' γ2 ω2 (by omega) i2
      exact ⟨γ', ω', by unfold whileL; rw [e]; dsimp only; rw [e2]; exact e3, p⟩
theorem for_ok {t : Tg} {body : M Fl} (I : Nat → List SD → List OB → Prop) : ∀ {ds : List D} {γ : List SD} {ω : List OB}, I 0 γ ω →
    (∀ i d γ ω, ds[i]? = some d → I i γ ω → ∃ γ1 γ2 ω2, t.set d γ = some γ1 ∧ body γ1 ω = .ok .nx γ2 ω2 ∧ I (i + 1) γ2 ω2) → ∃ γ' ω', forL t body ds γ ω = .ok .nx γ' ω' ∧ I ds.length γ' ω'
  | [], γ, ω, i0, _ => ⟨γ, ω, rfl, i0⟩
  | d :: r, γ, ω, i0, step => by
    obtain ⟨γ1, γ2, ω2, e1, e2, i2⟩ := step 0 d γ ω rfl i0
    obtain ⟨γ', ω', e3, i3⟩ := for_ok (fun i => I (i + 1)) (ds := r) i2 fun i d γ ω h q => step (i + 1) d γ ω (by simpa using h) q
    exact ⟨γ', ω', by unfold forL; rw [e1]; dsimp only; rw [e2]; exact e3, by simpa using i3⟩
/-- a comprehension: J what is so ahead of the i-th turn, the list being acc -/
theorem lc_ok {t : Tg} {vs : List Nat} {tt : M Bool} {te : EF} (J : Nat → List D → List SD → List OB → Prop) : ∀ {ds : List D} {acc : List D} {γ : List SD} {ω : List OB} (i : Nat), J i acc γ ω → acc.length + ds.length ≤ 1000000 →
    (∀ (j : Nat) d acc γ ω, ds[j]? = some d → J (i + j) acc γ ω → ∃ γ1 γ2 ω2, t.set d (wipeD γ vs) = some γ1 ∧
      ((tt γ1 ω = .ok false γ2 ω2 ∧ J (i + j + 1) acc (wipeD γ2 vs) ω2) ∨ ∃ y γ3 ω3, tt γ1 ω = .ok true γ2 ω2 ∧ te γ2 ω2 = .ok y γ3 ω3 ∧ J (i + j + 1) (acc ++ [y]) (wipeD γ3 vs) ω3)) →
    ∃ acc' γ' ω', lcL t vs tt te ds acc γ ω = .ok acc' γ' ω' ∧ J (i + ds.length) acc' γ' ω'
  | [], acc, γ, ω, i, j0, _, _ => ⟨acc, γ, ω, rfl, j0⟩
  | d :: r, acc, γ, ω, i, j0, hl, step => by
    have hl' : acc.length + (r.length + 1) ≤ 1000000 := by simpa using hl
    have sh : ∀ (γ1 : List SD) (ω1 : List OB) (acc1 : List D), J (i + 1) acc1 γ1 ω1 → acc1.length ≤ acc.length + 1 → ∃ acc' γ' ω', lcL t vs tt te r acc1 γ1 ω1 = .ok acc' γ' ω' ∧ J (i + (d :: r).length) acc' γ' ω' := fun γ1 ω1 acc1 j1 h1 => by
      obtain ⟨acc', γ', ω', e, q⟩ := lc_ok J (ds := r) (i + 1) j1 (by omega) fun j d' a g o h q => by
        have z := step (j + 1) d' a g o (by simpa using h) (by rw [show i + (j + 1) = i + 1 + j from by omega]; exact q)
        rw [show i + (j + 1) + 1 = i + 1 + j + 1 from by omega] at z
        exact z
      refine ⟨acc', γ', ω', e, ?_⟩
      rw [show i + (d :: r).length = i + 1 + r.length from by simp; omega]
      exact q
    obtain ⟨γ1, γ2, ω2, e1, h⟩ := step 0 d acc γ ω rfl j0
    rcases h with ⟨e2, q⟩ | ⟨y, γ3, ω3, e2, e3, q⟩
    · obtain ⟨acc', γ', ω', e, q2⟩ := sh _ _ acc q (by omega)
      exact ⟨acc', γ', ω', by unfold lcL; rw [e1]; dsimp only; rw [e2]; exact e, q2⟩
    · obtain ⟨acc', γ', ω', e, q2⟩ := sh _ _ (acc ++ [y]) q (by simp)
      exact ⟨acc', γ', ω', by unfold lcL; rw [e1]; dsimp only; rw [e2]; dsimp only; rw [e3]; dsimp only; rw [if_pos (by omega)]; exact e, q2⟩
end
/-! a frame's slots -/
theorem ev0 {d : D} {r : List SD} {ω : List OB} : eVar 0 (.dat d :: r) ω = .ok d (.dat d :: r) ω := rfl
theorem ev1 {s0 : SD} {d : D} {r : List SD} {ω : List OB} : eVar 1 (s0 :: .dat d :: r) ω = .ok d (s0 :: .dat d :: r) ω := rfl
theorem ev2 {s0 s1 : SD} {d : D} {r : List SD} {ω : List OB} : eVar 2 (s0 :: s1 :: .dat d :: r) ω = .ok d (s0 :: s1 :: .dat d :: r) ω := rfl
theorem ev3 {s0 s1 s2 : SD} {d : D} {r : List SD} {ω : List OB} : eVar 3 (s0 :: s1 :: s2 :: .dat d :: r) ω = .ok d (s0 :: s1 :: s2 :: .dat d :: r) ω := rfl
theorem ev4 {s0 s1 s2 s3 : SD} {d : D} {r : List SD} {ω : List OB} : eVar 4 (s0 :: s1 :: s2 :: s3 :: .dat d :: r) ω = .ok d (s0 :: s1 :: s2 :: s3 :: .dat d :: r) ω := rfl
theorem ev5 {s0 s1 s2 s3 s4 : SD} {d : D} {r : List SD} {ω : List OB} : eVar 5 (s0 :: s1 :: s2 :: s3 :: s4 :: .dat d :: r) ω = .ok d (s0 :: s1 :: s2 :: s3 :: s4 :: .dat d :: r) ω := rfl
theorem ev6 {s0 s1 s2 s3 s4 s5 : SD} {d : D} {r : List SD} {ω : List OB} : eVar 6 (s0 :: s1 :: s2 :: s3 :: s4 :: s5 :: .dat d :: r) ω = .ok d (s0 :: s1 :: s2 :: s3 :: s4 :: s5 :: .dat d :: r) ω := rfl
theorem ev7 {s0 s1 s2 s3 s4 s5 s6 : SD} {d : D} {r : List SD} {ω : List OB} : eVar 7 (s0 :: s1 :: s2 :: s3 :: s4 :: s5 :: s6 :: .dat d :: r) ω = .ok d (s0 :: s1 :: s2 :: s3 :: s4 :: s5 :: s6 :: .dat d :: r) ω := rfl
theorem ev8 {s0 s1 s2 s3 s4 s5 s6 s7 : SD} {d : D} {r : List SD} {ω : List OB} : eVar 8 (s0 :: s1 :: s2 :: s3 :: s4 :: s5 :: s6 :: s7 :: .dat d :: r) ω = .ok d (s0 :: s1 :: s2 :: s3 :: s4 :: s5 :: s6 :: s7 :: .dat d :: r) ω := rfl
theorem ev9 {s0 s1 s2 s3 s4 s5 s6 s7 s8 : SD} {d : D} {r : List SD} {ω : List OB} : eVar 9 (s0 :: s1 :: s2 :: s3 :: s4 :: s5 :: s6 :: s7 :: s8 :: .dat d :: r) ω = .ok d (s0 :: s1 :: s2 :: s3 :: s4 :: s5 :: s6 :: s7 :: s8 :: .dat d :: r) ω := rfl
theorem ev10 {s0 s1 s2 s3 s4 s5 s6 s7 s8 s9 : SD} {d : D} {r : List SD} {ω : List OB} : eVar 10 (s0 :: s1 :: s2 :: s3 :: s4 :: s5 :: s6 :: s7 :: s8 :: s9 :: .dat d :: r) ω = .ok d (s0 :: s1 :: s2 :: s3 :: s4 :: s5 :: s6 :: s7 :: s8 :: s9 :: .dat d :: r) ω := rfl
theorem ev11 {s0 s1 s2 s3 s4 s5 s6 s7 s8 s9 s10 : SD} {d : D} {r : List SD} {ω : List OB} : eVar 11 (s0 :: s1 :: s2 :: s3 :: s4 :: s5 :: s6 :: s7 :: s8 :: s9 :: s10 :: .dat d :: r) ω = .ok d (s0 :: s1 :: s2 :: s3 :: s4 :: s5 :: s6 :: s7 :: s8 :: s9 :: s10 :: .dat d :: r) ω := rfl
theorem ev12 {s0 s1 s2 s3 s4 s5 s6 s7 s8 s9 s10 s11 : SD} {d : D} {r : List SD} {ω : List OB} : eVar 12 (s0 :: s1 :: s2 :: s3 :: s4 :: s5 :: s6 :: s7 :: s8 :: s9 :: s10 :: s11 :: .dat d :: r) ω = .ok d (s0 :: s1 :: s2 :: s3 :: s4 :: s5 :: s6 :: s7 :: s8 :: s9 :: s10 :: s11 :: .dat d :: r) ω := rfl
theorem ev13 {s0 s1 s2 s3 s4 s5 s6 s7 s8 s9 s10 s11 s12 : SD} {d : D} {r : List SD} {ω : List OB} : eVar 13 (s0 :: s1 :: s2 :: s3 :: s4 :: s5 :: s6 :: s7 :: s8 :: s9 :: s10 :: s11 :: s12 :: .dat d :: r) ω = .ok d (s0 :: s1 :: s2 :: s3 :: s4 :: s5 :: s6 :: s7 :: s8 :: s9 :: s10 :: s11 :: s12 :: .dat d :: r) ω := rfl
theorem ev14 {s0 s1 s2 s3 s4 s5 s6 s7 s8 s9 s10 s11 s12 s13 : SD} {d : D} {r : List SD} {ω : List OB} : eVar 14 (s0 :: s1 :: s2 :: s3 :: s4 :: s5 :: s6 :: s7 :: s8 :: s9 :: s10 :: s11 :: s12 :: s13 :: .dat d :: r) ω = .ok d (s0 :: s1 :: s2 :: s3 :: s4 :: s5 :: s6 :: s7 :: s8 :: s9 :: s10 :: s11 :: s12 :: s13 :: .dat d :: r) ω := rfl
end DL

set_option Elab.async false
set_option linter.all false
set_option maxRecDepth 100000
set_option maxHeartbeats 2000000
noncomputable section
namespace DL
open PySem PySem.Spec PyProof.Rows L2

/-! ### operations at known values -/
section
variable {ω : List OB}
theorem v_sub {i j : Int} : oSub ω (.int i) (.int j) = some (.int (i - j)) := rfl
theorem v_add {i j : Int} : oAdd ω (.int i) (.int j) = some (.int (i + j)) := rfl
theorem v_addT {xs ys : List D} (h : xs.length + ys.length ≤ 1000000) : oAdd ω (.tup xs) (.tup ys) = some (.tup (xs ++ ys)) := by
  show (catD xs ys).map D.tup = _
  unfold catD
  rw [if_pos (decide_eq_true h)]
  rfl
theorem v_addL {xs ys : List D} (h : xs.length + ys.length ≤ 1000000) : oAdd ω (.lst xs) (.lst ys) = some (.lst (xs ++ ys)) := by
  show (catD xs ys).map D.lst = _
  unfold catD
  rw [if_pos (decide_eq_true h)]
  rfl
theorem v_lt {i j : Int} : oLt ω (.int i) (.int j) = some (.bl (decide (i < j))) := rfl
theorem v_le {i j : Int} : oLe ω (.int i) (.int j) = some (.bl (decide (i ≤ j))) := rfl
theorem v_gt {i j : Int} : oGt ω (.int i) (.int j) = some (.bl (decide (j < i))) := rfl
theorem v_ge {i j : Int} : oGe ω (.int i) (.int j) = some (.bl (decide (j ≤ i))) := rfl
theorem v_mulI {i j : Int} (h : (small i || small j) = true) : oMul ω (.int i) (.int j) = some (.int (i * j)) := by
  show oMulI i j = _
  unfold oMulI
  rw [if_pos h]
theorem small_of {i : Int} (h1 : -(2 ^ 64) < i) (h2 : i < 2 ^ 64) : small i = true := cdec_mk ⟨h1, h2⟩
theorem v_fdiv {i j : Int} (h1 : 0 < j) (h2 : j < 1073741824) : oFdiv ω (.int i) (.int j) = some (.int (i / j)) := by
  show (if cdec (0 < j ∧ j < 1073741824) = true then some (D.int (i / j)) else none) = _
  rw [if_pos (cdec_mk ⟨h1, h2⟩)]
theorem v_fdiv2 {i : Int} : oFdiv ω (.int i) (.int 2) = some (.int (i / 2)) := v_fdiv (by decide) (by decide)
theorem v_mod {i j : Int} (h1 : 0 < j) : oMod ω (.int i) (.int j) = some (.int (i % j)) := by
  show (if decide (0 < j) = true then some (D.int (i % j)) else none) = _
  rw [if_pos (decide_eq_true h1)]
theorem v_pow {i j : Int} (h0 : 0 ≤ j) (h1 : j ≤ 1000) (h2 : i.natAbs < 2 ^ 64) : oPow ω (.int i) (.int j) = some (.int (i ^ j.toNat)) := by
  show (if decide (0 ≤ j ∧ j ≤ 1000 ∧ i.natAbs < 2 ^ 64) = true then some (D.int (i ^ j.toNat)) else none) = _
  rw [if_pos (decide_eq_true ⟨h0, h1, h2⟩)]
theorem v_neg {i : Int} : oNeg ω (.int i) = some (.int (-i)) := rfl
theorem v_abs {i : Int} : oAbs ω [.int i] = some (.int (if i < 0 then -i else i)) := rfl
theorem v_int {i : Int} : oInt ω [.int i] = some (.int i) := rfl
theorem v_min2 {i j : Int} : oMin2 ω [.int i, .int j] = some (.int (if j < i then j else i)) := rfl
theorem v_max2 {i j : Int} : oMax2 ω [.int i, .int j] = some (.int (if j > i then j else i)) := rfl
theorem eqv_int {i j : Int} : PyData.eqv (.int i) (.int j) = decide (i = j) := by
  unfold PyData.eqv
  first
  | rfl
  | exact Bool.beq_eq_decide_eq _ _
theorem v_eqI {i j : Int} : oEq ω (.int i) (.int j) = some (.bl (decide (i = j))) := by
  have e : eqB ω (.int i) (.int j) = some (PyData.eqv (.int i) (.int j)) := by
    unfold eqB n1 pyOf
    dsimp only
    first | exact if_pos rfl | simp [PyData.canLay0, PyData.depth] | (rw [if_pos]; simp [PyData.canLay0, PyData.depth])
  unfold oEq
  rw [e, eqv_int]
  rfl
theorem v_neI {i j : Int} : oNe ω (.int i) (.int j) = some (.bl (!decide (i = j))) := by
  have h := v_eqI (ω := ω) (i := i) (j := j)
  unfold oEq at h
  unfold oNe
  cases e : eqB ω (.int i) (.int j) with
  | none => rw [e] at h; cases h
  | some k =>
    rw [e] at h
    have h' : some (D.bl k) = some (D.bl (decide (i = j))) := h
    cases h'
    rfl
theorem v_eqB {i j : Bool} : oEq ω (.bl i) (.bl j) = some (.bl (decide (i = j))) := by cases i <;> cases j <;> rfl
theorem v_neB {i j : Bool} : oNe ω (.bl i) (.bl j) = some (.bl (!decide (i = j))) := by cases i <;> cases j <;> rfl
theorem v_isN {d : D} : oIsN ω d .non = some (.bl (isNonD d)) := rfl
theorem v_notN {d : D} : oNotN ω d .non = some (.bl (!isNonD d)) := rfl
theorem v_isB {i j : Bool} : oIsB ω (.bl i) (.bl j) = some (.bl (decide (i = j))) := rfl
theorem v_e0l {g : Bool → Bool} {xs : List D} : oE0 g ω (.lst xs) (.lst []) = some (.bl (g xs.isEmpty)) := rfl
theorem v_e0o {g : Bool → Bool} {h : Nat} {xs : List D} (e : ω[h]? = some (.lst xs)) : oE0 g ω (.obj h) (.lst []) = some (.bl (g xs.isEmpty)) := by
  show (vL ω (.obj h)).map _ = _
  unfold vL
  dsimp only
  rw [e]
  rfl
theorem vL_obj {h : Nat} {xs : List D} (e : ω[h]? = some (.lst xs)) : vL ω (.obj h) = some xs := by
  unfold vL
  dsimp only
  rw [e]
theorem vL_lst {xs : List D} : vL ω (.lst xs) = some xs := rfl
theorem isS_some {α : Type} {a : α} : (some a).isSome = true := rfl
theorem v_ixO {h : Nat} {xs : List D} {i : Int} (e : ω[h]? = some (.lst xs)) : oIx ω (.obj h) (.int i) = atI xs i := by
  show (vLs ω (.obj h)).bind _ = _
  unfold vLs
  dsimp only
  rw [vL_obj e]
  rfl
theorem v_ixL {xs : List D} {i : Int} : oIx ω (.lst xs) (.int i) = atI xs i := rfl
theorem v_ixS {xs : List D} {i : Int} : oIx ω (.scr xs) (.int i) = atI xs i := rfl
theorem v_ixT {xs : List D} {i : Int} : oIx ω (.tup xs) (.int i) = atI xs i := rfl
theorem atI_nat {xs : List D} {i : Nat} {x : D} (h : xs[i]? = some x) : atI xs (i : Int) = some x := by
  unfold atI ixN
  have hl := (List.getElem?_eq_some_iff.mp h).1
  rw [if_pos (by omega), if_pos (by omega)]
  simpa using h
theorem atI_0 {a : D} {r : List D} : atI (a :: r) 0 = some a := atI_nat (i := 0) rfl
theorem atI_1 {a b : D} {r : List D} : atI (a :: b :: r) 1 = some b := atI_nat (i := 1) rfl
theorem atI_2 {a b c : D} {r : List D} : atI (a :: b :: c :: r) 2 = some c := atI_nat (i := 2) rfl
theorem atI_3 {a b c d : D} {r : List D} : atI (a :: b :: c :: d :: r) 3 = some d := atI_nat (i := 3) rfl
theorem atI_4 {a b c d e : D} {r : List D} : atI (a :: b :: c :: d :: e :: r) 4 = some e := atI_nat (i := 4) rfl
theorem atI_5 {a b c d e f : D} {r : List D} : atI (a :: b :: c :: d :: e :: f :: r) 5 = some f := atI_nat (i := 5) rfl
theorem atI_last {xs : List D} {x : D} : atI (xs ++ [x]) (-1) = some x := by
  unfold atI ixN
  rw [if_neg (by decide), if_pos (by rw [List.length_append, List.length_singleton]; omega)]
  have e : ((-1 : Int) + ((xs ++ [x]).length : Int)).toNat = xs.length := by
    rw [List.length_append, List.length_singleton]
    omega
  show (some ((-1 : Int) + ((xs ++ [x]).length : Int)).toNat).bind (fun j => (xs ++ [x])[j]?) = _
  rw [e]
  simp
theorem v_lenO {h : Nat} {xs : List D} (e : ω[h]? = some (.lst xs)) : oLen2 ω [.obj h] = some (.int xs.length) := by
  show (lenD2 ω (.obj h)).map _ = _
  unfold lenD2 lenD vLs
  dsimp only
  rw [vL_obj e]
  rfl
theorem v_lenL {xs : List D} : oLen2 ω [.lst xs] = some (.int xs.length) := rfl
theorem v_lenS {xs : List D} : oLen2 ω [.scr xs] = some (.int xs.length) := rfl
theorem v_lenT {xs : List D} : oLen2 ω [.tup xs] = some (.int xs.length) := rfl
theorem v_lenD {ks : List Key} {xs : List D} : oLen2 ω [.dic ks xs] = some (.int ks.length) := rfl
theorem intsD_map : ∀ ns : List Int, intsD (ns.map D.int) = some ns
  | [] => rfl
  | n :: r => by
    show (intsD (r.map D.int)).map (n :: ·) = _
    rw [intsD_map r]
    rfl
theorem v_sumL {ns : List Int} : oSum2 ω [.lst (ns.map D.int)] = some (.int ns.sum) := by
  have e : intsOf ω [.lst (ns.map D.int)] = some ns := intsD_map ns
  show oSum ω [.lst (ns.map D.int)] = _
  unfold oSum
  rw [e]
  rfl
theorem v_sumT {ns : List Int} : oSum2 ω [.tup (ns.map D.int)] = some (.int ns.sum) := by
  show (intsD (ns.map D.int)).map (fun ns => D.int ns.sum) = _
  rw [intsD_map]
  rfl
theorem v_tupL {xs : List D} : oTuple ω [.lst xs] = some (.tup xs) := rfl
theorem v_tupT {xs : List D} : oTuple ω [.tup xs] = some (.tup xs) := rfl
theorem v_tupO {h : Nat} {xs : List D} (e : ω[h]? = some (.lst xs)) : oTuple ω [.obj h] = some (.tup xs) := by
  show (vLs ω (.obj h)).map D.tup = _
  unfold vLs
  dsimp only
  rw [vL_obj e]
  rfl
theorem v_listT {xs : List D} : oList ω [.tup xs] = some xs := rfl
theorem v_listL {xs : List D} : oList ω [.lst xs] = some xs := rfl
theorem v_listO {h : Nat} {xs : List D} (e : ω[h]? = some (.lst xs)) : oList ω [.obj h] = some xs := by
  show vSq ω (.obj h) = _
  unfold vSq vLs
  exact vL_obj e
theorem v_slT {xs : List D} {lo hi : Option Int} : oSl ω (.tup xs) lo hi = some (.tup (cutD xs lo hi)) := rfl
theorem v_slL {xs : List D} {lo hi : Option Int} : oSl ω (.lst xs) lo hi = some (.lst (cutD xs lo hi)) := rfl
theorem v_slS {xs : List D} {lo hi : Option Int} : oSl ω (.scr xs) lo hi = some (.lst (cutD xs lo hi)) := rfl
theorem v_isi {d : D} {n t : String} (h : tyN ω d = some t) (hn : n ∈ kinds) : oIsi ω [d, .ty n] = some (.bl (subK t n)) := by
  show (if n ∈ kinds then (tyN ω d).map fun t => D.bl (subK t n) else none) = _
  rw [if_pos hn, h]
  rfl
/-- a method's look -/
theorem isI_ok {C : Addr} {h : Nat} {fs : List (Str × D)} {m : Str} (e : ω[h]? = some (.ins C fs)) (l : fs.lookup m = none) : isI C ω (.obj h) m = true := by
  unfold isI hI
  simp [e, l]
theorem fld_ok {C : Addr} {h : Nat} {fs : List (Str × D)} {m : Str} {y : D} (e : ω[h]? = some (.ins C fs)) (l : fs.lookup m = some y) : fld C ω (.obj h) m = some y := by
  unfold fld hI
  simp [e, l]
theorem hL_obj {h : Nat} {xs : List D} (e : ω[h]? = some (.lst xs)) : hL ω (.obj h) = some (h, xs) := by
  unfold hL
  simp [e]
theorem m_app {h : Nat} {xs : List D} {y : D} {γ : List SD} (e : ω[h]? = some (.lst xs)) (hl : xs.length < 1000000) : mtK mAppend (.obj h) [y] γ ω = .ok .non γ (ω.set h (.lst (xs ++ [y]))) :=
  mtK_ok (by show (hL ω (.obj h)).bind _ = _; rw [hL_obj e]; exact if_pos hl)
theorem m_pop {h : Nat} {xs : List D} {y : D} {γ : List SD} (e : ω[h]? = some (.lst (xs ++ [y]))) : mtK mPop (.obj h) [] γ ω = .ok y γ (ω.set h (.lst xs)) :=
  mtK_ok (by
    show (hL ω (.obj h)).bind _ = _
    rw [hL_obj e]
    show ((xs ++ [y])[(xs ++ [y]).length - 1]?).map _ = _
    simp)
theorem m_popAt {h i : Nat} {xs : List D} {y : D} {γ : List SD} (e : ω[h]? = some (.lst xs)) (hy : xs[i]? = some y) (hi : (i : Int) < 2 ^ 63) : mtK mPopAt (.obj h) [.int (i : Int)] γ ω = .ok y γ (ω.set h (.lst (xs.eraseIdx i))) :=
  mtK_ok (by
    unfold mPopAt
    dsimp only
    rw [if_pos (cdec_mk ⟨by omega, hi⟩), hL_obj e]
    show (xs[(i : Int).toNat]?).map _ = _
    rw [Int.toNat_natCast, hy]
    rfl)
theorem m_ext {h : Nat} {xs ys : List D} {γ : List SD} (e : ω[h]? = some (.lst xs)) (hl : xs.length + ys.length ≤ 1000000) : mtK mExtend (.obj h) [.lst ys] γ ω = .ok .non γ (ω.set h (.lst (xs ++ ys))) :=
  mtK_ok (by show (hL ω (.obj h)).bind _ = _; rw [hL_obj e]; exact if_pos hl)
/-! kinds, of known things -/
theorem t_non {n : String} (hn : n ∈ kinds) : oIsi ω [.non, .ty n] = some (.bl (subK "NoneType" n)) := v_isi rfl hn
theorem i_ii {i : Int} : oIsi ω [.int i, .ty "int"] = some (.bl true) := by rfl
theorem i_ib {i : Int} : oIsi ω [.int i, .ty "bool"] = some (.bl false) := by rfl
theorem i_is {i : Int} : oIsi ω [.int i, .ty "str"] = some (.bl false) := by rfl
theorem i_id {i : Int} : oIsi ω [.int i, .ty "dict"] = some (.bl false) := by rfl
theorem i_il {i : Int} : oIsi ω [.int i, .ty "list"] = some (.bl false) := by rfl
theorem i_it {i : Int} : oIsi ω [.int i, .ty "tuple"] = some (.bl false) := by rfl
theorem i_bi {i : Bool} : oIsi ω [.bl i, .ty "int"] = some (.bl true) := by rfl
theorem i_bb {i : Bool} : oIsi ω [.bl i, .ty "bool"] = some (.bl true) := by rfl
theorem i_bt {i : Bool} : oIsi ω [.bl i, .ty "tuple"] = some (.bl false) := by rfl
theorem i_ni : oIsi ω [.non, .ty "int"] = some (.bl false) := by rfl
theorem i_nb : oIsi ω [.non, .ty "bool"] = some (.bl false) := by rfl
theorem i_nt : oIsi ω [.non, .ty "tuple"] = some (.bl false) := by rfl
theorem i_si {s : Str} : oIsi ω [.str s, .ty "int"] = some (.bl false) := by rfl
theorem i_sb {s : Str} : oIsi ω [.str s, .ty "bool"] = some (.bl false) := by rfl
theorem i_ss {s : Str} : oIsi ω [.str s, .ty "str"] = some (.bl true) := by rfl
theorem i_st {s : Str} : oIsi ω [.str s, .ty "tuple"] = some (.bl false) := by rfl
theorem i_li {s : List D} : oIsi ω [.lst s, .ty "int"] = some (.bl false) := by rfl
theorem i_lb {s : List D} : oIsi ω [.lst s, .ty "bool"] = some (.bl false) := by rfl
theorem i_ls {s : List D} : oIsi ω [.lst s, .ty "str"] = some (.bl false) := by rfl
theorem i_ld {s : List D} : oIsi ω [.lst s, .ty "dict"] = some (.bl false) := by rfl
theorem i_ll {s : List D} : oIsi ω [.lst s, .ty "list"] = some (.bl true) := by rfl
theorem i_lt {s : List D} : oIsi ω [.lst s, .ty "tuple"] = some (.bl false) := by rfl
theorem i_ti {s : List D} : oIsi ω [.tup s, .ty "int"] = some (.bl false) := by rfl
theorem i_tb {s : List D} : oIsi ω [.tup s, .ty "bool"] = some (.bl false) := by rfl
theorem i_ts {s : List D} : oIsi ω [.tup s, .ty "str"] = some (.bl false) := by rfl
theorem i_td {s : List D} : oIsi ω [.tup s, .ty "dict"] = some (.bl false) := by rfl
theorem i_tl {s : List D} : oIsi ω [.tup s, .ty "list"] = some (.bl false) := by rfl
theorem i_tt {s : List D} : oIsi ω [.tup s, .ty "tuple"] = some (.bl true) := by rfl
theorem i_di {k : List Key} {s : List D} : oIsi ω [.dic k s, .ty "int"] = some (.bl false) := by rfl
theorem i_db {k : List Key} {s : List D} : oIsi ω [.dic k s, .ty "bool"] = some (.bl false) := by rfl
theorem i_ds {k : List Key} {s : List D} : oIsi ω [.dic k s, .ty "str"] = some (.bl false) := by rfl
theorem i_dd {k : List Key} {s : List D} : oIsi ω [.dic k s, .ty "dict"] = some (.bl true) := by rfl
theorem i_dt {k : List Key} {s : List D} : oIsi ω [.dic k s, .ty "tuple"] = some (.bl false) := by rfl
theorem j_l {s : List D} : oIsi2 ω [.lst s, .tup [.ty "list", .ty "tuple"]] = some (.bl true) := by rfl
theorem j_t {s : List D} : oIsi2 ω [.tup s, .tup [.ty "list", .ty "tuple"]] = some (.bl true) := by rfl
theorem x_rev {f : EF} {γ : List SD} : eRev f γ ω = (f γ ω).bind fun d γ ω => match vLs ω d with | some ds => .ok (.lst ds.reverse) γ ω | none => .bad := rfl
end
end DL

set_option Elab.async false
set_option linter.all false
set_option maxRecDepth 100000
set_option maxHeartbeats 2000000
noncomputable section
namespace K80
open PySem PySem.Spec PyProof.Rows L2 DL
/-- how the known errors' classes stand to each other -/
def subE (x y : Str) : Bool := decide (x = y)
/-- _law_box(great); slots 0 great -/
def m__law_box : M Fl :=
  sRet (eAlloc (nLst (aCons (eCall oAbs (aCons (eVar 0) aNil)) (aCons (e2 oGe (eCall oAbs (aCons (eVar 0) aNil)) (e2 oPow (eC (.int 10)) (eC (.int 18)))) (aCons (e2 oMod (eCall oInt (aCons (eCall oAbs (aCons (eVar 0) aNil)) aNil)) (eC (.int 2147483629))) (aCons (eC (.int 0)) aNil))))))
def F__law_box : Fn := fun ds ω => fin (m__law_box (startD 1 ds) ω)
/-- _law_cell(script, k); slots 0 script, 1 k -/
def m__law_cell : M Fl :=
  sRet (eIf (tB (e2 oLt (eVar 1) (eCall oLen2 (aCons (eVar 0) aNil)))) (e2 oIx (eVar 0) (eVar 1)) (e2 oAdd (e2 oMul (eC (.int 9371)) (eVar 1)) (e2 oMod (eCall oInt (aCons (eCall oSum2 (aCons (eSl oSl (eVar 0) oNone (oSome (eC (.int 1)))) aNil)) aNil)) (eC (.int 1000003)))))
def F__law_cell : Fn := fun ds ω => fin (m__law_cell (startD 2 ds) ω)
/-- Versions.nodes(self); slots 0 self -/
def m_Versions_nodes (C_Versions : Addr) : M Fl :=
  sRet (eCall oLen2 (aCons (eFld C_Versions (eVar 0) "kept") aNil))
def F_Versions_nodes (C_Versions : Addr) : Fn := fun ds ω => fin (m_Versions_nodes C_Versions (startD 1 ds) ω)
/-- is_integer(value); slots 0 value -/
def m_is_integer : M Fl :=
  sRet (eAnd (eCall oIsi (aCons (eVar 0) (aCons (eC (.ty "int")) aNil))) (eNot (eCall oIsi (aCons (eVar 0) (aCons (eC (.ty "bool")) aNil)))))
def F_is_integer : Fn := fun ds ω => fin (m_is_integer (startD 1 ds) ω)
/-- is_between(value, least, most); slots 0 value, 1 least, 2 most -/
def m_is_between : M Fl :=
  sRet (eAnd (eFun (F_is_integer) (aCons (eVar 0) aNil)) (eCh oLe oLe (eVar 1) (eVar 0) (eVar 2)))
def F_is_between : Fn := fun ds ω => fin (m_is_between (startD 3 ds) ω)
/-- Versions.check_version(self, version); slots 0 self, 1 version -/
def m_Versions_check_version (C_Versions : Addr) : M Fl :=
  sIf (tNotM (tB (eFun (F_is_between) (aCons (eVar 1) (aCons (eC (.int 0)) (aCons (e2 oSub (eCall oLen2 (aCons (eFld C_Versions (eVar 0) "tops") aNil)) (eC (.int 1))) aNil)))))) (sRaise "InvalidVersion" "given" (aCons (eVar 1) aNil)) sNext
def F_Versions_check_version (C_Versions : Addr) : Fn := fun ds ω => fin (m_Versions_check_version C_Versions (startD 2 ds) ω)
/-- Versions.keep(self, total, left, right); slots 0 self, 1 total, 2 left, 3 right -/
def m_Versions_keep (C_Versions : Addr) : M Fl :=
  sSeq (sDrop (eMt mAppend (eFld C_Versions (eVar 0) "kept") (aCons (eTup (aCons (eVar 1) (aCons (eVar 2) (aCons (eVar 3) aNil)))) aNil))) (sRet (e2 oSub (eCall oLen2 (aCons (eFld C_Versions (eVar 0) "kept") aNil)) (eC (.int 1))))
def F_Versions_keep (C_Versions : Addr) : Fn := fun ds ω => fin (m_Versions_keep C_Versions (startD 4 ds) ω)
def wc_Versions_way_to_1 (C_Versions : Addr) : M Bool :=
  tB (e2 oGt (e2 oSub (eVar 6) (eVar 5)) (eC (.int 1)))
def wb_Versions_way_to_1 (C_Versions : Addr) : M Fl :=
  sSeq (sSet 7 (e2 oFdiv (e2 oAdd (eVar 5) (eVar 6)) (eC (.int 2)))) (sSeq (sDrop (eMt mAppend (eVar 3) (aCons (eTup (aCons (eVar 4) (aCons (e2 oGe (eVar 2) (eVar 7)) aNil))) aNil))) (sSeq (sAsg (.tp [5, 6]) (eIf (tB (e2 oGe (eVar 2) (eVar 7))) (eTup (aCons (eVar 7) (aCons (eVar 6) aNil))) (eTup (aCons (eVar 5) (aCons (eVar 7) aNil))))) (sSet 4 (eIf (tB (e2 oIx (e2 oIx (eVar 3) (e1 oNeg (eC (.int 1)))) (eC (.int 1)))) (e2 oIx (e2 oIx (eFld C_Versions (eVar 0) "kept") (eVar 4)) (eC (.int 2))) (e2 oIx (e2 oIx (eFld C_Versions (eVar 0) "kept") (eVar 4)) (eC (.int 1)))))))
/-- Versions.way_to(self, version, index); slots 0 self, 1 version, 2 index, 3 found, 4 here, 5 low, 6 high, 7 middle -/
def m_Versions_way_to (C_Versions : Addr) : M Fl :=
  sSeq (sAsg (.tp [3, 4, 5, 6]) (eTup (aCons (eAlloc (nLst aNil)) (aCons (e2 oIx (eFld C_Versions (eVar 0) "tops") (eVar 1)) (aCons (eC (.int 0)) (aCons (eFld C_Versions (eVar 0) "size") aNil)))))) (sSeq (whileL (wc_Versions_way_to_1 C_Versions) (wb_Versions_way_to_1 C_Versions) 50) (sRet (eVar 3)))
def F_Versions_way_to (C_Versions : Addr) : Fn := fun ds ω => fin (m_Versions_way_to C_Versions (startD 8 ds) ω)
def fb_Versions_change_1 (C_Versions : Addr) : M Fl :=
  sSeq (sAsg (.tp [7, 8, 9]) (e2 oIx (eFld C_Versions (eVar 0) "kept") (eVar 5))) (sSeq (sAsg (.tp [8, 9]) (eIf (tB (eVar 6)) (eTup (aCons (eVar 8) (aCons (eVar 4) aNil))) (eTup (aCons (eVar 4) (aCons (eVar 9) aNil))))) (sSet 4 (eMeth (F_Versions_keep C_Versions) C_Versions "keep" (eVar 0) (aCons (e2 oAdd (e2 oIx (e2 oIx (eFld C_Versions (eVar 0) "kept") (eVar 8)) (eC (.int 0))) (e2 oIx (e2 oIx (eFld C_Versions (eVar 0) "kept") (eVar 9)) (eC (.int 0)))) (aCons (eVar 8) (aCons (eVar 9) aNil))))))
/-- Versions.change(self, version, index, number); slots 0 self, 1 version, 2 index, 3 number, 4 made, 5 node, 6 to_right, 7 total, 8 left, 9 right -/
def m_Versions_change (C_Versions : Addr) : M Fl :=
  sSeq (sDrop (eMeth (F_Versions_check_version C_Versions) C_Versions "check_version" (eVar 0) (aCons (eVar 1) aNil))) (sSeq (sIf (tNotM (tB (eFun (F_is_between) (aCons (eVar 2) (aCons (eC (.int 0)) (aCons (e2 oSub (eFld C_Versions (eVar 0) "size") (eC (.int 1))) aNil)))))) (sRaise "InvalidIndex" "given" (aCons (eVar 2) aNil)) sNext) (sSeq (sIf (tNotM (tB (eFun (F_is_integer) (aCons (eVar 3) aNil)))) (sRaise "InvalidNumber" "given" (aCons (eVar 3) aNil)) sNext) (sSeq (sIf (tB (e2 oEq (eCall oLen2 (aCons (eFld C_Versions (eVar 0) "tops") aNil)) (eC (.int 100)))) (sRaise "TooMany" "count" (aCons (eCall oLen2 (aCons (eFld C_Versions (eVar 0) "tops") aNil)) aNil)) sNext) (sSeq (sSet 4 (eMeth (F_Versions_keep C_Versions) C_Versions "keep" (eVar 0) (aCons (eVar 3) (aCons (eC .non) (aCons (eC .non) aNil))))) (sSeq (sFor (.tp [5, 6]) (iL (eRev (eMeth (F_Versions_way_to C_Versions) C_Versions "way_to" (eVar 0) (aCons (eVar 1) (aCons (eVar 2) aNil))))) (fb_Versions_change_1 C_Versions)) (sSeq (sDrop (eMt mAppend (eFld C_Versions (eVar 0) "tops") (aCons (eVar 4) aNil))) (sSeq (sDrop (eMt mAppend (eFld C_Versions (eVar 0) "parents") (aCons (eVar 1) aNil))) (sRet (e2 oSub (eCall oLen2 (aCons (eFld C_Versions (eVar 0) "tops") aNil)) (eC (.int 1)))))))))))
def F_Versions_change (C_Versions : Addr) : Fn := fun ds ω => fin (m_Versions_change C_Versions (startD 10 ds) ω)
/-- Versions.parent(self, version); slots 0 self, 1 version -/
def m_Versions_parent (C_Versions : Addr) : M Fl :=
  sSeq (sDrop (eMeth (F_Versions_check_version C_Versions) C_Versions "check_version" (eVar 0) (aCons (eVar 1) aNil))) (sRet (e2 oIx (eFld C_Versions (eVar 0) "parents") (eVar 1)))
def F_Versions_parent (C_Versions : Addr) : Fn := fun ds ω => fin (m_Versions_parent C_Versions (startD 2 ds) ω)
def wc_Versions_items_1 (C_Versions : Addr) : M Bool :=
  tB (e2 (oE0 not) (eVar 3) (fLst (nLst aNil)))
def wb_Versions_items_1 (C_Versions : Addr) : M Fl :=
  sSeq (sAsg (.tp [4, 5, 6]) (e2 oIx (eFld C_Versions (eVar 0) "kept") (eMt mPop (eVar 3) aNil))) (sIf (tB (e2 oIsN (eVar 5) (eC .non))) (sDrop (eMt mAppend (eVar 2) (aCons (eVar 4) aNil))) (sDrop (eMt mExtend (eVar 3) (aCons (fLst (nLst (aCons (eVar 6) (aCons (eVar 5) aNil)))) aNil))))
/-- Versions.items(self, version); slots 0 self, 1 version, 2 found, 3 waits, 4 total, 5 left, 6 right -/
def m_Versions_items (C_Versions : Addr) : M Fl :=
  sSeq (sPar 2 3 (aCons (eAlloc (nLst aNil)) (aCons (eAlloc (nLst (aCons (e2 oIx (eFld C_Versions (eVar 0) "tops") (eVar 1)) aNil))) aNil))) (sSeq (whileL (wc_Versions_items_1 C_Versions) (wb_Versions_items_1 C_Versions) 1000) (sRet (eVar 2)))
def F_Versions_items (C_Versions : Addr) : Fn := fun ds ω => fin (m_Versions_items C_Versions (startD 7 ds) ω)
/-- Versions.row(self, version); slots 0 self, 1 version -/
def m_Versions_row (C_Versions : Addr) : M Fl :=
  sSeq (sDrop (eMeth (F_Versions_check_version C_Versions) C_Versions "check_version" (eVar 0) (aCons (eVar 1) aNil))) (sRet (eCall oTuple (aCons (eMeth (F_Versions_items C_Versions) C_Versions "items" (eVar 0) (aCons (eVar 1) aNil)) aNil)))
def F_Versions_row (C_Versions : Addr) : Fn := fun ds ω => fin (m_Versions_row C_Versions (startD 2 ds) ω)
/-- check_range(low, high, size); slots 0 low, 1 high, 2 size -/
def m_check_range : M Fl :=
  sSeq (sIf (tNotM (tB (eFun (F_is_between) (aCons (eVar 0) (aCons (eC (.int 0)) (aCons (eVar 2) aNil)))))) (sRaise "InvalidRange" "given" (aCons (eVar 0) aNil)) sNext) (sIf (tNotM (tB (eFun (F_is_between) (aCons (eVar 1) (aCons (eVar 0) (aCons (eVar 2) aNil)))))) (sRaise "InvalidRange" "given" (aCons (eVar 1) aNil)) sNext)
def F_check_range : Fn := fun ds ω => fin (m_check_range (startD 3 ds) ω)
def wc_Versions_total_1 (C_Versions : Addr) : M Bool :=
  tB (e2 (oE0 not) (eVar 5) (fLst (nLst aNil)))
def wb_Versions_total_1 (C_Versions : Addr) : M Fl :=
  sSeq (sAsg (.tp [6, 7, 8]) (eMt mPop (eVar 5) aNil)) (sSeq (sAsg (.tp [9, 10, 11]) (e2 oIx (eFld C_Versions (eVar 0) "kept") (eVar 6))) (sIf (tAndM (tB (e2 oLe (eVar 2) (eVar 7))) (tB (e2 oLe (eVar 8) (eVar 3)))) (sSet 4 (e2 oAdd (eVar 4) (eVar 9))) (sIf (tAndM (tB (e2 oLt (eVar 7) (eVar 3))) (tB (e2 oLt (eVar 2) (eVar 8)))) (sSeq (sSet 12 (e2 oFdiv (e2 oAdd (eVar 7) (eVar 8)) (eC (.int 2)))) (sDrop (eMt mExtend (eVar 5) (aCons (fLst (nLst (aCons (eTup (aCons (eVar 10) (aCons (eVar 7) (aCons (eVar 12) aNil)))) (aCons (eTup (aCons (eVar 11) (aCons (eVar 12) (aCons (eVar 8) aNil)))) aNil)))) aNil)))) sNext)))
/-- Versions.total(self, version, low, high); slots 0 self, 1 version, 2 low, 3 high, 4 found, 5 waits, 6 node, 7 first, 8 last, 9 total, 10 left, 11 right, 12 middle -/
def m_Versions_total (C_Versions : Addr) : M Fl :=
  sSeq (sDrop (eMeth (F_Versions_check_version C_Versions) C_Versions "check_version" (eVar 0) (aCons (eVar 1) aNil))) (sSeq (sDrop (eFun (F_check_range) (aCons (eVar 2) (aCons (eVar 3) (aCons (eFld C_Versions (eVar 0) "size") aNil))))) (sSeq (sPar 4 5 (aCons (eC (.int 0)) (aCons (eAlloc (nLst (aCons (eTup (aCons (e2 oIx (eFld C_Versions (eVar 0) "tops") (eVar 1)) (aCons (eC (.int 0)) (aCons (eFld C_Versions (eVar 0) "size") aNil)))) aNil))) aNil))) (sSeq (whileL (wc_Versions_total_1 C_Versions) (wb_Versions_total_1 C_Versions) 1000) (sRet (eVar 4)))))
def F_Versions_total (C_Versions : Addr) : Fn := fun ds ω => fin (m_Versions_total C_Versions (startD 13 ds) ω)
def wc_Versions_unlike_1 (C_Versions : Addr) : M Bool :=
  tB (e2 (oE0 not) (eVar 4) (fLst (nLst aNil)))
def wb_Versions_unlike_1 (C_Versions : Addr) : M Fl :=
  sSeq (sAsg (.tp [5, 6, 7, 8]) (eMt mPop (eVar 4) aNil)) (sIf (tAndM (tB (e2 oNe (eVar 5) (eVar 6))) (tAndM (tB (e2 oEq (e2 oSub (eVar 8) (eVar 7)) (eC (.int 1)))) (tB (e2 oNe (e2 oIx (e2 oIx (eFld C_Versions (eVar 0) "kept") (eVar 5)) (eC (.int 0))) (e2 oIx (e2 oIx (eFld C_Versions (eVar 0) "kept") (eVar 6)) (eC (.int 0))))))) (sDrop (eMt mAppend (eVar 3) (aCons (eVar 7) aNil))) (sIf (tAndM (tB (e2 oNe (eVar 5) (eVar 6))) (tB (e2 oGt (e2 oSub (eVar 8) (eVar 7)) (eC (.int 1))))) (sSeq (sSet 9 (e2 oFdiv (e2 oAdd (eVar 7) (eVar 8)) (eC (.int 2)))) (sSeq (sDrop (eMt mAppend (eVar 4) (aCons (eTup (aCons (e2 oIx (e2 oIx (eFld C_Versions (eVar 0) "kept") (eVar 5)) (eC (.int 1))) (aCons (e2 oIx (e2 oIx (eFld C_Versions (eVar 0) "kept") (eVar 6)) (eC (.int 1))) (aCons (eVar 7) (aCons (eVar 9) aNil))))) aNil))) (sDrop (eMt mAppend (eVar 4) (aCons (eTup (aCons (e2 oIx (e2 oIx (eFld C_Versions (eVar 0) "kept") (eVar 5)) (eC (.int 2))) (aCons (e2 oIx (e2 oIx (eFld C_Versions (eVar 0) "kept") (eVar 6)) (eC (.int 2))) (aCons (eVar 9) (aCons (eVar 8) aNil))))) aNil))))) sNext))
/-- Versions.unlike(self, one, other); slots 0 self, 1 one, 2 other, 3 found, 4 waits, 5 first, 6 second, 7 low, 8 high, 9 middle -/
def m_Versions_unlike (C_Versions : Addr) : M Fl :=
  sSeq (sDrop (eMeth (F_Versions_check_version C_Versions) C_Versions "check_version" (eVar 0) (aCons (eVar 1) aNil))) (sSeq (sDrop (eMeth (F_Versions_check_version C_Versions) C_Versions "check_version" (eVar 0) (aCons (eVar 2) aNil))) (sSeq (sPar 3 4 (aCons (eAlloc (nLst aNil)) (aCons (eAlloc (nLst (aCons (eTup (aCons (e2 oIx (eFld C_Versions (eVar 0) "tops") (eVar 1)) (aCons (e2 oIx (eFld C_Versions (eVar 0) "tops") (eVar 2)) (aCons (eC (.int 0)) (aCons (eFld C_Versions (eVar 0) "size") aNil))))) aNil))) aNil))) (sSeq (whileL (wc_Versions_unlike_1 C_Versions) (wb_Versions_unlike_1 C_Versions) 1000) (sRet (eCall oTuple (aCons (fLst (nCall oSorted (aCons (eVar 3) aNil))) aNil))))))
def F_Versions_unlike (C_Versions : Addr) : Fn := fun ds ω => fin (m_Versions_unlike C_Versions (startD 10 ds) ω)
def kn__law_asked : List Str := ["InvalidIndex", "InvalidNumber", "InvalidRange", "InvalidVersion", "TooMany"]
/-- _law_asked(kept, word, args, by_name); slots 0 kept, 1 word, 2 args, 3 by_name, 4 e -/
def m__law_asked (C_Versions : Addr) : M Fl :=
  sTry kn__law_asked subE (sSeq (sIf (tB (e2 oEq (eVar 1) (eC (.str "set")))) (sRet (fLst (nLst (aCons (eC (.str "told")) (aCons (eIf (tB (eVar 3)) (eMeth (F_Versions_change C_Versions) C_Versions "change" (eVar 0) ((aCons (e2 oIx (eVar 2) (eC (.int 2))) (aCons (e2 oIx (eVar 2) (eC (.int 1))) (aCons (e2 oIx (eVar 2) (eC (.int 0))) aNil))).bind fun zs => M.pure (permL [2, 1, 0] zs))) (eMeth (F_Versions_change C_Versions) C_Versions "change" (eVar 0) (aCons (e2 oIx (eVar 2) (eC (.int 0))) (aCons (e2 oIx (eVar 2) (eC (.int 1))) (aCons (e2 oIx (eVar 2) (eC (.int 2))) aNil))))) aNil))))) sNext) (sSeq (sIf (tB (e2 oEq (eVar 1) (eC (.str "row")))) (sRet (fLst (nLst (aCons (eC (.str "told")) (aCons (eIf (tB (eVar 3)) (eMeth (F_Versions_row C_Versions) C_Versions "row" (eVar 0) ((aCons (e2 oIx (eVar 2) (eC (.int 0))) aNil).bind fun zs => M.pure (permL [0] zs))) (eMeth (F_Versions_row C_Versions) C_Versions "row" (eVar 0) (aCons (e2 oIx (eVar 2) (eC (.int 0))) aNil))) aNil))))) sNext) (sSeq (sIf (tB (e2 oEq (eVar 1) (eC (.str "sum")))) (sRet (fLst (nLst (aCons (eC (.str "told")) (aCons (eIf (tB (eVar 3)) (eMeth (F_Versions_total C_Versions) C_Versions "total" (eVar 0) ((aCons (e2 oIx (eVar 2) (eC (.int 2))) (aCons (e2 oIx (eVar 2) (eC (.int 1))) (aCons (e2 oIx (eVar 2) (eC (.int 0))) aNil))).bind fun zs => M.pure (permL [2, 1, 0] zs))) (eMeth (F_Versions_total C_Versions) C_Versions "total" (eVar 0) (aCons (e2 oIx (eVar 2) (eC (.int 0))) (aCons (e2 oIx (eVar 2) (eC (.int 1))) (aCons (e2 oIx (eVar 2) (eC (.int 2))) aNil))))) aNil))))) sNext) (sSeq (sIf (tB (e2 oEq (eVar 1) (eC (.str "parent")))) (sRet (fLst (nLst (aCons (eC (.str "told")) (aCons (eIf (tB (eVar 3)) (eMeth (F_Versions_parent C_Versions) C_Versions "parent" (eVar 0) ((aCons (e2 oIx (eVar 2) (eC (.int 0))) aNil).bind fun zs => M.pure (permL [0] zs))) (eMeth (F_Versions_parent C_Versions) C_Versions "parent" (eVar 0) (aCons (e2 oIx (eVar 2) (eC (.int 0))) aNil))) aNil))))) sNext) (sRet (fLst (nLst (aCons (eC (.str "told")) (aCons (eIf (tB (eVar 3)) (eMeth (F_Versions_unlike C_Versions) C_Versions "unlike" (eVar 0) ((aCons (e2 oIx (eVar 2) (eC (.int 1))) (aCons (e2 oIx (eVar 2) (eC (.int 0))) aNil)).bind fun zs => M.pure (permL [1, 0] zs))) (eMeth (F_Versions_unlike C_Versions) C_Versions "unlike" (eVar 0) (aCons (e2 oIx (eVar 2) (eC (.int 0))) (aCons (e2 oIx (eVar 2) (eC (.int 1))) aNil)))) aNil))))))))) [⟨"InvalidVersion", some 4, uWord "version" "given"⟩, ⟨"InvalidIndex", some 4, uWord "index" "given"⟩, ⟨"InvalidNumber", some 4, uWord "number" "given"⟩, ⟨"InvalidRange", some 4, uWord "range" "given"⟩, ⟨"TooMany", some 4, uWord "many" "count"⟩]
def F__law_asked (C_Versions : Addr) : Fn := fun ds ω => fin (m__law_asked C_Versions (startD 5 ds) ω)
def lt__law_same_1 (rec : Fn) : M Bool :=
  tNotM (tB (eFun (rec) (aCons (e2 oIx (eVar 0) (eVar 3)) (aCons (e2 oIx (eVar 1) (eVar 3)) aNil))))
def le__law_same_1 : EF :=
  eVar 3
/-- _law_same: its body, the calls of itself by rec -/
def m__law_same (rec : Fn) : M Fl :=
  sSeq (sIf (tOrM (tB (e2 oIsN (eVar 1) (eC .non))) (tB (eCall oIsi (aCons (eVar 1) (aCons (eC (.ty "bool")) aNil))))) (sRet (eIf (tB (e2 oIsN (eVar 1) (eC .non))) (e2 oIsN (eVar 0) (eC .non)) (eAnd (eCall oIsi (aCons (eVar 0) (aCons (eC (.ty "bool")) aNil))) (e2 oEq (e2 oIsB (eVar 0) (eC (.bl true))) (e2 oIsB (eVar 1) (eC (.bl true))))))) sNext) (sSeq (sIf (tB (eCall oIsi (aCons (eVar 1) (aCons (eC (.ty "int")) aNil)))) (sRet (eAnd (eCall oIsi (aCons (eVar 0) (aCons (eC (.ty "int")) aNil))) (eAnd (eNot (eCall oIsi (aCons (eVar 0) (aCons (eC (.ty "bool")) aNil)))) (e2 oEq (e2 oSub (eCall oInt (aCons (eVar 0) aNil)) (eVar 1)) (eC (.int 0)))))) sNext) (sSeq (sIf (tB (eCall oIsi (aCons (eVar 1) (aCons (eC (.ty "str")) aNil)))) (sRet (eAnd (eCall oIsi (aCons (eVar 0) (aCons (eC (.ty "str")) aNil))) (e2 oEq (eVar 0) (eVar 1)))) sNext) (sSeq (sIf (tB (eCall oIsi (aCons (eVar 1) (aCons (eC (.ty "dict")) aNil)))) (sSeq (sIf (tOrM (tNotM (tB (eCall oIsi (aCons (eVar 0) (aCons (eC (.ty "dict")) aNil))))) (tB (e2 oNe (eCall oLen2 (aCons (eVar 0) aNil)) (eCall oLen2 (aCons (eVar 1) aNil))))) (sRet (eC (.bl false))) sNext) (sRet (e2 (oE0 id) (fLst (nLcD0 1)) (fLst (nLst aNil))))) sNext) (sSeq (sIf (tOrM (tNotM (tB (eCall oIsi2 (aCons (eVar 1) (aCons (eTup (aCons (eC (.ty "list")) (aCons (eC (.ty "tuple")) aNil))) aNil))))) (tOrM (tNotM (tB (eCall oIsi2 (aCons (eVar 0) (aCons (eTup (aCons (eC (.ty "list")) (aCons (eC (.ty "tuple")) aNil))) aNil))))) (tB (e2 oNe (eCall oIsi (aCons (eVar 0) (aCons (eC (.ty "list")) aNil))) (eCall oIsi (aCons (eVar 1) (aCons (eC (.ty "list")) aNil))))))) (sRet (eC (.bl false))) sNext) (sRet (eAnd (e2 oEq (eCall oLen2 (aCons (eVar 0) aNil)) (eCall oLen2 (aCons (eVar 1) aNil))) (e2 (oE0 id) (fLst (nLc (.nm 3) [3] (iR1 (aCons (eCall oLen2 (aCons (eVar 1) aNil)) aNil)) (lt__law_same_1 (rec)) le__law_same_1)) (fLst (nLst aNil)))))))))
def F__law_same : Nat → Fn
  | 0 => fun ds ω => fin (M.bad (startD 4 ds) ω)
  | n + 1 => fun ds ω => fin (m__law_same (F__law_same n) (startD 4 ds) ω)
/-- _law_take(box, many); slots 0 box, 1 many, 2 digit, 3 mixed -/
def m__law_take : M Fl :=
  sSeq (sIf (tAndM (tB (e2 oIx (eVar 0) (eC (.int 1)))) (tB (e2 oGt (e2 oIx (eVar 0) (eC (.int 0))) (eC (.int 0))))) (sSeq (sSet 2 (e2 oMod (eCall oInt (aCons (e2 oIx (eVar 0) (eC (.int 0))) aNil)) (eVar 1))) (sSeq (sSub (eVar 0) (eC (.int 0)) (e2 oFdiv (e2 oIx (eVar 0) (eC (.int 0))) (eVar 1))) (sRet (eVar 2)))) sNext) (sSeq (sSub (eVar 0) (eC (.int 3)) (e2 oAdd (e2 oIx (eVar 0) (eC (.int 3))) (eC (.int 1)))) (sSeq (sSet 3 (e2 oMod (eCall oInt (aCons (e2 oPow (e2 oAdd (e2 oAdd (e2 oIx (eVar 0) (eC (.int 2))) (e2 oMul (eC (.int 15486721)) (e2 oIx (eVar 0) (eC (.int 3))))) (eC (.int 179425249))) (eC (.int 5))) aNil)) (eC (.int 2147483647)))) (sRet (e2 oMod (eCall oInt (aCons (e2 oFdiv (e2 oMod (eCall oInt (aCons (e2 oPow (e2 oAdd (e2 oMul (eVar 3) (eC (.int 48271))) (e2 oMul (eC (.int 104761)) (e2 oIx (eVar 0) (eC (.int 3))))) (eC (.int 3))) aNil)) (eC (.int 2147483587))) (eC (.int 64))) aNil)) (eVar 1)))))
def F__law_take : Fn := fun ds ω => fin (m__law_take (startD 4 ds) ω)
def lt__law_all_right_1 (C_Versions : Addr) : M Bool :=
  tB (e2 oNe (e2 oIx (e2 oIx (eVar 2) (eVar 6)) (eVar 12)) (e2 oIx (e2 oIx (eVar 2) (eVar 7)) (eVar 12)))
def le__law_all_right_1 (C_Versions : Addr) : EF :=
  eVar 12
def fb__law_all_right_1 (C_Versions : Addr) : M Fl :=
  sSeq (sAsg (.tp [6, 7]) (eTup (aCons (eFun (F__law_take) (aCons (eVar 0) (aCons (eCall oLen2 (aCons (eVar 2) aNil)) aNil))) (aCons (eFun (F__law_take) (aCons (eVar 0) (aCons (eCall oLen2 (aCons (eVar 2) aNil)) aNil))) aNil)))) (sSeq (sSet 8 (eFun (F__law_take) (aCons (eVar 0) (aCons (e2 oAdd (eCall oLen2 (aCons (e2 oIx (eVar 2) (eC (.int 0))) aNil)) (eC (.int 1))) aNil)))) (sSeq (sSet 9 (e2 oAdd (eVar 8) (eFun (F__law_take) (aCons (eVar 0) (aCons (e2 oSub (e2 oAdd (eCall oLen2 (aCons (e2 oIx (eVar 2) (eC (.int 0))) aNil)) (eC (.int 1))) (eVar 8)) aNil))))) (sSeq (sSet 10 (fLst (nLst (aCons (eFun (F__law_asked C_Versions) (aCons (eVar 1) (aCons (eC (.str "row")) (aCons (fLst (nLst (aCons (eVar 6) aNil))) (aCons (eVar 4) aNil))))) (aCons (eFun (F__law_asked C_Versions) (aCons (eVar 1) (aCons (eC (.str "parent")) (aCons (fLst (nLst (aCons (eVar 6) aNil))) (aCons (eVar 4) aNil))))) (aCons (eFun (F__law_asked C_Versions) (aCons (eVar 1) (aCons (eC (.str "sum")) (aCons (fLst (nLst (aCons (eVar 6) (aCons (eVar 8) (aCons (eVar 9) aNil))))) (aCons (eNot (eVar 4)) aNil))))) aNil)))))) (sSeq (sIf (tNotM (tB (eFun (F__law_same 9) (aCons (eVar 10) (aCons (fLst (nLst (aCons (fLst (nLst (aCons (eC (.str "told")) (aCons (e2 oIx (eVar 2) (eVar 6)) aNil)))) (aCons (fLst (nLst (aCons (eC (.str "told")) (aCons (e2 oIx (eVar 3) (eVar 6)) aNil)))) (aCons (fLst (nLst (aCons (eC (.str "told")) (aCons (eCall oSum2 (aCons (eSl oSl (e2 oIx (eVar 2) (eVar 6)) (oSome (eVar 8)) (oSome (eVar 9))) aNil)) aNil)))) aNil))))) aNil))))) (sRet (eC (.bl false))) sNext) (sSeq (sSet 11 (eCall oTuple (aCons (fLst (nLc (.nm 12) [12] (iR1 (aCons (eCall oLen2 (aCons (e2 oIx (eVar 2) (eC (.int 0))) aNil)) aNil)) (lt__law_all_right_1 C_Versions) (le__law_all_right_1 C_Versions))) aNil))) (sSeq (sIf (tNotM (tB (eFun (F__law_same 9) (aCons (fLst (nLst (aCons (eFun (F__law_asked C_Versions) (aCons (eVar 1) (aCons (eC (.str "unlike")) (aCons (fLst (nLst (aCons (eVar 6) (aCons (eVar 7) aNil)))) (aCons (eVar 4) aNil))))) (aCons (eFun (F__law_asked C_Versions) (aCons (eVar 1) (aCons (eC (.str "unlike")) (aCons (fLst (nLst (aCons (eVar 7) (aCons (eVar 6) aNil)))) (aCons (eNot (eVar 4)) aNil))))) aNil)))) (aCons (e2 oMul (fLst (nLst (aCons (fLst (nLst (aCons (eC (.str "told")) (aCons (eVar 11) aNil)))) aNil))) (eC (.int 2))) aNil))))) (sRet (eC (.bl false))) sNext) (sSet 4 (eNot (eVar 4)))))))))
/-- _law_all_right(box, kept, rows, parents, by_name); slots 0 box, 1 kept, 2 rows, 3 parents, 4 by_name, 5 turn, 6 version, 7 other, 8 low, 9 high, 10 told, 11 due, 12 k -/
def m__law_all_right (C_Versions : Addr) : M Fl :=
  sSeq (sFor (.nm 5) (iR1 (aCons (eC (.int 4)) aNil)) (fb__law_all_right_1 C_Versions)) (sRet (eC (.bl true)))
def F__law_all_right (C_Versions : Addr) : Fn := fun ds ω => fin (m__law_all_right C_Versions (startD 13 ds) ω)
def wc__law_digits_1 : M Bool :=
  tB (e2 oGt (eVar 0) (eC (.int 0)))
def wb__law_digits_1 : M Fl :=
  sPar 1 0 (aCons (e2 oAdd (eVar 1) (eC (.int 1))) (aCons (e2 oFdiv (eVar 0) (eC (.int 2))) aNil))
/-- _law_digits(size); slots 0 size, 1 found -/
def m__law_digits : M Fl :=
  sSeq (sSet 1 (eC (.int 0))) (sSeq (whileL wc__law_digits_1 wb__law_digits_1 50) (sRet (eVar 1)))
def F__law_digits : Fn := fun ds ω => fin (m__law_digits (startD 2 ds) ω)
/-- Versions.grow: its body, the calls of itself by rec -/
def m_Versions_grow (C_Versions : Addr) (rec : Fn) : M Fl :=
  sSeq (sIf (tB (e2 oEq (e2 oSub (eVar 3) (eVar 2)) (eC (.int 1)))) (sRet (eMeth (F_Versions_keep C_Versions) C_Versions "keep" (eVar 0) (aCons (e2 oIx (eVar 1) (eVar 2)) (aCons (eC .non) (aCons (eC .non) aNil))))) sNext) (sSeq (sSet 4 (e2 oFdiv (e2 oAdd (eVar 2) (eVar 3)) (eC (.int 2)))) (sSeq (sPar 5 6 (aCons (eMeth (rec) C_Versions "grow" (eVar 0) (aCons (eVar 1) (aCons (eVar 2) (aCons (eVar 4) aNil)))) (aCons (eMeth (rec) C_Versions "grow" (eVar 0) (aCons (eVar 1) (aCons (eVar 4) (aCons (eVar 3) aNil)))) aNil))) (sRet (eMeth (F_Versions_keep C_Versions) C_Versions "keep" (eVar 0) (aCons (e2 oAdd (e2 oIx (e2 oIx (eFld C_Versions (eVar 0) "kept") (eVar 5)) (eC (.int 0))) (e2 oIx (e2 oIx (eFld C_Versions (eVar 0) "kept") (eVar 6)) (eC (.int 0)))) (aCons (eVar 5) (aCons (eVar 6) aNil)))))))
def F_Versions_grow (C_Versions : Addr) : Nat → Fn
  | 0 => fun ds ω => fin (M.bad (startD 7 ds) ω)
  | n + 1 => fun ds ω => fin (m_Versions_grow C_Versions (F_Versions_grow C_Versions n) (startD 7 ds) ω)
def le_check_row_1 : EF :=
  eFun (F_is_integer) (aCons (eVar 1) aNil)
/-- check_row(row); slots 0 row, 1 number -/
def m_check_row : M Fl :=
  sIf (tOrM (tNotM (tB (eCall oIsi (aCons (eVar 0) (aCons (eC (.ty "tuple")) aNil))))) (tOrM (tNotM (tB (eCh oLe oLe (eC (.int 1)) (eCall oLen2 (aCons (eVar 0) aNil)) (eC (.int 32))))) (tNotM (tB (eCall oAll (aCons (fLst (nLc (.nm 1) [1] (iT (eVar 0)) (M.pure true) le_check_row_1)) aNil)))))) (sRaise "InvalidRow" "given" (aCons (eVar 0) aNil)) sNext
def F_check_row : Fn := fun ds ω => fin (m_check_row (startD 2 ds) ω)
/-- Versions.__init__(self, row); slots 0 self, 1 row -/
def m_Versions_init (C_Versions : Addr) : M Fl :=
  sSeq (sDrop (eFun (F_check_row) (aCons (eVar 1) aNil))) (sSeq (sFldD C_Versions (eVar 0) (eCall oLen2 (aCons (eVar 1) aNil)) "size") (sSeq (sFldD C_Versions (eVar 0) (eAlloc (nLst aNil)) "kept") (sSeq (sFldD C_Versions (eVar 0) (eAlloc (nLst (aCons (eMeth (F_Versions_grow C_Versions 7) C_Versions "grow" (eVar 0) (aCons (eVar 1) (aCons (eC (.int 0)) (aCons (eCall oLen2 (aCons (eVar 1) aNil)) aNil)))) aNil))) "tops") (sFldD C_Versions (eVar 0) (eAlloc (nLst (aCons (eC .non) aNil))) "parents"))))
def F_Versions_init (C_Versions : Addr) : Fn := fun ds ω => fin (m_Versions_init C_Versions (startD 2 ds) ω)
def kn__law_made : List Str := ["InvalidRow"]
/-- _law_made(row, by_name); slots 0 row, 1 by_name, 2 e -/
def m__law_made (C_Versions : Addr) : M Fl :=
  sTry kn__law_made subE (sRet (fLst (nLst (aCons (eC (.str "told")) (aCons (eIf (tB (eVar 1)) (eMakeK C_Versions (F_Versions_init C_Versions) [0] (aCons (eVar 0) aNil)) (eMake C_Versions (F_Versions_init C_Versions) (aCons (eVar 0) aNil))) aNil))))) [⟨"InvalidRow", some 2, uWord "row" "given"⟩]
def F__law_made (C_Versions : Addr) : Fn := fun ds ω => fin (m__law_made C_Versions (startD 3 ds) ω)
/-- _law_number(box); slots 0 box -/
def m__law_number : M Fl :=
  sRet (e2 oIx (fLst (nLst (aCons (eC (.int 0)) (aCons (eC (.int 1)) (aCons (e1 oNeg (eC (.int 1))) (aCons (eFun (F__law_take) (aCons (eVar 0) (aCons (eC (.int 9)) aNil))) (aCons (e1 oNeg (eFun (F__law_take) (aCons (eVar 0) (aCons (eC (.int 9)) aNil)))) (aCons (e2 oAdd (e2 oPow (eC (.int 10)) (eC (.int 12))) (eFun (F__law_take) (aCons (eVar 0) (aCons (eC (.int 9)) aNil)))) (aCons (eFun (F__law_take) (aCons (eVar 0) (aCons (eC (.int 3)) aNil))) aNil))))))))) (eFun (F__law_take) (aCons (eVar 0) (aCons (eC (.int 7)) aNil))))
def F__law_number : Fn := fun ds ω => fin (m__law_number (startD 1 ds) ω)
def wc__law_mixed_1 : M Bool :=
  tB (e2 (oE0 not) (eVar 2) (fLst (nLst aNil)))
def wb__law_mixed_1 : M Fl :=
  sDrop (eMt mAppend (eVar 3) (aCons (eMt mPopAt (eVar 2) (aCons (eFun (F__law_take) (aCons (eVar 0) (aCons (eCall oLen2 (aCons (eVar 2) aNil)) aNil))) aNil)) aNil))
/-- _law_mixed(box, items); slots 0 box, 1 items, 2 left, 3 found -/
def m__law_mixed : M Fl :=
  sSeq (sPar 2 3 (aCons (eAlloc (nCall oList (aCons (eVar 1) aNil))) (aCons (eAlloc (nLst aNil)) aNil))) (sSeq (whileL wc__law_mixed_1 wb__law_mixed_1 100) (sRet (eVar 3)))
def F__law_mixed : Fn := fun ds ω => fin (m__law_mixed (startD 4 ds) ω)
def le__law_refused_right_1 (C_Versions : Addr) : EF :=
  fLst (nLst (aCons (eC (.str "version")) (aCons (e2 oIx (eVar 6) (eVar 12)) aNil)))
/-- _law_refused_right(box, kept, rows, by_name); slots 0 box, 1 kept, 2 rows, 3 by_name, 4 size, 5 before, 6 bad, 7 told, 8 index, 9 number, 10 low, 11 high, 12 k -/
def m__law_refused_right (C_Versions : Addr) : M Fl :=
  sSeq (sPar 4 5 (aCons (eCall oLen2 (aCons (e2 oIx (eVar 2) (eC (.int 0))) aNil)) (aCons (eMeth (F_Versions_nodes C_Versions) C_Versions "nodes" (eVar 1) aNil) aNil))) (sSeq (sSet 6 (eFun (F__law_mixed) (aCons (eVar 0) (aCons (fLst (nLst (aCons (eC .non) (aCons (e1 oNeg (eC (.int 1))) (aCons (eCall oLen2 (aCons (eVar 2) aNil)) (aCons (eC (.bl true)) (aCons (eC (.str "0")) (aCons (fLst (nLst (aCons (eC (.int 0)) aNil))) (aCons (eTup (aCons (eC (.int 0)) aNil)) (aCons (e2 oPow (eC (.int 10)) (eC (.int 20))) aNil)))))))))) aNil)))) (sSeq (sSet 7 (fLst (nLst (aCons (eFun (F__law_asked C_Versions) (aCons (eVar 1) (aCons (eC (.str "set")) (aCons (fLst (nLst (aCons (e2 oIx (eVar 6) (eC (.int 0))) (aCons (eC .non) (aCons (eC .non) aNil))))) (aCons (eVar 3) aNil))))) (aCons (eFun (F__law_asked C_Versions) (aCons (eVar 1) (aCons (eC (.str "row")) (aCons (fLst (nLst (aCons (e2 oIx (eVar 6) (eC (.int 1))) aNil))) (aCons (eVar 3) aNil))))) (aCons (eFun (F__law_asked C_Versions) (aCons (eVar 1) (aCons (eC (.str "sum")) (aCons (fLst (nLst (aCons (e2 oIx (eVar 6) (eC (.int 2))) (aCons (eC .non) (aCons (eC .non) aNil))))) (aCons (eNot (eVar 3)) aNil))))) aNil)))))) (sSeq (sSet 7 (e2 oAdd (eVar 7) (fLst (nLst (aCons (eFun (F__law_asked C_Versions) (aCons (eVar 1) (aCons (eC (.str "parent")) (aCons (fLst (nLst (aCons (e2 oIx (eVar 6) (eC (.int 3))) aNil))) (aCons (eVar 3) aNil))))) (aCons (eFun (F__law_asked C_Versions) (aCons (eVar 1) (aCons (eC (.str "unlike")) (aCons (fLst (nLst (aCons (e2 oIx (eVar 6) (eC (.int 4))) (aCons (e2 oIx (eVar 6) (eC (.int 5))) aNil)))) (aCons (eVar 3) aNil))))) (aCons (eFun (F__law_asked C_Versions) (aCons (eVar 1) (aCons (eC (.str "unlike")) (aCons (fLst (nLst (aCons (eC (.int 0)) (aCons (e2 oIx (eVar 6) (eC (.int 5))) aNil)))) (aCons (eNot (eVar 3)) aNil))))) aNil))))))) (sSeq (sIf (tNotM (tB (eFun (F__law_same 9) (aCons (eVar 7) (aCons (fLst (nLc (.nm 12) [12] (iR1 (aCons (eC (.int 6)) aNil)) (M.pure true) (le__law_refused_right_1 C_Versions))) aNil))))) (sRet (eC (.bl false))) sNext) (sSeq (sPar 8 9 (aCons (e2 oIx (eFun (F__law_mixed) (aCons (eVar 0) (aCons (fLst (nLst (aCons (eC .non) (aCons (e1 oNeg (eC (.int 1))) (aCons (eVar 4) (aCons (eC (.bl true)) (aCons (eC (.str "0")) (aCons (fLst (nLst (aCons (eC (.int 0)) aNil))) aNil)))))))) aNil))) (eC (.int 0))) (aCons (e2 oIx (eFun (F__law_mixed) (aCons (eVar 0) (aCons (fLst (nLst (aCons (eC .non) (aCons (eC (.bl true)) (aCons (eC (.str "1")) (aCons (fLst (nLst (aCons (eC (.int 1)) aNil))) (aCons (eTup (aCons (eC (.int 1)) aNil)) (aCons (eTup aNil) aNil)))))))) aNil))) (eC (.int 0))) aNil))) (sSeq (sSet 7 (fLst (nLst (aCons (eFun (F__law_asked C_Versions) (aCons (eVar 1) (aCons (eC (.str "set")) (aCons (fLst (nLst (aCons (eC (.int 0)) (aCons (eVar 8) (aCons (eVar 9) aNil))))) (aCons (eVar 3) aNil))))) (aCons (eFun (F__law_asked C_Versions) (aCons (eVar 1) (aCons (eC (.str "set")) (aCons (fLst (nLst (aCons (eC (.int 0)) (aCons (e2 oSub (eVar 4) (eC (.int 1))) (aCons (eVar 9) aNil))))) (aCons (eNot (eVar 3)) aNil))))) aNil))))) (sSeq (sIf (tNotM (tB (eFun (F__law_same 9) (aCons (eVar 7) (aCons (fLst (nLst (aCons (fLst (nLst (aCons (eC (.str "index")) (aCons (eVar 8) aNil)))) (aCons (fLst (nLst (aCons (eC (.str "number")) (aCons (eVar 9) aNil)))) aNil)))) aNil))))) (sRet (eC (.bl false))) sNext) (sSeq (sPar 10 11 (aCons (e2 oIx (eFun (F__law_mixed) (aCons (eVar 0) (aCons (fLst (nLst (aCons (eC .non) (aCons (e1 oNeg (eC (.int 1))) (aCons (e2 oAdd (eVar 4) (eC (.int 1))) (aCons (eC (.bl true)) (aCons (eC (.str "0")) (aCons (fLst (nLst (aCons (eC (.int 0)) aNil))) aNil)))))))) aNil))) (eC (.int 0))) (aCons (e2 oIx (eFun (F__law_mixed) (aCons (eVar 0) (aCons (fLst (nLst (aCons (eC .non) (aCons (e1 oNeg (eC (.int 1))) (aCons (e2 oAdd (eVar 4) (eC (.int 1))) (aCons (eC (.bl true)) (aCons (eC (.str "9")) (aCons (fLst (nLst (aCons (eC (.int 1)) aNil))) aNil)))))))) aNil))) (eC (.int 0))) aNil))) (sSeq (sSet 7 (fLst (nLst (aCons (eFun (F__law_asked C_Versions) (aCons (eVar 1) (aCons (eC (.str "sum")) (aCons (fLst (nLst (aCons (eC (.int 0)) (aCons (eVar 10) (aCons (eVar 11) aNil))))) (aCons (eVar 3) aNil))))) (aCons (eFun (F__law_asked C_Versions) (aCons (eVar 1) (aCons (eC (.str "sum")) (aCons (fLst (nLst (aCons (eC (.int 0)) (aCons (eC (.int 0)) (aCons (eVar 11) aNil))))) (aCons (eNot (eVar 3)) aNil))))) aNil))))) (sRet (eAnd (eFun (F__law_same 9) (aCons (eVar 7) (aCons (fLst (nLst (aCons (fLst (nLst (aCons (eC (.str "range")) (aCons (eVar 10) aNil)))) (aCons (fLst (nLst (aCons (eC (.str "range")) (aCons (eVar 11) aNil)))) aNil)))) aNil))) (eFun (F__law_same 9) (aCons (eMeth (F_Versions_nodes C_Versions) C_Versions "nodes" (eVar 1) aNil) (aCons (eVar 5) aNil))))))))))))))
def F__law_refused_right (C_Versions : Addr) : Fn := fun ds ω => fin (m__law_refused_right C_Versions (startD 13 ds) ω)
def fb__law_life_right_1 (C_Versions : Addr) : M Fl :=
  sSeq (sPar3 10 11 12 (aCons (eFun (F__law_take) (aCons (eVar 0) (aCons (eCall oLen2 (aCons (eVar 5) aNil)) aNil))) (aCons (eFun (F__law_take) (aCons (eVar 0) (aCons (eCall oLen2 (aCons (eVar 1) aNil)) aNil))) (aCons (eFun (F__law_number) (aCons (eVar 0) aNil)) aNil)))) (sSeq (sSet 12 (eIf (tB (e2 oEq (eFun (F__law_take) (aCons (eVar 0) (aCons (eC (.int 5)) aNil))) (eC (.int 0)))) (e2 oIx (e2 oIx (eVar 5) (eVar 10)) (eVar 11)) (eVar 12))) (sSeq (sIf (tNotM (tB (eFun (F__law_same 9) (aCons (eFun (F__law_asked C_Versions) (aCons (eVar 4) (aCons (eC (.str "set")) (aCons (fLst (nLst (aCons (eVar 10) (aCons (eVar 11) (aCons (eVar 12) aNil))))) (aCons (eVar 3) aNil))))) (aCons (fLst (nLst (aCons (eC (.str "told")) (aCons (eCall oLen2 (aCons (eVar 5) aNil)) aNil)))) aNil))))) (sRet (eC (.bl false))) sNext) (sSeq (sDrop (eMt mAppend (eVar 5) (aCons (e2 oAdd (e2 oAdd (eSl oSl (e2 oIx (eVar 5) (eVar 10)) oNone (oSome (eVar 11))) (eTup (aCons (eVar 12) aNil))) (eSl oSl (e2 oIx (eVar 5) (eVar 10)) (oSome (e2 oAdd (eVar 11) (eC (.int 1)))) oNone)) aNil))) (sSeq (sDrop (eMt mAppend (eVar 6) (aCons (eVar 10) aNil))) (sSeq (sSet 13 (eMeth (F_Versions_nodes C_Versions) C_Versions "nodes" (eVar 4) aNil)) (sSeq (sIf (tOrM (tNotM (tB (eCall oIsi (aCons (eVar 13) (aCons (eC (.ty "int")) aNil))))) (tOrM (tB (eCall oIsi (aCons (eVar 13) (aCons (eC (.ty "bool")) aNil)))) (tNotM (tB (eCh oLt oLe (eVar 8) (eVar 13) (e2 oAdd (eVar 8) (eVar 7))))))) (sRet (eC (.bl false))) sNext) (sSeq (sPar 8 3 (aCons (eVar 13) (aCons (eNot (eVar 3)) aNil))) (sIf (tAndM (tOrM (tB (e2 oLt (eVar 2) (eC (.int 20)))) (tB (e2 oEq (e2 oMod (eCall oInt (aCons (eVar 9) aNil)) (eC (.int 20))) (eC (.int 0))))) (tNotM (tB (eFun (F__law_all_right C_Versions) (aCons (eVar 0) (aCons (eVar 4) (aCons (eVar 5) (aCons (eVar 6) (aCons (eVar 3) aNil))))))))) (sRet (eC (.bl false))) sNext))))))))
/-- _law_life_right(box, row, steps, by_name); slots 0 box, 1 row, 2 steps, 3 by_name, 4 kept, 5 rows, 6 parents, 7 most, 8 nodes, 9 turn, 10 version, 11 index, 12 number, 13 now, 14 told -/
def m__law_life_right (C_Versions : Addr) : M Fl :=
  sSeq (sSet 4 (e2 oIx (eFun (F__law_made C_Versions) (aCons (eVar 1) (aCons (eVar 3) aNil))) (eC (.int 1)))) (sSeq (sPar3 5 6 7 (aCons (eAlloc (nLst (aCons (eVar 1) aNil))) (aCons (eAlloc (nLst (aCons (eC .non) aNil))) (aCons (e2 oAdd (eFun (F__law_digits) (aCons (eCall oLen2 (aCons (eVar 1) aNil)) aNil)) (eC (.int 1))) aNil)))) (sSeq (sSet 8 (eMeth (F_Versions_nodes C_Versions) C_Versions "nodes" (eVar 4) aNil)) (sSeq (sIf (tOrM (tNotM (tB (eFun (F__law_same 9) (aCons (eVar 8) (aCons (e2 oSub (e2 oMul (eC (.int 2)) (eCall oLen2 (aCons (eVar 1) aNil))) (eC (.int 1))) aNil))))) (tNotM (tB (eFun (F__law_all_right C_Versions) (aCons (eVar 0) (aCons (eVar 4) (aCons (eVar 5) (aCons (eVar 6) (aCons (eVar 3) aNil))))))))) (sRet (eC (.bl false))) sNext) (sSeq (sFor (.nm 9) (iR1 (aCons (eVar 2) aNil)) (fb__law_life_right_1 C_Versions)) (sSeq (sIf (tOrM (tNotM (tB (eFun (F__law_all_right C_Versions) (aCons (eVar 0) (aCons (eVar 4) (aCons (eVar 5) (aCons (eVar 6) (aCons (eVar 3) aNil)))))))) (tNotM (tB (eFun (F__law_refused_right C_Versions) (aCons (eVar 0) (aCons (eVar 4) (aCons (eVar 5) (aCons (eVar 3) aNil)))))))) (sRet (eC (.bl false))) sNext) (sSeq (sIf (tB (e2 oLt (eVar 2) (eC (.int 99)))) (sRet (eC (.bl true))) sNext) (sSeq (sSet 14 (fLst (nLst (aCons (eFun (F__law_asked C_Versions) (aCons (eVar 4) (aCons (eC (.str "set")) (aCons (fLst (nLst (aCons (eC (.int 0)) (aCons (eC (.int 0)) (aCons (eC (.int 1)) aNil))))) (aCons (eVar 3) aNil))))) (aCons (eFun (F__law_asked C_Versions) (aCons (eVar 4) (aCons (eC (.str "set")) (aCons (fLst (nLst (aCons (eC (.int 98)) (aCons (eC (.int 0)) (aCons (eC (.int 1)) aNil))))) (aCons (eNot (eVar 3)) aNil))))) (aCons (eFun (F__law_asked C_Versions) (aCons (eVar 4) (aCons (eC (.str "set")) (aCons (fLst (nLst (aCons (eC (.int 0)) (aCons (eC (.int 0)) (aCons (eC .non) aNil))))) (aCons (eVar 3) aNil))))) aNil)))))) (sRet (eAnd (eFun (F__law_same 9) (aCons (eVar 14) (aCons (fLst (nLst (aCons (fLst (nLst (aCons (eC (.str "many")) (aCons (eC (.int 100)) aNil)))) (aCons (fLst (nLst (aCons (eC (.str "many")) (aCons (eC (.int 100)) aNil)))) (aCons (fLst (nLst (aCons (eC (.str "number")) (aCons (eC .non) aNil)))) aNil))))) aNil))) (eFun (F__law_all_right C_Versions) (aCons (eVar 0) (aCons (eVar 4) (aCons (eVar 5) (aCons (eVar 6) (aCons (eVar 3) aNil)))))))))))))))
def F__law_life_right (C_Versions : Addr) : Fn := fun ds ω => fin (m__law_life_right C_Versions (startD 15 ds) ω)
def le_law_1 (C_Versions : Addr) : EF :=
  eFun (F__law_number) (aCons (eVar 2) aNil)
def fb_law_1 (C_Versions : Addr) : M Fl :=
  sSeq (sSet 2 (eFun (F__law_box) (aCons (eFun (F__law_cell) (aCons (eVar 0) (aCons (eVar 1) aNil))) aNil))) (sSeq (sPar 3 4 (aCons (e2 oEq (eFun (F__law_take) (aCons (eVar 2) (aCons (eC (.int 2)) aNil))) (eC (.int 0))) (aCons (e2 oEq (eFun (F__law_take) (aCons (eVar 2) (aCons (eC (.int 8)) aNil))) (eC (.int 0))) aNil))) (sSeq (sSet 5 (eIf (tB (eVar 4)) (e2 oAdd (eC (.int 9)) (eFun (F__law_take) (aCons (eVar 2) (aCons (eC (.int 24)) aNil)))) (e2 oAdd (eC (.int 1)) (eFun (F__law_take) (aCons (eVar 2) (aCons (eC (.int 8)) aNil)))))) (sSeq (sSet 6 (eCall oTuple (aCons (fLst (nLc (.nm 8) [8] (iR1 (aCons (eVar 5) aNil)) (M.pure true) (le_law_1 C_Versions))) aNil))) (sSeq (sIf (tNotM (tB (eFun (F__law_life_right C_Versions) (aCons (eVar 2) (aCons (eVar 6) (aCons (eIf (tAndM (tB (eVar 4)) (tB (e2 oLt (eVar 1) (eC (.int 2))))) (eC (.int 99)) (e2 oAdd (eC (.int 4)) (eFun (F__law_take) (aCons (eVar 2) (aCons (eC (.int 9)) aNil))))) (aCons (eVar 3) aNil))))))) (sRet (eC (.bl false))) sNext) (sSeq (sSet 7 (e2 oIx (eFun (F__law_mixed) (aCons (eVar 2) (aCons (fLst (nLst (aCons (eC .non) (aCons (eC (.int 7)) (aCons (fLst (nCall oList (aCons (eVar 6) aNil))) (aCons (eTup aNil) (aCons (e2 oMul (eTup (aCons (eC (.int 0)) aNil)) (eC (.int 33))) (aCons (e2 oAdd (eSl oSl (eVar 6) oNone (oSome (e1 oNeg (eC (.int 1))))) (eTup (aCons (eC .non) aNil))) (aCons (e2 oAdd (eSl oSl (eVar 6) oNone (oSome (e1 oNeg (eC (.int 1))))) (eTup (aCons (eC (.bl true)) aNil))) (aCons (eC (.str "12")) (aCons (eC (.dic [] [])) (aCons (e2 oAdd (eSl oSl (eVar 6) oNone (oSome (e1 oNeg (eC (.int 1))))) (eTup (aCons (fLst (nLst (aCons (eC (.int 1)) aNil))) aNil))) aNil)))))))))))) aNil))) (eC (.int 0)))) (sIf (tNotM (tB (eFun (F__law_same 9) (aCons (eFun (F__law_made C_Versions) (aCons (eVar 7) (aCons (eVar 3) aNil))) (aCons (fLst (nLst (aCons (eC (.str "row")) (aCons (eVar 7) aNil)))) aNil))))) (sRet (eC (.bl false))) sNext))))))
/-- law(script); slots 0 script, 1 k, 2 box, 3 by_name, 4 great, 5 size, 6 row, 7 bad, 8 turn -/
def m_law (C_Versions : Addr) : M Fl :=
  sSeq (sFor (.nm 1) (iR1 (aCons (eCall oMax2 (aCons (eC (.int 2)) (aCons (eCall oMin2 (aCons (eC (.int 4)) (aCons (eCall oLen2 (aCons (eVar 0) aNil)) aNil))) aNil))) aNil)) (fb_law_1 C_Versions)) (sRet (eC (.bl true)))
def F_law (C_Versions : Addr) : Fn := fun ds ω => fin (m_law C_Versions (startD 9 ds) ω)
end K80

set_option Elab.async false
set_option linter.all false
set_option maxRecDepth 100000
set_option maxHeartbeats 2000000
namespace K80
open PySem PySem.Spec PyProof.Rows L2 DL

/-! ### frames of shared objects -/
/-- nothing but the objects at S is changed; more may be there -/
structure Ext (S : List Nat) (ω ω' : List OB) : Prop where
  len : ω.length ≤ ω'.length
  get : ∀ j, j < ω.length → j ∉ S → ω'[j]? = ω[j]?
theorem lt_of {ω : List OB} {j : Nat} {x : OB} (h : ω[j]? = some x) : j < ω.length := (List.getElem?_eq_some_iff.mp h).1
theorem Ext.at {S : List Nat} {ω ω' : List OB} (e : Ext S ω ω') {j : Nat} {x : OB} (h : ω[j]? = some x) (n : j ∉ S) : ω'[j]? = some x := by rw [e.get j (lt_of h) n, h]
theorem Ext.refl (S : List Nat) (ω : List OB) : Ext S ω ω := ⟨Nat.le_refl _, fun _ _ _ => rfl⟩
theorem Ext.trans {S : List Nat} {a b c : List OB} (h : Ext S a b) (k : Ext S b c) : Ext S a c := ⟨Nat.le_trans h.len k.len, fun j hj n => by rw [k.get j (Nat.lt_of_lt_of_le hj h.len) n, h.get j hj n]⟩
theorem Ext.mono {S T : List Nat} {a b : List OB} (h : Ext S a b) (s : ∀ j ∈ S, j ∈ T) : Ext T a b := ⟨h.len, fun j hj n => h.get j hj fun q => n (s j q)⟩
theorem Ext.set {S : List Nat} {ω : List OB} {j : Nat} {x : OB} (h : j ∈ S) : Ext S ω (ω.set j x) := ⟨by simp, fun i _ n => List.getElem?_set_ne (fun e => by subst e; exact n h)⟩
theorem Ext.app {S : List Nat} {ω J : List OB} : Ext S ω (ω ++ J) := ⟨by simp, fun i hi _ => List.getElem?_append_left hi⟩
theorem set_at {ω : List OB} {j : Nat} {x y : OB} (h : ω[j]? = some x) : (ω.set j y)[j]? = some y := List.getElem?_set_self (lt_of h)
theorem app_at {ω J : List OB} {j : Nat} {x : OB} (h : ω[j]? = some x) : (ω ++ J)[j]? = some x := by rw [List.getElem?_append_left (lt_of h), h]
theorem new_at {ω : List OB} {x : OB} : (ω ++ [x])[ω.length]? = some x := by rw [List.getElem?_append_right (Nat.le_refl _)]; simp

/-! ### the box -/
/-- a box that can be asked k times more -/
def BoxOk (b k : Nat) (ω : List OB) : Prop := ∃ (g m c : Int) (t : Bool), ω[b]? = some (.lst [.int g, .bl t, .int m, .int c]) ∧ 0 ≤ g ∧ 0 ≤ m ∧ m < 2147483629 ∧ 0 ≤ c ∧ c + k ≤ 1000000000
theorem BoxOk.mono {b k j : Nat} {ω : List OB} (h : BoxOk b k ω) (l : j ≤ k) : BoxOk b j ω := by
  obtain ⟨g, m, c, t, h1, h2, h3, h4, h5, h6⟩ := h
  exact ⟨g, m, c, t, h1, h2, h3, h4, h5, by omega⟩
theorem BoxOk.ext {b k : Nat} {S : List Nat} {ω ω' : List OB} (h : BoxOk b k ω) (e : Ext S ω ω') (n : b ∉ S) : BoxOk b k ω' := by
  obtain ⟨g, m, c, t, h1, h2⟩ := h
  exact ⟨g, m, c, t, e.at h1 n, h2⟩
theorem take_ok {b k : Nat} {ω : List OB} {many : Int} (h : BoxOk b (k + 1) ω) (h0 : 0 < many) (h1 : many < 1073741824) :
    ∃ (d : Nat) (x : OB), (d : Int) < many ∧ F__law_take [.obj b, .int many] ω = .ok (.int d) [] (ω.set b x) ∧ BoxOk b k (ω.set b x) := by
  obtain ⟨g, m, c, t, e, hg, hm0, hm1, hc0, hc1⟩ := h
  have push : (((k + 1 : Nat) : Int)) = (k : Int) + 1 := by omega
  rw [push] at hc1
  by_cases hb : t = true ∧ 0 < g
  · obtain ⟨rfl, hg0⟩ := hb
    have hd : decide (0 < g) = true := decide_eq_true hg0
    have hr := Int.emod_nonneg g (Int.ne_of_gt h0)
    have hr2 := Int.emod_lt_of_pos g h0
    refine ⟨(g % many).toNat, .lst [.int (g / many), .bl true, .int m, .int c], by omega, ?_, g / many, m, c, true, set_at e, Int.ediv_nonneg hg (by omega), hm0, hm1, hc0, by omega⟩
    have hix : ixN 4 0 = some 0 := by decide
    simp only [F__law_take, m__law_take, startD, List.map, List.length, Nat.sub_self, List.replicate, List.append_nil, List.cons_append, List.nil_append, Nat.reduceSub, Nat.reduceAdd, List.set, rb_ok, rb_exc, rb_bad, x_bind, x_pure, x_some, x_none, x_badM, x_c, x_e2, x_e1, x_tB, x_asB, chK_t, chK_f, x_eCh, pick_t, pick_f, x_andM, x_orM, x_notM, x_and, x_or, x_not, x_if, x_nil, x_cons, szL0, szL1, szL2, szL3, szL4, szL6, szL7, szL8, szL10, szT0, szT1, szT2, szT3, szT4, x_tup, x_nlst, x_call, x_ncall, x_oNone, x_oSome, x_asI, x_sl, x_flst, x_alloc, bk_ok, bk_exc, x_fun, x_funK, opt_some, x_fld, x_mt, x_meth, mkK_ok, mkK_exc, x_make, x_makeK, x_next, x_seq, th_nx, th_rt, th_bk, th_ct, th_exc, x_drop, x_sret, x_sif, x_set, asgK_some, x_asg, tg_tp, tg_nm, setAll_nil, setAll_cons, parK_ok, x_par, par3K_ok, x_par3, x_sub, x_sfld, x_for, x_iL, x_iT, x_asL, x_asT, x_iR1, x_iR2, x_nlc, raK_ok, x_raise, fin_rt, fin_nx, fin_exc, x_try, try_rt, ev0, ev1, ev2, ev3, ev4, ev5, ev6, ev7, ev8, ev9, ev10, ev11, ev12, ev13, ev14, DL.v_sub, DL.v_add, DL.v_lt, DL.v_le, DL.v_gt, DL.v_ge, DL.v_fdiv2, DL.v_neg, DL.v_abs, DL.v_int, DL.v_min2, DL.v_max2, DL.v_eqI, DL.v_neI, DL.v_eqB, DL.v_neB, DL.v_isN, DL.v_notN, DL.v_isB, DL.v_e0l, DL.vL_lst, DL.isS_some, DL.v_ixL, DL.v_ixS, DL.v_ixT, DL.atI_0, DL.atI_1, DL.atI_2, DL.atI_3, DL.atI_4, DL.atI_5, DL.v_lenL, DL.v_lenS, DL.v_lenT, DL.v_lenD, DL.v_sumL, DL.v_sumT, DL.v_tupL, DL.v_tupT, DL.v_listT, DL.v_listL, DL.v_slT, DL.v_slL, DL.v_slS, DL.i_ii, DL.i_ib, DL.i_is, DL.i_id, DL.i_il, DL.i_it, DL.i_bi, DL.i_bb, DL.i_bt, DL.i_ni, DL.i_nb, DL.i_nt, DL.i_si, DL.i_sb, DL.i_ss, DL.i_st, DL.i_li, DL.i_lb, DL.i_ls, DL.i_ld, DL.i_ll, DL.i_lt, DL.i_ti, DL.i_tb, DL.i_ts, DL.i_td, DL.i_tl, DL.i_tt, DL.i_di, DL.i_db, DL.i_ds, DL.i_dd, DL.i_dt, DL.x_rev, DL.isNonD, DL.v_ixO e, hd, DL.v_mod h0, DL.v_fdiv h0 h1, subK'_ok e hix]
    rw [show ((g % many).toNat : Int) = g % many from by omega]
  · have hpk : ∀ (f : M Bool) (γ : List SD), f γ ω = .ok (decide (0 < g)) γ ω → pick t f (M.pure false) γ ω = .ok false γ ω := fun f γ hf => by
      cases t with
      | false => rfl
      | true =>
        show f γ ω = _
        rw [hf]
        have : ¬ 0 < g := fun z => hb ⟨rfl, z⟩
        rw [decide_eq_false this]
    have hix : ixN 4 3 = some 3 := by decide
    have e1 := set_at (y := OB.lst [.int g, .bl t, .int m, .int (c + 1)]) e
    have s1 : (small 15486721 || small (c + 1)) = true := by rw [Bool.or_eq_true]; exact .inl (DL.small_of (by decide) (by decide))
    have q0 : 0 ≤ m + 15486721 * (c + 1) + 179425249 := by omega
    have p5 : (m + 15486721 * (c + 1) + 179425249).natAbs < 2 ^ 64 := by
      have : m + 15486721 * (c + 1) + 179425249 < 2 ^ 64 := by omega
      omega
    have hmx : (0 : Int) < 2147483647 := by decide
    have f0 := Int.emod_nonneg ((m + 15486721 * (c + 1) + 179425249) ^ (5 : Int).toNat) (show (2147483647 : Int) ≠ 0 by decide)
    have f1 := Int.emod_lt_of_pos ((m + 15486721 * (c + 1) + 179425249) ^ (5 : Int).toNat) hmx
    have key : ∀ z : Int, 0 ≤ z → z < 2147483647 → ∃ d : Nat, (d : Int) < many ∧ (z * 48271 + 104761 * (c + 1)) ^ (3 : Int).toNat % 2147483587 / 64 % many = d ∧ (z * 48271 + 104761 * (c + 1)).natAbs < 2 ^ 64 := fun z z0 z1 => by
      have hr := Int.emod_nonneg ((z * 48271 + 104761 * (c + 1)) ^ (3 : Int).toNat % 2147483587 / 64) (Int.ne_of_gt h0)
      have hr2 := Int.emod_lt_of_pos ((z * 48271 + 104761 * (c + 1)) ^ (3 : Int).toNat % 2147483587 / 64) h0
      exact ⟨((z * 48271 + 104761 * (c + 1)) ^ (3 : Int).toNat % 2147483587 / 64 % many).toNat, by omega, by omega, by omega⟩
    generalize hz : (m + 15486721 * (c + 1) + 179425249) ^ (5 : Int).toNat % 2147483647 = z at *
    obtain ⟨d, d1, d2, d3⟩ := key z f0 f1
    have s2 : (small z || small 48271) = true := by rw [Bool.or_eq_true]; exact .inr (DL.small_of (by decide) (by decide))
    have s3 : (small 104761 || small (c + 1)) = true := by rw [Bool.or_eq_true]; exact .inl (DL.small_of (by decide) (by decide))
    refine ⟨d, _, d1, ?_, g, m, c + 1, t, e1, hg, hm0, hm1, by omega, by omega⟩
    rw [← d2]
    simp only [F__law_take, m__law_take, startD, List.map, List.length, Nat.sub_self, List.replicate, List.append_nil, List.cons_append, List.nil_append, Nat.reduceSub, Nat.reduceAdd, List.set, rb_ok, rb_exc, rb_bad, x_bind, x_pure, x_some, x_none, x_badM, x_c, x_e2, x_e1, x_tB, x_asB, chK_t, chK_f, x_eCh, pick_t, pick_f, x_andM, x_orM, x_notM, x_and, x_or, x_not, x_if, x_nil, x_cons, szL0, szL1, szL2, szL3, szL4, szL6, szL7, szL8, szL10, szT0, szT1, szT2, szT3, szT4, x_tup, x_nlst, x_call, x_ncall, x_oNone, x_oSome, x_asI, x_sl, x_flst, x_alloc, bk_ok, bk_exc, x_fun, x_funK, opt_some, x_fld, x_mt, x_meth, mkK_ok, mkK_exc, x_make, x_makeK, x_next, x_seq, th_nx, th_rt, th_bk, th_ct, th_exc, x_drop, x_sret, x_sif, x_set, asgK_some, x_asg, tg_tp, tg_nm, setAll_nil, setAll_cons, parK_ok, x_par, par3K_ok, x_par3, x_sub, x_sfld, x_for, x_iL, x_iT, x_asL, x_asT, x_iR1, x_iR2, x_nlc, raK_ok, x_raise, fin_rt, fin_nx, fin_exc, x_try, try_rt, ev0, ev1, ev2, ev3, ev4, ev5, ev6, ev7, ev8, ev9, ev10, ev11, ev12, ev13, ev14, DL.v_sub, DL.v_add, DL.v_lt, DL.v_le, DL.v_gt, DL.v_ge, DL.v_fdiv2, DL.v_neg, DL.v_abs, DL.v_int, DL.v_min2, DL.v_max2, DL.v_eqI, DL.v_neI, DL.v_eqB, DL.v_neB, DL.v_isN, DL.v_notN, DL.v_isB, DL.v_e0l, DL.vL_lst, DL.isS_some, DL.v_ixL, DL.v_ixS, DL.v_ixT, DL.atI_0, DL.atI_1, DL.atI_2, DL.atI_3, DL.atI_4, DL.atI_5, DL.v_lenL, DL.v_lenS, DL.v_lenT, DL.v_lenD, DL.v_sumL, DL.v_sumT, DL.v_tupL, DL.v_tupT, DL.v_listT, DL.v_listL, DL.v_slT, DL.v_slL, DL.v_slS, DL.i_ii, DL.i_ib, DL.i_is, DL.i_id, DL.i_il, DL.i_it, DL.i_bi, DL.i_bb, DL.i_bt, DL.i_ni, DL.i_nb, DL.i_nt, DL.i_si, DL.i_sb, DL.i_ss, DL.i_st, DL.i_li, DL.i_lb, DL.i_ls, DL.i_ld, DL.i_ll, DL.i_lt, DL.i_ti, DL.i_tb, DL.i_ts, DL.i_td, DL.i_tl, DL.i_tt, DL.i_di, DL.i_db, DL.i_ds, DL.i_dd, DL.i_dt, DL.x_rev, DL.isNonD, DL.v_ixO e]
    rw [hpk _ _ (by simp only [rb_ok, rb_exc, rb_bad, x_bind, x_pure, x_some, x_none, x_badM, x_c, x_e2, x_e1, x_tB, x_asB, chK_t, chK_f, x_eCh, pick_t, pick_f, x_andM, x_orM, x_notM, x_and, x_or, x_not, x_if, x_nil, x_cons, szL0, szL1, szL2, szL3, szL4, szL6, szL7, szL8, szL10, szT0, szT1, szT2, szT3, szT4, x_tup, x_nlst, x_call, x_ncall, x_oNone, x_oSome, x_asI, x_sl, x_flst, x_alloc, bk_ok, bk_exc, x_fun, x_funK, opt_some, x_fld, x_mt, x_meth, mkK_ok, mkK_exc, x_make, x_makeK, x_next, x_seq, th_nx, th_rt, th_bk, th_ct, th_exc, x_drop, x_sret, x_sif, x_set, asgK_some, x_asg, tg_tp, tg_nm, setAll_nil, setAll_cons, parK_ok, x_par, par3K_ok, x_par3, x_sub, x_sfld, x_for, x_iL, x_iT, x_asL, x_asT, x_iR1, x_iR2, x_nlc, raK_ok, x_raise, fin_rt, fin_nx, fin_exc, x_try, try_rt, ev0, ev1, ev2, ev3, ev4, ev5, ev6, ev7, ev8, ev9, ev10, ev11, ev12, ev13, ev14, DL.v_sub, DL.v_add, DL.v_lt, DL.v_le, DL.v_gt, DL.v_ge, DL.v_fdiv2, DL.v_neg, DL.v_abs, DL.v_int, DL.v_min2, DL.v_max2, DL.v_eqI, DL.v_neI, DL.v_eqB, DL.v_neB, DL.v_isN, DL.v_notN, DL.v_isB, DL.v_e0l, DL.vL_lst, DL.isS_some, DL.v_ixL, DL.v_ixS, DL.v_ixT, DL.atI_0, DL.atI_1, DL.atI_2, DL.atI_3, DL.atI_4, DL.atI_5, DL.v_lenL, DL.v_lenS, DL.v_lenT, DL.v_lenD, DL.v_sumL, DL.v_sumT, DL.v_tupL, DL.v_tupT, DL.v_listT, DL.v_listL, DL.v_slT, DL.v_slL, DL.v_slS, DL.i_ii, DL.i_ib, DL.i_is, DL.i_id, DL.i_il, DL.i_it, DL.i_bi, DL.i_bb, DL.i_bt, DL.i_ni, DL.i_nb, DL.i_nt, DL.i_si, DL.i_sb, DL.i_ss, DL.i_st, DL.i_li, DL.i_lb, DL.i_ls, DL.i_ld, DL.i_ll, DL.i_lt, DL.i_ti, DL.i_tb, DL.i_ts, DL.i_td, DL.i_tl, DL.i_tt, DL.i_di, DL.i_db, DL.i_ds, DL.i_dd, DL.i_dt, DL.x_rev, DL.isNonD, DL.v_ixO e])]
    simp only [startD, List.map, List.length, Nat.sub_self, List.replicate, List.append_nil, List.cons_append, List.nil_append, Nat.reduceSub, Nat.reduceAdd, List.set, rb_ok, rb_exc, rb_bad, x_bind, x_pure, x_some, x_none, x_badM, x_c, x_e2, x_e1, x_tB, x_asB, chK_t, chK_f, x_eCh, pick_t, pick_f, x_andM, x_orM, x_notM, x_and, x_or, x_not, x_if, x_nil, x_cons, szL0, szL1, szL2, szL3, szL4, szL6, szL7, szL8, szL10, szT0, szT1, szT2, szT3, szT4, x_tup, x_nlst, x_call, x_ncall, x_oNone, x_oSome, x_asI, x_sl, x_flst, x_alloc, bk_ok, bk_exc, x_fun, x_funK, opt_some, x_fld, x_mt, x_meth, mkK_ok, mkK_exc, x_make, x_makeK, x_next, x_seq, th_nx, th_rt, th_bk, th_ct, th_exc, x_drop, x_sret, x_sif, x_set, asgK_some, x_asg, tg_tp, tg_nm, setAll_nil, setAll_cons, parK_ok, x_par, par3K_ok, x_par3, x_sub, x_sfld, x_for, x_iL, x_iT, x_asL, x_asT, x_iR1, x_iR2, x_nlc, raK_ok, x_raise, fin_rt, fin_nx, fin_exc, x_try, try_rt, ev0, ev1, ev2, ev3, ev4, ev5, ev6, ev7, ev8, ev9, ev10, ev11, ev12, ev13, ev14, DL.v_sub, DL.v_add, DL.v_lt, DL.v_le, DL.v_gt, DL.v_ge, DL.v_fdiv2, DL.v_neg, DL.v_abs, DL.v_int, DL.v_min2, DL.v_max2, DL.v_eqI, DL.v_neI, DL.v_eqB, DL.v_neB, DL.v_isN, DL.v_notN, DL.v_isB, DL.v_e0l, DL.vL_lst, DL.isS_some, DL.v_ixL, DL.v_ixS, DL.v_ixT, DL.atI_0, DL.atI_1, DL.atI_2, DL.atI_3, DL.atI_4, DL.atI_5, DL.v_lenL, DL.v_lenS, DL.v_lenT, DL.v_lenD, DL.v_sumL, DL.v_sumT, DL.v_tupL, DL.v_tupT, DL.v_listT, DL.v_listL, DL.v_slT, DL.v_slL, DL.v_slS, DL.i_ii, DL.i_ib, DL.i_is, DL.i_id, DL.i_il, DL.i_it, DL.i_bi, DL.i_bb, DL.i_bt, DL.i_ni, DL.i_nb, DL.i_nt, DL.i_si, DL.i_sb, DL.i_ss, DL.i_st, DL.i_li, DL.i_lb, DL.i_ls, DL.i_ld, DL.i_ll, DL.i_lt, DL.i_ti, DL.i_tb, DL.i_ts, DL.i_td, DL.i_tl, DL.i_tt, DL.i_di, DL.i_db, DL.i_ds, DL.i_dd, DL.i_dt, DL.x_rev, DL.isNonD, DL.v_ixO e, subK'_ok e hix, DL.v_ixO e1, DL.v_mulI s1, DL.v_pow (show (0 : Int) ≤ 5 by decide) (show (5 : Int) ≤ 1000 by decide) p5, DL.v_mod hmx, hz, DL.v_mulI s2, DL.v_mulI s3, DL.v_pow (show (0 : Int) ≤ 3 by decide) (show (3 : Int) ≤ 1000 by decide) d3, DL.v_mod (show (0 : Int) < 2147483587 by decide), DL.v_fdiv (show (0 : Int) < 64 by decide) (show (64 : Int) < 1073741824 by decide), DL.v_mod h0]
end K80

set_option Elab.async false
set_option linter.all false
set_option maxRecDepth 100000
set_option maxHeartbeats 2000000
namespace K80
open PySem PySem.Spec PyProof.Rows L2 DL

/-! ### trees over rows -/
abbrev Nd := Int × Option (Nat × Nat)
def ndD : Nd → D
  | (t, none) => .tup [.int t, .non, .non]
  | (t, some (l, r)) => .tup [.int t, .int l, .int r]
/-- the sum over [lo, hi) -/
def S (f : Nat → Int) (lo : Nat) : Nat → Int
  | 0 => 0
  | n + 1 => f lo + S f (lo + 1) n
theorem S_add (f : Nat → Int) : ∀ (a lo b : Nat), S f lo (a + b) = S f lo a + S f (lo + a) b
  | 0, lo, b => by simp [S]
  | a + 1, lo, b => by
    rw [show a + 1 + b = (a + b) + 1 from by omega]
    show f lo + S f (lo + 1) (a + b) = f lo + S f (lo + 1) a + S f (lo + (a + 1)) b
    rw [S_add f a (lo + 1) b, show lo + (a + 1) = lo + 1 + a from by omega]
    omega
theorem S_congr {f g : Nat → Int} : ∀ (n lo : Nat), (∀ i, lo ≤ i → i < lo + n → f i = g i) → S f lo n = S g lo n
  | 0, _, _ => rfl
  | n + 1, lo, h => by
    show f lo + S f (lo + 1) n = g lo + S g (lo + 1) n
    rw [h lo (by omega) (by omega), S_congr n (lo + 1) fun i h1 h2 => h i (by omega) (by omega)]
theorem S_split (f : Nat → Int) {lo mid hi : Nat} (h1 : lo ≤ mid) (h2 : mid ≤ hi) : S f lo (mid - lo) + S f mid (hi - mid) = S f lo (hi - lo) := by
  have := S_add f (mid - lo) lo (hi - mid)
  rw [show mid - lo + (hi - mid) = hi - lo from by omega, show lo + (mid - lo) = mid from by omega] at this
  exact this.symm
/-- the node a of the kept ones stands for the items of f in [lo, hi) -/
inductive Tr (N : List Nd) (f : Nat → Int) : Nat → Nat → Nat → Prop
  | leaf {a lo : Nat} : N[a]? = some (f lo, none) → Tr N f a lo (lo + 1)
  | node {a lo hi l r : Nat} : lo + 1 < hi → N[a]? = some (S f lo (hi - lo), some (l, r)) → Tr N f l lo ((lo + hi) / 2) → Tr N f r ((lo + hi) / 2) hi → Tr N f a lo hi
theorem Tr.lt {N : List Nd} {f : Nat → Int} {a lo hi : Nat} (h : Tr N f a lo hi) : lo < hi := by
  cases h with
  | leaf _ => omega
  | node h _ _ _ => omega
theorem pre_at {N M : List Nd} (p : N <+: M) {a : Nat} {x : Nd} (h : N[a]? = some x) : M[a]? = some x := by
  obtain ⟨l, rfl⟩ := p
  rw [List.getElem?_append_left (List.getElem?_eq_some_iff.mp h).1, h]
theorem Tr.mono {N M : List Nd} {f : Nat → Int} (p : N <+: M) {a lo hi : Nat} (h : Tr N f a lo hi) : Tr M f a lo hi := by
  induction h with
  | leaf e => exact .leaf (pre_at p e)
  | node h e _ _ i1 i2 => exact .node h (pre_at p e) i1 i2
theorem Tr.congr {N : List Nd} {f g : Nat → Int} {a lo hi : Nat} (h : Tr N f a lo hi) (e : ∀ i, lo ≤ i → i < hi → f i = g i) : Tr N g a lo hi := by
  induction h with
  | @leaf a lo k => exact .leaf (by rw [k, e lo (Nat.le_refl _) (by omega)])
  | @node a lo hi l r h k _ _ i1 i2 =>
    refine .node h ?_ (i1 fun i h1 h2 => e i h1 (by omega)) (i2 fun i h1 h2 => e i (by omega) h2)
    rw [k, S_congr (g := g) (hi - lo) lo fun i h1 h2 => e i h1 (by omega)]
theorem Tr.top {N : List Nd} {f : Nat → Int} {a lo hi : Nat} (h : Tr N f a lo hi) : ∃ o, N[a]? = some (S f lo (hi - lo), o) := by
  cases h with
  | leaf e => exact ⟨none, by rw [e, show lo + 1 - lo = 1 from by omega]; simp [S]⟩
  | node _ e _ _ => exact ⟨_, e⟩
/-- a node tells its items -/
theorem Tr.det {N : List Nd} {f g : Nat → Int} {a lo hi : Nat} (h : Tr N f a lo hi) : Tr N g a lo hi → ∀ i, lo ≤ i → i < hi → f i = g i := by
  induction h with
  | @leaf a lo k =>
    intro h' i h1 h2
    have e : i = lo := by omega
    subst e
    cases h' with
    | leaf k' =>
      rw [k] at k'
      injection k' with z
      injection z with z _
    | node q _ _ _ => omega
  | @node a lo hi l r h k _ _ i1 i2 =>
    intro h' i h1 h2
    cases h' with
    | leaf k' => omega
    | @node _ _ _ l' r' q k' t1 t2 =>
      rw [k] at k'
      injection k' with z
      injection z with _ z
      injection z with z
      injection z with z1 z2
      subst z1 z2
      by_cases hm : i < (lo + hi) / 2
      · exact i1 t1 i h1 hm
      · exact i2 t2 i (by omega) h2
end K80

set_option Elab.async false
set_option linter.all false
set_option maxRecDepth 100000
set_option maxHeartbeats 2000000
namespace K80
open PySem PySem.Spec PyProof.Rows L2 DL

theorem ins_ne {C : Addr} {fs : List (Str × D)} {xs : List D} {ω : List OB} {v k : Nat} (h : ω[v]? = some (.ins C fs)) (e : ω[k]? = some (.lst xs)) : v ≠ k := fun z => by
  subst z
  rw [h] at e
  cases e
theorem at_set {ω : List OB} {i j : Nat} {x y : OB} (h : ω[i]? = some x) (n : i ≠ j) : (ω.set j y)[i]? = some x := by rw [List.getElem?_set_ne (Ne.symm n), h]
theorem ndD_len (N : List Nd) : (N.map ndD).length = N.length := List.length_map _
theorem nd_at {N : List Nd} {a : Nat} {x : Nd} (h : N[a]? = some x) : (N.map ndD)[a]? = some (ndD x) := by rw [List.getElem?_map, h]; rfl
theorem snoc_map (N : List Nd) (x : Nd) : N.map ndD ++ [ndD x] = (N ++ [x]).map ndD := by simp
theorem keep_ok {C : Addr} {ω : List OB} {v kt : Nat} {fs : List (Str × D)} {N : List Nd} {nd : Nd} {a b c : D} (hv : ω[v]? = some (.ins C fs)) (lk : fs.lookup ("kept" : Str) = some (D.obj kt)) (hk : ω[kt]? = some (.lst (N.map ndD))) (hl : N.length < 100000) (hd : ndD nd = .tup [a, b, c]) :
    F_Versions_keep C [.obj v, a, b, c] ω = .ok (.int N.length) [] (ω.set kt (.lst ((N ++ [nd]).map ndD))) := by
  have e1 := at_set (y := OB.lst ((N ++ [nd]).map ndD)) hv (ins_ne hv hk)
  have e2 := set_at (y := OB.lst ((N ++ [nd]).map ndD)) hk
  have f1 := fld_ok hv lk
  have f2 := fld_ok e1 lk
  have g1 : ∀ γ, mtK mAppend (.obj kt) [.tup [a, b, c]] γ ω = .ok .non γ (ω.set kt (.lst ((N ++ [nd]).map ndD))) := fun γ => by
    rw [m_app hk (by rw [ndD_len]; omega), ← hd, snoc_map]
  simp only [F_Versions_keep, m_Versions_keep, startD, List.map, List.length, Nat.sub_self, List.replicate, List.append_nil, List.cons_append, List.nil_append, Nat.reduceSub, Nat.reduceAdd, List.set, rb_ok, rb_exc, rb_bad, x_bind, x_pure, x_some, x_none, x_badM, x_c, x_e2, x_e1, x_tB, x_asB, chK_t, chK_f, x_eCh, pick_t, pick_f, x_andM, x_orM, x_notM, x_and, x_or, x_not, x_if, x_nil, x_cons, szL0, szL1, szL2, szL3, szL4, szL6, szL7, szL8, szL10, szT0, szT1, szT2, szT3, szT4, x_tup, x_nlst, x_call, x_ncall, x_oNone, x_oSome, x_asI, x_sl, x_flst, x_alloc, bk_ok, bk_exc, x_fun, x_funK, opt_some, x_fld, x_mt, x_meth, mkK_ok, mkK_exc, x_make, x_makeK, x_next, x_seq, th_nx, th_rt, th_bk, th_ct, th_exc, x_drop, x_sret, x_sif, x_set, asgK_some, x_asg, tg_tp, tg_nm, setAll_nil, setAll_cons, parK_ok, x_par, par3K_ok, x_par3, x_sub, x_sfld, x_for, x_iL, x_iT, x_asL, x_asT, x_iR1, x_iR2, x_nlc, raK_ok, x_raise, fin_rt, fin_nx, fin_exc, x_try, try_rt, ev0, ev1, ev2, ev3, ev4, ev5, ev6, ev7, ev8, ev9, ev10, ev11, ev12, ev13, ev14, DL.v_sub, DL.v_add, DL.v_lt, DL.v_le, DL.v_gt, DL.v_ge, DL.v_fdiv2, DL.v_neg, DL.v_abs, DL.v_int, DL.v_min2, DL.v_max2, DL.v_eqI, DL.v_neI, DL.v_eqB, DL.v_neB, DL.v_isN, DL.v_notN, DL.v_isB, DL.v_e0l, DL.vL_lst, DL.isS_some, DL.v_ixL, DL.v_ixS, DL.v_ixT, DL.atI_0, DL.atI_1, DL.atI_2, DL.atI_3, DL.atI_4, DL.atI_5, DL.v_lenL, DL.v_lenS, DL.v_lenT, DL.v_lenD, DL.v_sumL, DL.v_sumT, DL.v_tupL, DL.v_tupT, DL.v_listT, DL.v_listL, DL.v_slT, DL.v_slL, DL.v_slS, DL.i_ii, DL.i_ib, DL.i_is, DL.i_id, DL.i_il, DL.i_it, DL.i_bi, DL.i_bb, DL.i_bt, DL.i_ni, DL.i_nb, DL.i_nt, DL.i_si, DL.i_sb, DL.i_ss, DL.i_st, DL.i_li, DL.i_lb, DL.i_ls, DL.i_ld, DL.i_ll, DL.i_lt, DL.i_ti, DL.i_tb, DL.i_ts, DL.i_td, DL.i_tl, DL.i_tt, DL.i_di, DL.i_db, DL.i_ds, DL.i_dd, DL.i_dt, DL.x_rev, DL.isNonD, f1, vL_obj hk, g1, f2, DL.v_lenO e2]
  rw [ndD_len, List.length_append, List.length_singleton]
  congr 2
  omega
/-- the row's items -/
def rowD (xs : List Int) : D := .tup (xs.map D.int)
def at0 (xs : List Int) (i : Nat) : Int := xs.getD i 0
theorem row_at {xs : List Int} {i : Nat} (h : i < xs.length) : (xs.map D.int)[i]? = some (.int (at0 xs i)) := by
  rw [List.getElem?_map, List.getElem?_eq_getElem h]
  simp [at0, h]
theorem half (lo hi : Nat) : ((lo : Int) + (hi : Int)) / 2 = (((lo + hi) / 2 : Nat) : Int) := by omega
theorem grow_ok {C : Addr} {v kt : Nat} {fs : List (Str × D)} {xs : List Int} (lk : fs.lookup ("kept" : Str) = some (D.obj kt)) (l1 : fs.lookup ("keep" : Str) = none) (l2 : fs.lookup ("grow" : Str) = none) :
    ∀ (k lo hi : Nat) (ω : List OB) (N : List Nd), ω[v]? = some (.ins C fs) → ω[kt]? = some (.lst (N.map ndD)) → lo < hi → hi ≤ xs.length → hi - lo ≤ 2 ^ k → N.length + 2 * (hi - lo) < 100000 →
      ∃ (a : Nat) (M : List Nd), F_Versions_grow C (k + 1) [.obj v, rowD xs, .int lo, .int hi] ω = .ok (.int a) [] (ω.set kt (.lst (M.map ndD))) ∧ N <+: M ∧ M.length + 1 = N.length + 2 * (hi - lo) ∧ Tr M (at0 xs) a lo hi := by
  intro k
  induction k with
  | zero =>
    intro lo hi ω N hv hk h1 h2 h3 h4
    have e : hi = lo + 1 := by have : hi - lo ≤ 1 := h3; omega
    subst e
    have hc : decide (((lo + 1 : Nat) : Int) - (lo : Int) = 1) = true := decide_eq_true (by omega)
    have hx := DL.atI_nat (row_at (xs := xs) (i := lo) (by omega))
    have hkp := keep_ok (a := .int (at0 xs lo)) (b := .non) (c := .non) (nd := (at0 xs lo, none)) hv lk hk (by omega) rfl
    refine ⟨N.length, N ++ [(at0 xs lo, none)], ?_, List.prefix_append _ _, by simp, .leaf (by simp)⟩
    simp only [F_Versions_grow, m_Versions_grow, rowD, startD, List.map, List.length, Nat.sub_self, List.replicate, List.append_nil, List.cons_append, List.nil_append, Nat.reduceSub, Nat.reduceAdd, List.set, rb_ok, rb_exc, rb_bad, x_bind, x_pure, x_some, x_none, x_badM, x_c, x_e2, x_e1, x_tB, x_asB, chK_t, chK_f, x_eCh, pick_t, pick_f, x_andM, x_orM, x_notM, x_and, x_or, x_not, x_if, x_nil, x_cons, szL0, szL1, szL2, szL3, szL4, szL6, szL7, szL8, szL10, szT0, szT1, szT2, szT3, szT4, x_tup, x_nlst, x_call, x_ncall, x_oNone, x_oSome, x_asI, x_sl, x_flst, x_alloc, bk_ok, bk_exc, x_fun, x_funK, opt_some, x_fld, x_mt, x_meth, mkK_ok, mkK_exc, x_make, x_makeK, x_next, x_seq, th_nx, th_rt, th_bk, th_ct, th_exc, x_drop, x_sret, x_sif, x_set, asgK_some, x_asg, tg_tp, tg_nm, setAll_nil, setAll_cons, parK_ok, x_par, par3K_ok, x_par3, x_sub, x_sfld, x_for, x_iL, x_iT, x_asL, x_asT, x_iR1, x_iR2, x_nlc, raK_ok, x_raise, fin_rt, fin_nx, fin_exc, x_try, try_rt, ev0, ev1, ev2, ev3, ev4, ev5, ev6, ev7, ev8, ev9, ev10, ev11, ev12, ev13, ev14, DL.v_sub, DL.v_add, DL.v_lt, DL.v_le, DL.v_gt, DL.v_ge, DL.v_fdiv2, DL.v_neg, DL.v_abs, DL.v_int, DL.v_min2, DL.v_max2, DL.v_eqI, DL.v_neI, DL.v_eqB, DL.v_neB, DL.v_isN, DL.v_notN, DL.v_isB, DL.v_e0l, DL.vL_lst, DL.isS_some, DL.v_ixL, DL.v_ixS, DL.v_ixT, DL.atI_0, DL.atI_1, DL.atI_2, DL.atI_3, DL.atI_4, DL.atI_5, DL.v_lenL, DL.v_lenS, DL.v_lenT, DL.v_lenD, DL.v_sumL, DL.v_sumT, DL.v_tupL, DL.v_tupT, DL.v_listT, DL.v_listL, DL.v_slT, DL.v_slL, DL.v_slS, DL.i_ii, DL.i_ib, DL.i_is, DL.i_id, DL.i_il, DL.i_it, DL.i_bi, DL.i_bb, DL.i_bt, DL.i_ni, DL.i_nb, DL.i_nt, DL.i_si, DL.i_sb, DL.i_ss, DL.i_st, DL.i_li, DL.i_lb, DL.i_ls, DL.i_ld, DL.i_ll, DL.i_lt, DL.i_ti, DL.i_tb, DL.i_ts, DL.i_td, DL.i_tl, DL.i_tt, DL.i_di, DL.i_db, DL.i_ds, DL.i_dd, DL.i_dt, DL.x_rev, DL.isNonD, hc, hx, isI_ok hv l1, hkp]
  | succ k ih =>
    intro lo hi ω N hv hk h1 h2 h3 h4
    by_cases hs : hi = lo + 1
    · subst hs
      have hc : decide (((lo + 1 : Nat) : Int) - (lo : Int) = 1) = true := decide_eq_true (by omega)
      have hx := DL.atI_nat (row_at (xs := xs) (i := lo) (by omega))
      have hkp := keep_ok (a := .int (at0 xs lo)) (b := .non) (c := .non) (nd := (at0 xs lo, none)) hv lk hk (by omega) rfl
      refine ⟨N.length, N ++ [(at0 xs lo, none)], ?_, List.prefix_append _ _, by simp, .leaf (by simp)⟩
      simp only [F_Versions_grow, m_Versions_grow, rowD, startD, List.map, List.length, Nat.sub_self, List.replicate, List.append_nil, List.cons_append, List.nil_append, Nat.reduceSub, Nat.reduceAdd, List.set, rb_ok, rb_exc, rb_bad, x_bind, x_pure, x_some, x_none, x_badM, x_c, x_e2, x_e1, x_tB, x_asB, chK_t, chK_f, x_eCh, pick_t, pick_f, x_andM, x_orM, x_notM, x_and, x_or, x_not, x_if, x_nil, x_cons, szL0, szL1, szL2, szL3, szL4, szL6, szL7, szL8, szL10, szT0, szT1, szT2, szT3, szT4, x_tup, x_nlst, x_call, x_ncall, x_oNone, x_oSome, x_asI, x_sl, x_flst, x_alloc, bk_ok, bk_exc, x_fun, x_funK, opt_some, x_fld, x_mt, x_meth, mkK_ok, mkK_exc, x_make, x_makeK, x_next, x_seq, th_nx, th_rt, th_bk, th_ct, th_exc, x_drop, x_sret, x_sif, x_set, asgK_some, x_asg, tg_tp, tg_nm, setAll_nil, setAll_cons, parK_ok, x_par, par3K_ok, x_par3, x_sub, x_sfld, x_for, x_iL, x_iT, x_asL, x_asT, x_iR1, x_iR2, x_nlc, raK_ok, x_raise, fin_rt, fin_nx, fin_exc, x_try, try_rt, ev0, ev1, ev2, ev3, ev4, ev5, ev6, ev7, ev8, ev9, ev10, ev11, ev12, ev13, ev14, DL.v_sub, DL.v_add, DL.v_lt, DL.v_le, DL.v_gt, DL.v_ge, DL.v_fdiv2, DL.v_neg, DL.v_abs, DL.v_int, DL.v_min2, DL.v_max2, DL.v_eqI, DL.v_neI, DL.v_eqB, DL.v_neB, DL.v_isN, DL.v_notN, DL.v_isB, DL.v_e0l, DL.vL_lst, DL.isS_some, DL.v_ixL, DL.v_ixS, DL.v_ixT, DL.atI_0, DL.atI_1, DL.atI_2, DL.atI_3, DL.atI_4, DL.atI_5, DL.v_lenL, DL.v_lenS, DL.v_lenT, DL.v_lenD, DL.v_sumL, DL.v_sumT, DL.v_tupL, DL.v_tupT, DL.v_listT, DL.v_listL, DL.v_slT, DL.v_slL, DL.v_slS, DL.i_ii, DL.i_ib, DL.i_is, DL.i_id, DL.i_il, DL.i_it, DL.i_bi, DL.i_bb, DL.i_bt, DL.i_ni, DL.i_nb, DL.i_nt, DL.i_si, DL.i_sb, DL.i_ss, DL.i_st, DL.i_li, DL.i_lb, DL.i_ls, DL.i_ld, DL.i_ll, DL.i_lt, DL.i_ti, DL.i_tb, DL.i_ts, DL.i_td, DL.i_tl, DL.i_tt, DL.i_di, DL.i_db, DL.i_ds, DL.i_dd, DL.i_dt, DL.x_rev, DL.isNonD, hc, hx, isI_ok hv l1, hkp]
    · have hc : decide ((hi : Int) - (lo : Int) = 1) = false := decide_eq_false (by omega)
      have hp : 2 ^ (k + 1) = 2 * 2 ^ k := by rw [Nat.pow_succ]; omega
      obtain ⟨a, M, e1, p1, n1, t1⟩ := ih lo ((lo + hi) / 2) ω N hv hk (by omega) (by omega) (by omega) (by omega)
      have hv1 := at_set (y := OB.lst (M.map ndD)) hv (ins_ne hv hk)
      have hk1 := set_at (y := OB.lst (M.map ndD)) hk
      obtain ⟨b, R, e2, p2, n2, t2⟩ := ih ((lo + hi) / 2) hi (ω.set kt (.lst (M.map ndD))) M hv1 hk1 (by omega) (by omega) (by omega) (by omega)
      rw [List.set_set] at e2
      have hv2 := at_set (y := OB.lst (R.map ndD)) hv (ins_ne hv hk)
      have hk2 := set_at (y := OB.lst (R.map ndD)) hk
      have t1' := t1.mono p2
      obtain ⟨o1, q1⟩ := t1'.top
      obtain ⟨o2, q2⟩ := t2.top
      have hsum : S (at0 xs) lo ((lo + hi) / 2 - lo) + S (at0 xs) ((lo + hi) / 2) (hi - (lo + hi) / 2) = S (at0 xs) lo (hi - lo) := S_split _ (by omega) (by omega)
      have hkp := keep_ok (a := .int (S (at0 xs) lo ((lo + hi) / 2 - lo) + S (at0 xs) ((lo + hi) / 2) (hi - (lo + hi) / 2))) (b := .int a) (c := .int b) (nd := (S (at0 xs) lo (hi - lo), some (a, b))) hv2 lk hk2 (by omega) (by rw [hsum]; rfl)
      rw [List.set_set] at hkp
      have pr : R <+: R ++ [(S (at0 xs) lo (hi - lo), some (a, b))] := List.prefix_append _ _
      refine ⟨R.length, R ++ [(S (at0 xs) lo (hi - lo), some (a, b))], ?_, p1.trans (p2.trans pr), ?_, .node (by omega) (by simp) (t1'.mono pr) (t2.mono pr)⟩
      · have i1 : ∀ x : Option (Nat × Nat), atI (List.map ndD R) (a : Int) = some (ndD (S (at0 xs) lo ((lo + hi) / 2 - lo), o1)) := fun _ => DL.atI_nat (nd_at q1)
        have i2 := DL.atI_nat (nd_at q2)
        have z1 : ∀ (t : Int) (o : Option (Nat × Nat)) (ω : List OB), oIx ω (ndD (t, o)) (.int 0) = some (.int t) := fun t o ω => by cases o <;> rfl
        rw [F_Versions_grow, m_Versions_grow]
        simp only [rowD] at e1 e2 ⊢
        simp only [startD, List.map, List.length, Nat.sub_self, List.replicate, List.append_nil, List.cons_append, List.nil_append, Nat.reduceSub, Nat.reduceAdd, List.set, rb_ok, rb_exc, rb_bad, x_bind, x_pure, x_some, x_none, x_badM, x_c, x_e2, x_e1, x_tB, x_asB, chK_t, chK_f, x_eCh, pick_t, pick_f, x_andM, x_orM, x_notM, x_and, x_or, x_not, x_if, x_nil, x_cons, szL0, szL1, szL2, szL3, szL4, szL6, szL7, szL8, szL10, szT0, szT1, szT2, szT3, szT4, x_tup, x_nlst, x_call, x_ncall, x_oNone, x_oSome, x_asI, x_sl, x_flst, x_alloc, bk_ok, bk_exc, x_fun, x_funK, opt_some, x_fld, x_mt, x_meth, mkK_ok, mkK_exc, x_make, x_makeK, x_next, x_seq, th_nx, th_rt, th_bk, th_ct, th_exc, x_drop, x_sret, x_sif, x_set, asgK_some, x_asg, tg_tp, tg_nm, setAll_nil, setAll_cons, parK_ok, x_par, par3K_ok, x_par3, x_sub, x_sfld, x_for, x_iL, x_iT, x_asL, x_asT, x_iR1, x_iR2, x_nlc, raK_ok, x_raise, fin_rt, fin_nx, fin_exc, x_try, try_rt, ev0, ev1, ev2, ev3, ev4, ev5, ev6, ev7, ev8, ev9, ev10, ev11, ev12, ev13, ev14, DL.v_sub, DL.v_add, DL.v_lt, DL.v_le, DL.v_gt, DL.v_ge, DL.v_fdiv2, DL.v_neg, DL.v_abs, DL.v_int, DL.v_min2, DL.v_max2, DL.v_eqI, DL.v_neI, DL.v_eqB, DL.v_neB, DL.v_isN, DL.v_notN, DL.v_isB, DL.v_e0l, DL.vL_lst, DL.isS_some, DL.v_ixL, DL.v_ixS, DL.v_ixT, DL.atI_0, DL.atI_1, DL.atI_2, DL.atI_3, DL.atI_4, DL.atI_5, DL.v_lenL, DL.v_lenS, DL.v_lenT, DL.v_lenD, DL.v_sumL, DL.v_sumT, DL.v_tupL, DL.v_tupT, DL.v_listT, DL.v_listL, DL.v_slT, DL.v_slL, DL.v_slS, DL.i_ii, DL.i_ib, DL.i_is, DL.i_id, DL.i_il, DL.i_it, DL.i_bi, DL.i_bb, DL.i_bt, DL.i_ni, DL.i_nb, DL.i_nt, DL.i_si, DL.i_sb, DL.i_ss, DL.i_st, DL.i_li, DL.i_lb, DL.i_ls, DL.i_ld, DL.i_ll, DL.i_lt, DL.i_ti, DL.i_tb, DL.i_ts, DL.i_td, DL.i_tl, DL.i_tt, DL.i_di, DL.i_db, DL.i_ds, DL.i_dd, DL.i_dt, DL.x_rev, DL.isNonD, hc, half, isI_ok hv l2, e1, isI_ok hv1 l2, e2, fld_ok hv2 lk, DL.v_ixO hk2, i1 none, i2, z1, isI_ok hv2 l1, hkp]
      · simp
        omega
end K80

set_option Elab.async false
set_option linter.all false
set_option maxRecDepth 100000
set_option maxHeartbeats 2000000
namespace K80
open PySem PySem.Spec PyProof.Rows L2 DL

/-- the turns of a for without break -/
inductive Steps (t : Tg) (b : M Fl) : List D → List SD → List OB → List SD → List OB → Prop
  | nil {γ ω} : Steps t b [] γ ω γ ω
  | cons {d r γ ω γ1 γ2 ω2 γ' ω'} : t.set d γ = some γ1 → b γ1 ω = .ok .nx γ2 ω2 → Steps t b r γ2 ω2 γ' ω' → Steps t b (d :: r) γ ω γ' ω'
theorem Steps.run {t : Tg} {b : M Fl} {ds : List D} {γ γ' : List SD} {ω ω' : List OB} (h : Steps t b ds γ ω γ' ω') : forL t b ds γ ω = .ok .nx γ' ω' := by
  induction h with
  | nil => rfl
  | cons e1 e2 _ ih => unfold forL; rw [e1]; dsimp only; rw [e2]; exact ih
theorem Steps.append {t : Tg} {b : M Fl} {xs ys : List D} {γ γ1 γ' : List SD} {ω ω1 ω' : List OB} (h : Steps t b xs γ ω γ1 ω1) (k : Steps t b ys γ1 ω1 γ' ω') : Steps t b (xs ++ ys) γ ω γ' ω' := by
  induction h with
  | nil => exact k
  | cons e1 e2 _ ih => exact .cons e1 e2 (ih k)

/-! ### plain checks -/
def isInt : D → Bool
  | .int _ => true
  | _ => false
theorem sub_int : ∀ t ∈ kinds, (subK t "int" && !subK t "bool") = (t == "int") := by decide +kernel
theorem isInt_ty {ω : List OB} {d : D} {t : String} (h : tyN ω d = some t) : (t == "int") = isInt d := by
  cases d with
  | obj h' =>
    unfold tyN at h
    dsimp only at h
    split at h
    · cases h; rfl
    · cases h; rfl
    · cases h
  | fn a => cases h
  | ty n => cases h
  | non => cases h; rfl
  | bl b => cases h; rfl
  | int b => cases h; rfl
  | str b => cases h; rfl
  | lst b => cases h; rfl
  | tup b => cases h; rfl
  | scr b => cases h; rfl
  | dic a b => cases h; rfl
theorem isint_ok {ω : List OB} {d : D} {t : String} (h : tyN ω d = some t) : F_is_integer [d] ω = .ok (.bl (isInt d)) [] ω := by
  have k1 := DL.v_isi (n := "int") h (by decide)
  have k2 := DL.v_isi (n := "bool") h (by decide)
  have k3 := sub_int t (tyN_kind h)
  rw [isInt_ty h] at k3
  rw [← k3]
  simp only [F_is_integer, m_is_integer, startD, List.map, List.length, Nat.sub_self, List.replicate, List.append_nil, List.cons_append, List.nil_append, Nat.reduceSub, Nat.reduceAdd, List.set, rb_ok, rb_exc, rb_bad, x_bind, x_pure, x_some, x_none, x_badM, x_c, x_e2, x_e1, x_tB, x_asB, chK_t, chK_f, x_eCh, pick_t, pick_f, x_andM, x_orM, x_notM, x_and, x_or, x_not, x_if, x_nil, x_cons, szL0, szL1, szL2, szL3, szL4, szL6, szL7, szL8, szL10, szT0, szT1, szT2, szT3, szT4, x_tup, x_nlst, x_call, x_ncall, x_oNone, x_oSome, x_asI, x_sl, x_flst, x_alloc, bk_ok, bk_exc, x_fun, x_funK, opt_some, x_fld, x_mt, x_meth, mkK_ok, mkK_exc, x_make, x_makeK, x_next, x_seq, th_nx, th_rt, th_bk, th_ct, th_exc, x_drop, x_sret, x_sif, x_set, asgK_some, x_asg, tg_tp, tg_nm, setAll_nil, setAll_cons, parK_ok, x_par, par3K_ok, x_par3, x_sub, x_sfld, x_for, x_iL, x_iT, x_asL, x_asT, x_iR1, x_iR2, x_nlc, raK_ok, x_raise, fin_rt, fin_nx, fin_exc, x_try, try_rt, ev0, ev1, ev2, ev3, ev4, ev5, ev6, ev7, ev8, ev9, ev10, ev11, ev12, ev13, ev14, k1, x_asB]
  cases subK t "int" with
  | false => rfl
  | true =>
    simp only [rb_ok, rb_exc, rb_bad, x_bind, x_pure, x_some, x_none, x_badM, x_c, x_e2, x_e1, x_tB, x_asB, chK_t, chK_f, x_eCh, pick_t, pick_f, x_andM, x_orM, x_notM, x_and, x_or, x_not, x_if, x_nil, x_cons, szL0, szL1, szL2, szL3, szL4, szL6, szL7, szL8, szL10, szT0, szT1, szT2, szT3, szT4, x_tup, x_nlst, x_call, x_ncall, x_oNone, x_oSome, x_asI, x_sl, x_flst, x_alloc, bk_ok, bk_exc, x_fun, x_funK, opt_some, x_fld, x_mt, x_meth, mkK_ok, mkK_exc, x_make, x_makeK, x_next, x_seq, th_nx, th_rt, th_bk, th_ct, th_exc, x_drop, x_sret, x_sif, x_set, asgK_some, x_asg, tg_tp, tg_nm, setAll_nil, setAll_cons, parK_ok, x_par, par3K_ok, x_par3, x_sub, x_sfld, x_for, x_iL, x_iT, x_asL, x_asT, x_iR1, x_iR2, x_nlc, raK_ok, x_raise, fin_rt, fin_nx, fin_exc, x_try, try_rt, ev0, ev1, ev2, ev3, ev4, ev5, ev6, ev7, ev8, ev9, ev10, ev11, ev12, ev13, ev14, k2, x_asB]
    rfl
/-- is d a whole number within? -/
def btw (d : D) (lo hi : Int) : Bool := match d with
  | .int i => decide (lo ≤ i) && decide (i ≤ hi)
  | _ => false
theorem isbtw_ok {ω : List OB} {d : D} {t : String} {lo hi : Int} (h : tyN ω d = some t) : F_is_between [d, .int lo, .int hi] ω = .ok (.bl (btw d lo hi)) [] ω := by
  simp only [F_is_between, m_is_between, startD, List.map, List.length, Nat.sub_self, List.replicate, List.append_nil, List.cons_append, List.nil_append, Nat.reduceSub, Nat.reduceAdd, List.set, rb_ok, rb_exc, rb_bad, x_bind, x_pure, x_some, x_none, x_badM, x_c, x_e2, x_e1, x_tB, x_asB, chK_t, chK_f, x_eCh, pick_t, pick_f, x_andM, x_orM, x_notM, x_and, x_or, x_not, x_if, x_nil, x_cons, szL0, szL1, szL2, szL3, szL4, szL6, szL7, szL8, szL10, szT0, szT1, szT2, szT3, szT4, x_tup, x_nlst, x_call, x_ncall, x_oNone, x_oSome, x_asI, x_sl, x_flst, x_alloc, bk_ok, bk_exc, x_fun, x_funK, opt_some, x_fld, x_mt, x_meth, mkK_ok, mkK_exc, x_make, x_makeK, x_next, x_seq, th_nx, th_rt, th_bk, th_ct, th_exc, x_drop, x_sret, x_sif, x_set, asgK_some, x_asg, tg_tp, tg_nm, setAll_nil, setAll_cons, parK_ok, x_par, par3K_ok, x_par3, x_sub, x_sfld, x_for, x_iL, x_iT, x_asL, x_asT, x_iR1, x_iR2, x_nlc, raK_ok, x_raise, fin_rt, fin_nx, fin_exc, x_try, try_rt, ev0, ev1, ev2, ev3, ev4, ev5, ev6, ev7, ev8, ev9, ev10, ev11, ev12, ev13, ev14, isint_ok h]
  cases d with
  | int i =>
    simp only [isInt, rb_ok, rb_exc, rb_bad, x_bind, x_pure, x_some, x_none, x_badM, x_c, x_e2, x_e1, x_tB, x_asB, chK_t, chK_f, x_eCh, pick_t, pick_f, x_andM, x_orM, x_notM, x_and, x_or, x_not, x_if, x_nil, x_cons, szL0, szL1, szL2, szL3, szL4, szL6, szL7, szL8, szL10, szT0, szT1, szT2, szT3, szT4, x_tup, x_nlst, x_call, x_ncall, x_oNone, x_oSome, x_asI, x_sl, x_flst, x_alloc, bk_ok, bk_exc, x_fun, x_funK, opt_some, x_fld, x_mt, x_meth, mkK_ok, mkK_exc, x_make, x_makeK, x_next, x_seq, th_nx, th_rt, th_bk, th_ct, th_exc, x_drop, x_sret, x_sif, x_set, asgK_some, x_asg, tg_tp, tg_nm, setAll_nil, setAll_cons, parK_ok, x_par, par3K_ok, x_par3, x_sub, x_sfld, x_for, x_iL, x_iT, x_asL, x_asT, x_iR1, x_iR2, x_nlc, raK_ok, x_raise, fin_rt, fin_nx, fin_exc, x_try, try_rt, ev0, ev1, ev2, ev3, ev4, ev5, ev6, ev7, ev8, ev9, ev10, ev11, ev12, ev13, ev14, DL.v_sub, DL.v_add, DL.v_lt, DL.v_le, DL.v_gt, DL.v_ge, DL.v_fdiv2, DL.v_neg, DL.v_abs, DL.v_int, DL.v_min2, DL.v_max2, DL.v_eqI, DL.v_neI, DL.v_eqB, DL.v_neB, DL.v_isN, DL.v_notN, DL.v_isB, DL.v_e0l, DL.vL_lst, DL.isS_some, DL.v_ixL, DL.v_ixS, DL.v_ixT, DL.atI_0, DL.atI_1, DL.atI_2, DL.atI_3, DL.atI_4, DL.atI_5, DL.v_lenL, DL.v_lenS, DL.v_lenT, DL.v_lenD, DL.v_sumL, DL.v_sumT, DL.v_tupL, DL.v_tupT, DL.v_listT, DL.v_listL, DL.v_slT, DL.v_slL, DL.v_slS, DL.i_ii, DL.i_ib, DL.i_is, DL.i_id, DL.i_il, DL.i_it, DL.i_bi, DL.i_bb, DL.i_bt, DL.i_ni, DL.i_nb, DL.i_nt, DL.i_si, DL.i_sb, DL.i_ss, DL.i_st, DL.i_li, DL.i_lb, DL.i_ls, DL.i_ld, DL.i_ll, DL.i_lt, DL.i_ti, DL.i_tb, DL.i_ts, DL.i_td, DL.i_tl, DL.i_tt, DL.i_di, DL.i_db, DL.i_ds, DL.i_dd, DL.i_dt, DL.x_rev, DL.isNonD, Option.bind]
    by_cases q : lo ≤ i
    · rw [decide_eq_true q]
      simp only [rb_ok, rb_exc, rb_bad, x_bind, x_pure, x_some, x_none, x_badM, x_c, x_e2, x_e1, x_tB, x_asB, chK_t, chK_f, x_eCh, pick_t, pick_f, x_andM, x_orM, x_notM, x_and, x_or, x_not, x_if, x_nil, x_cons, szL0, szL1, szL2, szL3, szL4, szL6, szL7, szL8, szL10, szT0, szT1, szT2, szT3, szT4, x_tup, x_nlst, x_call, x_ncall, x_oNone, x_oSome, x_asI, x_sl, x_flst, x_alloc, bk_ok, bk_exc, x_fun, x_funK, opt_some, x_fld, x_mt, x_meth, mkK_ok, mkK_exc, x_make, x_makeK, x_next, x_seq, th_nx, th_rt, th_bk, th_ct, th_exc, x_drop, x_sret, x_sif, x_set, asgK_some, x_asg, tg_tp, tg_nm, setAll_nil, setAll_cons, parK_ok, x_par, par3K_ok, x_par3, x_sub, x_sfld, x_for, x_iL, x_iT, x_asL, x_asT, x_iR1, x_iR2, x_nlc, raK_ok, x_raise, fin_rt, fin_nx, fin_exc, x_try, try_rt, ev0, ev1, ev2, ev3, ev4, ev5, ev6, ev7, ev8, ev9, ev10, ev11, ev12, ev13, ev14, DL.v_sub, DL.v_add, DL.v_lt, DL.v_le, DL.v_gt, DL.v_ge, DL.v_fdiv2, DL.v_neg, DL.v_abs, DL.v_int, DL.v_min2, DL.v_max2, DL.v_eqI, DL.v_neI, DL.v_eqB, DL.v_neB, DL.v_isN, DL.v_notN, DL.v_isB, DL.v_e0l, DL.vL_lst, DL.isS_some, DL.v_ixL, DL.v_ixS, DL.v_ixT, DL.atI_0, DL.atI_1, DL.atI_2, DL.atI_3, DL.atI_4, DL.atI_5, DL.v_lenL, DL.v_lenS, DL.v_lenT, DL.v_lenD, DL.v_sumL, DL.v_sumT, DL.v_tupL, DL.v_tupT, DL.v_listT, DL.v_listL, DL.v_slT, DL.v_slL, DL.v_slS, DL.i_ii, DL.i_ib, DL.i_is, DL.i_id, DL.i_il, DL.i_it, DL.i_bi, DL.i_bb, DL.i_bt, DL.i_ni, DL.i_nb, DL.i_nt, DL.i_si, DL.i_sb, DL.i_ss, DL.i_st, DL.i_li, DL.i_lb, DL.i_ls, DL.i_ld, DL.i_ll, DL.i_lt, DL.i_ti, DL.i_tb, DL.i_ts, DL.i_td, DL.i_tl, DL.i_tt, DL.i_di, DL.i_db, DL.i_ds, DL.i_dd, DL.i_dt, DL.x_rev, DL.isNonD, btw, decide_eq_true q, Bool.true_and]
    · rw [decide_eq_false q]
      simp only [rb_ok, rb_exc, rb_bad, x_bind, x_pure, x_some, x_none, x_badM, x_c, x_e2, x_e1, x_tB, x_asB, chK_t, chK_f, x_eCh, pick_t, pick_f, x_andM, x_orM, x_notM, x_and, x_or, x_not, x_if, x_nil, x_cons, szL0, szL1, szL2, szL3, szL4, szL6, szL7, szL8, szL10, szT0, szT1, szT2, szT3, szT4, x_tup, x_nlst, x_call, x_ncall, x_oNone, x_oSome, x_asI, x_sl, x_flst, x_alloc, bk_ok, bk_exc, x_fun, x_funK, opt_some, x_fld, x_mt, x_meth, mkK_ok, mkK_exc, x_make, x_makeK, x_next, x_seq, th_nx, th_rt, th_bk, th_ct, th_exc, x_drop, x_sret, x_sif, x_set, asgK_some, x_asg, tg_tp, tg_nm, setAll_nil, setAll_cons, parK_ok, x_par, par3K_ok, x_par3, x_sub, x_sfld, x_for, x_iL, x_iT, x_asL, x_asT, x_iR1, x_iR2, x_nlc, raK_ok, x_raise, fin_rt, fin_nx, fin_exc, x_try, try_rt, ev0, ev1, ev2, ev3, ev4, ev5, ev6, ev7, ev8, ev9, ev10, ev11, ev12, ev13, ev14, DL.v_sub, DL.v_add, DL.v_lt, DL.v_le, DL.v_gt, DL.v_ge, DL.v_fdiv2, DL.v_neg, DL.v_abs, DL.v_int, DL.v_min2, DL.v_max2, DL.v_eqI, DL.v_neI, DL.v_eqB, DL.v_neB, DL.v_isN, DL.v_notN, DL.v_isB, DL.v_e0l, DL.vL_lst, DL.isS_some, DL.v_ixL, DL.v_ixS, DL.v_ixT, DL.atI_0, DL.atI_1, DL.atI_2, DL.atI_3, DL.atI_4, DL.atI_5, DL.v_lenL, DL.v_lenS, DL.v_lenT, DL.v_lenD, DL.v_sumL, DL.v_sumT, DL.v_tupL, DL.v_tupT, DL.v_listT, DL.v_listL, DL.v_slT, DL.v_slL, DL.v_slS, DL.i_ii, DL.i_ib, DL.i_is, DL.i_id, DL.i_il, DL.i_it, DL.i_bi, DL.i_bb, DL.i_bt, DL.i_ni, DL.i_nb, DL.i_nt, DL.i_si, DL.i_sb, DL.i_ss, DL.i_st, DL.i_li, DL.i_lb, DL.i_ls, DL.i_ld, DL.i_ll, DL.i_lt, DL.i_ti, DL.i_tb, DL.i_ts, DL.i_td, DL.i_tl, DL.i_tt, DL.i_di, DL.i_db, DL.i_ds, DL.i_dd, DL.i_dt, DL.x_rev, DL.isNonD, btw, decide_eq_false q, Bool.false_and]
  | _ => rfl

/-! ### versions -/
def vf (n kt tp pa : Nat) : List (Str × D) := [("size", .int n), ("kept", .obj kt), ("tops", .obj tp), ("parents", .obj pa)]
theorem vf_size {n kt tp pa : Nat} : (vf n kt tp pa).lookup ("size" : Str) = some (D.int n) := by rfl
theorem vf_kept {n kt tp pa : Nat} : (vf n kt tp pa).lookup ("kept" : Str) = some (D.obj kt) := by rfl
theorem vf_tops {n kt tp pa : Nat} : (vf n kt tp pa).lookup ("tops" : Str) = some (D.obj tp) := by rfl
theorem vf_parents {n kt tp pa : Nat} : (vf n kt tp pa).lookup ("parents" : Str) = some (D.obj pa) := by rfl
theorem vf_no {n kt tp pa : Nat} {m : Str} (h : m ∈ (["keep", "grow", "check_version", "way_to", "change", "items", "row", "total", "parent", "unlike", "nodes"] : List Str)) : (vf n kt tp pa).lookup m = none := by
  have key : ∀ m ∈ (["keep", "grow", "check_version", "way_to", "change", "items", "row", "total", "parent", "unlike", "nodes"] : List Str), (m == ("size" : Str)) = false ∧ (m == ("kept" : Str)) = false ∧ (m == ("tops" : Str)) = false ∧ (m == ("parents" : Str)) = false := by decide +kernel
  obtain ⟨h1, h2, h3, h4⟩ := key m h
  simp only [vf, List.lookup, h1, h2, h3, h4]
structure VS (C : Addr) (v kt tp pa n : Nat) (N : List Nd) (T : List Nat) (P : List D) (ω : List OB) : Prop where
  hv : ω[v]? = some (.ins C (vf n kt tp pa))
  hk : ω[kt]? = some (.lst (N.map ndD))
  ht : ω[tp]? = some (.lst (T.map fun a : Nat => D.int a))
  hp : ω[pa]? = some (.lst P)
  d1 : kt ≠ tp
  d2 : kt ≠ pa
  d3 : tp ≠ pa
  ln : N.length < 5000
  lt : T.length ≤ 100
  lp : P.length = T.length
theorem VS.ext {C : Addr} {v kt tp pa n : Nat} {N : List Nd} {T : List Nat} {P : List D} {ω ω' : List OB} {L : List Nat} (h : VS C v kt tp pa n N T P ω) (e : Ext L ω ω') (a : v ∉ L ∧ kt ∉ L ∧ tp ∉ L ∧ pa ∉ L) : VS C v kt tp pa n N T P ω' :=
  ⟨e.at h.hv a.1, e.at h.hk a.2.1, e.at h.ht a.2.2.1, e.at h.hp a.2.2.2, h.d1, h.d2, h.d3, h.ln, h.lt, h.lp⟩
theorem VS.app {C : Addr} {v kt tp pa n : Nat} {N : List Nd} {T : List Nat} {P : List D} {ω J : List OB} (h : VS C v kt tp pa n N T P ω) : VS C v kt tp pa n N T P (ω ++ J) := h.ext (L := []) Ext.app ⟨by simp, by simp, by simp, by simp⟩
section
variable {C : Addr} {v kt tp pa n : Nat} {N : List Nd} {T : List Nat} {P : List D} {ω : List OB}
theorem T_len (T : List Nat) : (T.map fun a : Nat => D.int a).length = T.length := List.length_map _
theorem check_ok (s : VS C v kt tp pa n N T P ω) {d : D} {t : String} (h : tyN ω d = some t) (b : btw d 0 ((T.length : Int) - 1) = true) : F_Versions_check_version C [.obj v, d] ω = .ok .non [] ω := by
  simp only [F_Versions_check_version, m_Versions_check_version, startD, List.map, List.length, Nat.sub_self, List.replicate, List.append_nil, List.cons_append, List.nil_append, Nat.reduceSub, Nat.reduceAdd, List.set, rb_ok, rb_exc, rb_bad, x_bind, x_pure, x_some, x_none, x_badM, x_c, x_e2, x_e1, x_tB, x_asB, chK_t, chK_f, x_eCh, pick_t, pick_f, x_andM, x_orM, x_notM, x_and, x_or, x_not, x_if, x_nil, x_cons, szL0, szL1, szL2, szL3, szL4, szL6, szL7, szL8, szL10, szT0, szT1, szT2, szT3, szT4, x_tup, x_nlst, x_call, x_ncall, x_oNone, x_oSome, x_asI, x_sl, x_flst, x_alloc, bk_ok, bk_exc, x_fun, x_funK, opt_some, x_fld, x_mt, x_meth, mkK_ok, mkK_exc, x_make, x_makeK, x_next, x_seq, th_nx, th_rt, th_bk, th_ct, th_exc, x_drop, x_sret, x_sif, x_set, asgK_some, x_asg, tg_tp, tg_nm, setAll_nil, setAll_cons, parK_ok, x_par, par3K_ok, x_par3, x_sub, x_sfld, x_for, x_iL, x_iT, x_asL, x_asT, x_iR1, x_iR2, x_nlc, raK_ok, x_raise, fin_rt, fin_nx, fin_exc, x_try, try_rt, ev0, ev1, ev2, ev3, ev4, ev5, ev6, ev7, ev8, ev9, ev10, ev11, ev12, ev13, ev14, DL.v_sub, DL.v_add, DL.v_lt, DL.v_le, DL.v_gt, DL.v_ge, DL.v_fdiv2, DL.v_neg, DL.v_abs, DL.v_int, DL.v_min2, DL.v_max2, DL.v_eqI, DL.v_neI, DL.v_eqB, DL.v_neB, DL.v_isN, DL.v_notN, DL.v_isB, DL.v_e0l, DL.vL_lst, DL.isS_some, DL.v_ixL, DL.v_ixS, DL.v_ixT, DL.atI_0, DL.atI_1, DL.atI_2, DL.atI_3, DL.atI_4, DL.atI_5, DL.v_lenL, DL.v_lenS, DL.v_lenT, DL.v_lenD, DL.v_sumL, DL.v_sumT, DL.v_tupL, DL.v_tupT, DL.v_listT, DL.v_listL, DL.v_slT, DL.v_slL, DL.v_slS, DL.i_ii, DL.i_ib, DL.i_is, DL.i_id, DL.i_il, DL.i_it, DL.i_bi, DL.i_bb, DL.i_bt, DL.i_ni, DL.i_nb, DL.i_nt, DL.i_si, DL.i_sb, DL.i_ss, DL.i_st, DL.i_li, DL.i_lb, DL.i_ls, DL.i_ld, DL.i_ll, DL.i_lt, DL.i_ti, DL.i_tb, DL.i_ts, DL.i_td, DL.i_tl, DL.i_tt, DL.i_di, DL.i_db, DL.i_ds, DL.i_dd, DL.i_dt, DL.x_rev, DL.isNonD, fld_ok s.hv vf_tops, DL.v_lenO s.ht, T_len, isbtw_ok h, b, Bool.not_true]
theorem check_no (s : VS C v kt tp pa n N T P ω) {d : D} {t : String} (h : tyN ω d = some t) (b : btw d 0 ((T.length : Int) - 1) = false) : F_Versions_check_version C [.obj v, d] ω = .exc ⟨"InvalidVersion", [("given", d)]⟩ [] ω := by
  simp only [F_Versions_check_version, m_Versions_check_version, startD, List.map, List.length, Nat.sub_self, List.replicate, List.append_nil, List.cons_append, List.nil_append, Nat.reduceSub, Nat.reduceAdd, List.set, rb_ok, rb_exc, rb_bad, x_bind, x_pure, x_some, x_none, x_badM, x_c, x_e2, x_e1, x_tB, x_asB, chK_t, chK_f, x_eCh, pick_t, pick_f, x_andM, x_orM, x_notM, x_and, x_or, x_not, x_if, x_nil, x_cons, szL0, szL1, szL2, szL3, szL4, szL6, szL7, szL8, szL10, szT0, szT1, szT2, szT3, szT4, x_tup, x_nlst, x_call, x_ncall, x_oNone, x_oSome, x_asI, x_sl, x_flst, x_alloc, bk_ok, bk_exc, x_fun, x_funK, opt_some, x_fld, x_mt, x_meth, mkK_ok, mkK_exc, x_make, x_makeK, x_next, x_seq, th_nx, th_rt, th_bk, th_ct, th_exc, x_drop, x_sret, x_sif, x_set, asgK_some, x_asg, tg_tp, tg_nm, setAll_nil, setAll_cons, parK_ok, x_par, par3K_ok, x_par3, x_sub, x_sfld, x_for, x_iL, x_iT, x_asL, x_asT, x_iR1, x_iR2, x_nlc, raK_ok, x_raise, fin_rt, fin_nx, fin_exc, x_try, try_rt, ev0, ev1, ev2, ev3, ev4, ev5, ev6, ev7, ev8, ev9, ev10, ev11, ev12, ev13, ev14, DL.v_sub, DL.v_add, DL.v_lt, DL.v_le, DL.v_gt, DL.v_ge, DL.v_fdiv2, DL.v_neg, DL.v_abs, DL.v_int, DL.v_min2, DL.v_max2, DL.v_eqI, DL.v_neI, DL.v_eqB, DL.v_neB, DL.v_isN, DL.v_notN, DL.v_isB, DL.v_e0l, DL.vL_lst, DL.isS_some, DL.v_ixL, DL.v_ixS, DL.v_ixT, DL.atI_0, DL.atI_1, DL.atI_2, DL.atI_3, DL.atI_4, DL.atI_5, DL.v_lenL, DL.v_lenS, DL.v_lenT, DL.v_lenD, DL.v_sumL, DL.v_sumT, DL.v_tupL, DL.v_tupT, DL.v_listT, DL.v_listL, DL.v_slT, DL.v_slL, DL.v_slS, DL.i_ii, DL.i_ib, DL.i_is, DL.i_id, DL.i_il, DL.i_it, DL.i_bi, DL.i_bb, DL.i_bt, DL.i_ni, DL.i_nb, DL.i_nt, DL.i_si, DL.i_sb, DL.i_ss, DL.i_st, DL.i_li, DL.i_lb, DL.i_ls, DL.i_ld, DL.i_ll, DL.i_lt, DL.i_ti, DL.i_tb, DL.i_ts, DL.i_td, DL.i_tl, DL.i_tt, DL.i_di, DL.i_db, DL.i_ds, DL.i_dd, DL.i_dt, DL.x_rev, DL.isNonD, fld_ok s.hv vf_tops, DL.v_lenO s.ht, T_len, isbtw_ok h, b, Bool.not_false]
theorem btw_nat {i m : Nat} (h : i < m) : btw (.int i) 0 ((m : Int) - 1) = true := by
  show (decide ((0 : Int) ≤ i) && decide ((i : Int) ≤ (m : Int) - 1)) = true
  rw [decide_eq_true (by omega), decide_eq_true (by omega)]
  rfl
theorem nodes_ok (s : VS C v kt tp pa n N T P ω) : F_Versions_nodes C [.obj v] ω = .ok (.int N.length) [] ω := by
  simp only [F_Versions_nodes, m_Versions_nodes, startD, List.map, List.length, Nat.sub_self, List.replicate, List.append_nil, List.cons_append, List.nil_append, Nat.reduceSub, Nat.reduceAdd, List.set, rb_ok, rb_exc, rb_bad, x_bind, x_pure, x_some, x_none, x_badM, x_c, x_e2, x_e1, x_tB, x_asB, chK_t, chK_f, x_eCh, pick_t, pick_f, x_andM, x_orM, x_notM, x_and, x_or, x_not, x_if, x_nil, x_cons, szL0, szL1, szL2, szL3, szL4, szL6, szL7, szL8, szL10, szT0, szT1, szT2, szT3, szT4, x_tup, x_nlst, x_call, x_ncall, x_oNone, x_oSome, x_asI, x_sl, x_flst, x_alloc, bk_ok, bk_exc, x_fun, x_funK, opt_some, x_fld, x_mt, x_meth, mkK_ok, mkK_exc, x_make, x_makeK, x_next, x_seq, th_nx, th_rt, th_bk, th_ct, th_exc, x_drop, x_sret, x_sif, x_set, asgK_some, x_asg, tg_tp, tg_nm, setAll_nil, setAll_cons, parK_ok, x_par, par3K_ok, x_par3, x_sub, x_sfld, x_for, x_iL, x_iT, x_asL, x_asT, x_iR1, x_iR2, x_nlc, raK_ok, x_raise, fin_rt, fin_nx, fin_exc, x_try, try_rt, ev0, ev1, ev2, ev3, ev4, ev5, ev6, ev7, ev8, ev9, ev10, ev11, ev12, ev13, ev14, DL.v_sub, DL.v_add, DL.v_lt, DL.v_le, DL.v_gt, DL.v_ge, DL.v_fdiv2, DL.v_neg, DL.v_abs, DL.v_int, DL.v_min2, DL.v_max2, DL.v_eqI, DL.v_neI, DL.v_eqB, DL.v_neB, DL.v_isN, DL.v_notN, DL.v_isB, DL.v_e0l, DL.vL_lst, DL.isS_some, DL.v_ixL, DL.v_ixS, DL.v_ixT, DL.atI_0, DL.atI_1, DL.atI_2, DL.atI_3, DL.atI_4, DL.atI_5, DL.v_lenL, DL.v_lenS, DL.v_lenT, DL.v_lenD, DL.v_sumL, DL.v_sumT, DL.v_tupL, DL.v_tupT, DL.v_listT, DL.v_listL, DL.v_slT, DL.v_slL, DL.v_slS, DL.i_ii, DL.i_ib, DL.i_is, DL.i_id, DL.i_il, DL.i_it, DL.i_bi, DL.i_bb, DL.i_bt, DL.i_ni, DL.i_nb, DL.i_nt, DL.i_si, DL.i_sb, DL.i_ss, DL.i_st, DL.i_li, DL.i_lb, DL.i_ls, DL.i_ld, DL.i_ll, DL.i_lt, DL.i_ti, DL.i_tb, DL.i_ts, DL.i_td, DL.i_tl, DL.i_tt, DL.i_di, DL.i_db, DL.i_ds, DL.i_dd, DL.i_dt, DL.x_rev, DL.isNonD, fld_ok s.hv vf_kept, DL.v_lenO s.hk, ndD_len]
theorem parent_ok (s : VS C v kt tp pa n N T P ω) {i : Nat} (hi : i < T.length) {p : D} (hp : P[i]? = some p) : F_Versions_parent C [.obj v, .int i] ω = .ok p [] ω := by
  have hc := check_ok s (d := .int i) rfl (btw_nat hi)
  simp only [F_Versions_parent, m_Versions_parent, startD, List.map, List.length, Nat.sub_self, List.replicate, List.append_nil, List.cons_append, List.nil_append, Nat.reduceSub, Nat.reduceAdd, List.set, rb_ok, rb_exc, rb_bad, x_bind, x_pure, x_some, x_none, x_badM, x_c, x_e2, x_e1, x_tB, x_asB, chK_t, chK_f, x_eCh, pick_t, pick_f, x_andM, x_orM, x_notM, x_and, x_or, x_not, x_if, x_nil, x_cons, szL0, szL1, szL2, szL3, szL4, szL6, szL7, szL8, szL10, szT0, szT1, szT2, szT3, szT4, x_tup, x_nlst, x_call, x_ncall, x_oNone, x_oSome, x_asI, x_sl, x_flst, x_alloc, bk_ok, bk_exc, x_fun, x_funK, opt_some, x_fld, x_mt, x_meth, mkK_ok, mkK_exc, x_make, x_makeK, x_next, x_seq, th_nx, th_rt, th_bk, th_ct, th_exc, x_drop, x_sret, x_sif, x_set, asgK_some, x_asg, tg_tp, tg_nm, setAll_nil, setAll_cons, parK_ok, x_par, par3K_ok, x_par3, x_sub, x_sfld, x_for, x_iL, x_iT, x_asL, x_asT, x_iR1, x_iR2, x_nlc, raK_ok, x_raise, fin_rt, fin_nx, fin_exc, x_try, try_rt, ev0, ev1, ev2, ev3, ev4, ev5, ev6, ev7, ev8, ev9, ev10, ev11, ev12, ev13, ev14, DL.v_sub, DL.v_add, DL.v_lt, DL.v_le, DL.v_gt, DL.v_ge, DL.v_fdiv2, DL.v_neg, DL.v_abs, DL.v_int, DL.v_min2, DL.v_max2, DL.v_eqI, DL.v_neI, DL.v_eqB, DL.v_neB, DL.v_isN, DL.v_notN, DL.v_isB, DL.v_e0l, DL.vL_lst, DL.isS_some, DL.v_ixL, DL.v_ixS, DL.v_ixT, DL.atI_0, DL.atI_1, DL.atI_2, DL.atI_3, DL.atI_4, DL.atI_5, DL.v_lenL, DL.v_lenS, DL.v_lenT, DL.v_lenD, DL.v_sumL, DL.v_sumT, DL.v_tupL, DL.v_tupT, DL.v_listT, DL.v_listL, DL.v_slT, DL.v_slL, DL.v_slS, DL.i_ii, DL.i_ib, DL.i_is, DL.i_id, DL.i_il, DL.i_it, DL.i_bi, DL.i_bb, DL.i_bt, DL.i_ni, DL.i_nb, DL.i_nt, DL.i_si, DL.i_sb, DL.i_ss, DL.i_st, DL.i_li, DL.i_lb, DL.i_ls, DL.i_ld, DL.i_ll, DL.i_lt, DL.i_ti, DL.i_tb, DL.i_ts, DL.i_td, DL.i_tl, DL.i_tt, DL.i_di, DL.i_db, DL.i_ds, DL.i_dd, DL.i_dt, DL.x_rev, DL.isNonD, isI_ok s.hv (vf_no (m := "check_version") (by decide +kernel)), hc, fld_ok s.hv vf_parents, DL.v_ixO s.hp, DL.atI_nat hp]
end
end K80

set_option Elab.async false
set_option linter.all false
set_option maxRecDepth 100000
set_option maxHeartbeats 2000000
namespace K80
open PySem PySem.Spec PyProof.Rows L2 DL

/-! ### the way to an item -/
inductive Path (N : List Nd) (i : Nat) : Nat → Nat → Nat → List (Nat × Bool) → Prop
  | nil {a lo : Nat} : Path N i a lo (lo + 1) []
  | right {a lo hi l r : Nat} {t : Int} {ps} : lo + 1 < hi → N[a]? = some (t, some (l, r)) → (lo + hi) / 2 ≤ i → Path N i r ((lo + hi) / 2) hi ps → Path N i a lo hi ((a, true) :: ps)
  | left {a lo hi l r : Nat} {t : Int} {ps} : lo + 1 < hi → N[a]? = some (t, some (l, r)) → i < (lo + hi) / 2 → Path N i l lo ((lo + hi) / 2) ps → Path N i a lo hi ((a, false) :: ps)
theorem Path.ex {N : List Nd} {f : Nat → Int} {i a lo hi : Nat} (h : Tr N f a lo hi) : lo ≤ i → i < hi → ∃ ps, Path N i a lo hi ps := by
  induction h with
  | leaf _ => exact fun _ _ => ⟨[], .nil⟩
  | @node a lo hi l r hh e _ _ i1 i2 =>
    intro h1 h2
    by_cases hm : (lo + hi) / 2 ≤ i
    · obtain ⟨ps, p⟩ := i2 hm h2
      exact ⟨_, .right hh e hm p⟩
    · obtain ⟨ps, p⟩ := i1 h1 (by omega)
      exact ⟨_, .left hh e (by omega) p⟩
def pwD (p : Nat × Bool) : D := .tup [.int p.1, .bl p.2]
/-- as many digits as n has -/
def digits : Nat → Nat
  | 0 => 0
  | n + 1 => digits ((n + 1) / 2) + 1
theorem Path.len {N : List Nd} {i a lo hi : Nat} {ps : List (Nat × Bool)} (h : Path N i a lo hi ps) : ∀ k, hi - lo ≤ 2 ^ k → ps.length ≤ k := by
  induction h with
  | nil => intro k _; exact Nat.zero_le _
  | @right a lo hi l r t ps h1 _ h2 _ ih =>
    intro k hk
    cases k with
    | zero => have : hi - lo ≤ 1 := hk; omega
    | succ k =>
      have hp : 2 ^ (k + 1) = 2 * 2 ^ k := by rw [Nat.pow_succ]; omega
      have := ih k (by omega)
      simp
      omega
  | @left a lo hi l r t ps h1 _ h2 _ ih =>
    intro k hk
    cases k with
    | zero => have : hi - lo ≤ 1 := hk; omega
    | succ k =>
      have hp : 2 ^ (k + 1) = 2 * 2 ^ k := by rw [Nat.pow_succ]; omega
      have := ih k (by omega)
      simp
      omega
section
variable {C : Addr} {v kt tp pa n : Nat} {N : List Nd} {T : List Nat} {P : List D} {ω : List OB}
theorem new_set {ω : List OB} {x y : OB} : (ω ++ [x]).set ω.length y = ω ++ [y] := by
  rw [List.set_append_right _ _ (Nat.le_refl _)]
  simp
theorem tup_ix0 {ω : List OB} {t : Int} {o : Option (Nat × Nat)} : oIx ω (ndD (t, o)) (.int 0) = some (.int t) := by cases o <;> rfl
theorem tup_ix1 {ω : List OB} {t : Int} {l r : Nat} : oIx ω (ndD (t, some (l, r))) (.int 1) = some (.int l) := rfl
theorem tup_ix2 {ω : List OB} {t : Int} {l r : Nat} : oIx ω (ndD (t, some (l, r))) (.int 2) = some (.int r) := rfl
theorem way_ok (s : VS C v kt tp pa n N T P ω) {j i a : Nat} (hT : T[j]? = some a) {ps : List (Nat × Bool)} (hp : Path N i a 0 n ps) (hl : ps.length ≤ 40) :
    F_Versions_way_to C [.obj v, .int j, .int i] ω = .ok (.obj ω.length) [] (ω ++ [.lst (ps.map pwD)]) := by
  have hTd : (T.map fun a : Nat => D.int a)[j]? = some (.int a) := by rw [List.getElem?_map, hT]; rfl
  have s0 : ∀ xs, VS C v kt tp pa n N T P (ω ++ [.lst xs]) := fun xs => s.app
  have key : ∀ (k : Nat) (γ : List SD) (ω' : List OB), (∃ (pre suf : List (Nat × Bool)) (b lo hi : Nat) (x7 : SD), k = suf.length ∧ ps = pre ++ suf ∧ Path N i b lo hi suf ∧ γ = [.dat (.obj v), .dat (.int j), .dat (.int i), .dat (.obj ω.length), .dat (.int b), .dat (.int lo), .dat (.int hi), x7] ∧ ω' = ω ++ [.lst (pre.map pwD)]) →
      (wc_Versions_way_to_1 C γ ω' = .ok false γ ω' ∧ ∃ b lo hi x7, γ = [.dat (.obj v), .dat (.int j), .dat (.int i), .dat (.obj ω.length), b, lo, hi, x7] ∧ ω' = ω ++ [.lst (ps.map pwD)]) ∨
      (wc_Versions_way_to_1 C γ ω' = .ok true γ ω' ∧ ∃ γ2 ω2 k', wb_Versions_way_to_1 C γ ω' = .ok .nx γ2 ω2 ∧ k' < k ∧
        ∃ (pre suf : List (Nat × Bool)) (b lo hi : Nat) (x7 : SD), k' = suf.length ∧ ps = pre ++ suf ∧ Path N i b lo hi suf ∧ γ2 = [.dat (.obj v), .dat (.int j), .dat (.int i), .dat (.obj ω.length), .dat (.int b), .dat (.int lo), .dat (.int hi), x7] ∧ ω2 = ω ++ [.lst (pre.map pwD)]) := by
    rintro k γ ω' ⟨pre, suf, b, lo, hi, x7, rfl, e, p, rfl, rfl⟩
    have sN := s0 (pre.map pwD)
    have snoc : ∀ q : Nat × Bool, pre.map pwD ++ [pwD q] = (pre ++ [q]).map pwD := fun q => by simp
    have hlen : (pre.map pwD).length < 1000000 := by
      have := congrArg List.length e
      rw [List.length_append] at this
      rw [List.length_map]
      omega
    have app : ∀ (q : Nat × Bool) (γ : List SD), mtK mAppend (.obj ω.length) [.tup [.int q.1, .bl q.2]] γ (ω ++ [.lst (pre.map pwD)]) = .ok .non γ (ω ++ [.lst ((pre ++ [q]).map pwD)]) := fun q γ => by
      rw [m_app new_at hlen, new_set, show D.tup [D.int q.1, D.bl q.2] = pwD q from rfl, snoc]
    have lst : ∀ q : Nat × Bool, atI ((pre ++ [q]).map pwD) (-1) = some (.tup [.int q.1, .bl q.2]) := fun q => by rw [← snoc]; exact atI_last
    cases p with
    | @nil _ lo =>
      left
      have hc : decide ((1 : Int) < ((lo + 1 : Nat) : Int) - (lo : Int)) = false := decide_eq_false (by omega)
      refine ⟨by simp only [wc_Versions_way_to_1, startD, List.map, List.length, Nat.sub_self, List.replicate, List.append_nil, List.cons_append, List.nil_append, Nat.reduceSub, Nat.reduceAdd, List.set, rb_ok, rb_exc, rb_bad, x_bind, x_pure, x_some, x_none, x_badM, x_c, x_e2, x_e1, x_tB, x_asB, chK_t, chK_f, x_eCh, pick_t, pick_f, x_andM, x_orM, x_notM, x_and, x_or, x_not, x_if, x_nil, x_cons, szL0, szL1, szL2, szL3, szL4, szL6, szL7, szL8, szL10, szT0, szT1, szT2, szT3, szT4, x_tup, x_nlst, x_call, x_ncall, x_oNone, x_oSome, x_asI, x_sl, x_flst, x_alloc, bk_ok, bk_exc, x_fun, x_funK, opt_some, x_fld, x_mt, x_meth, mkK_ok, mkK_exc, x_make, x_makeK, x_next, x_seq, th_nx, th_rt, th_bk, th_ct, th_exc, x_drop, x_sret, x_sif, x_set, asgK_some, x_asg, tg_tp, tg_nm, setAll_nil, setAll_cons, parK_ok, x_par, par3K_ok, x_par3, x_sub, x_sfld, x_for, x_iL, x_iT, x_asL, x_asT, x_iR1, x_iR2, x_nlc, raK_ok, x_raise, fin_rt, fin_nx, fin_exc, x_try, try_rt, ev0, ev1, ev2, ev3, ev4, ev5, ev6, ev7, ev8, ev9, ev10, ev11, ev12, ev13, ev14, DL.v_sub, DL.v_add, DL.v_lt, DL.v_le, DL.v_gt, DL.v_ge, DL.v_fdiv2, DL.v_neg, DL.v_abs, DL.v_int, DL.v_min2, DL.v_max2, DL.v_eqI, DL.v_neI, DL.v_eqB, DL.v_neB, DL.v_isN, DL.v_notN, DL.v_isB, DL.v_e0l, DL.vL_lst, DL.isS_some, DL.v_ixL, DL.v_ixS, DL.v_ixT, DL.atI_0, DL.atI_1, DL.atI_2, DL.atI_3, DL.atI_4, DL.atI_5, DL.v_lenL, DL.v_lenS, DL.v_lenT, DL.v_lenD, DL.v_sumL, DL.v_sumT, DL.v_tupL, DL.v_tupT, DL.v_listT, DL.v_listL, DL.v_slT, DL.v_slL, DL.v_slS, DL.i_ii, DL.i_ib, DL.i_is, DL.i_id, DL.i_il, DL.i_it, DL.i_bi, DL.i_bb, DL.i_bt, DL.i_ni, DL.i_nb, DL.i_nt, DL.i_si, DL.i_sb, DL.i_ss, DL.i_st, DL.i_li, DL.i_lb, DL.i_ls, DL.i_ld, DL.i_ll, DL.i_lt, DL.i_ti, DL.i_tb, DL.i_ts, DL.i_td, DL.i_tl, DL.i_tt, DL.i_di, DL.i_db, DL.i_ds, DL.i_dd, DL.i_dt, DL.x_rev, DL.isNonD, hc], _, _, _, _, rfl, by rw [e]; simp⟩
    | @right _ _ _ l r t suf h1 h2 h3 p =>
      right
      have hc : decide ((1 : Int) < (hi : Int) - (lo : Int)) = true := decide_eq_true (by omega)
      have hg : decide ((((lo + hi) / 2 : Nat) : Int) ≤ (i : Int)) = true := decide_eq_true (by omega)
      have sM := s0 ((pre ++ [(b, true)]).map pwD)
      have a1 := app (b, true)
      have l1 := lst (b, true)
      refine ⟨by simp only [wc_Versions_way_to_1, startD, List.map, List.length, Nat.sub_self, List.replicate, List.append_nil, List.cons_append, List.nil_append, Nat.reduceSub, Nat.reduceAdd, List.set, rb_ok, rb_exc, rb_bad, x_bind, x_pure, x_some, x_none, x_badM, x_c, x_e2, x_e1, x_tB, x_asB, chK_t, chK_f, x_eCh, pick_t, pick_f, x_andM, x_orM, x_notM, x_and, x_or, x_not, x_if, x_nil, x_cons, szL0, szL1, szL2, szL3, szL4, szL6, szL7, szL8, szL10, szT0, szT1, szT2, szT3, szT4, x_tup, x_nlst, x_call, x_ncall, x_oNone, x_oSome, x_asI, x_sl, x_flst, x_alloc, bk_ok, bk_exc, x_fun, x_funK, opt_some, x_fld, x_mt, x_meth, mkK_ok, mkK_exc, x_make, x_makeK, x_next, x_seq, th_nx, th_rt, th_bk, th_ct, th_exc, x_drop, x_sret, x_sif, x_set, asgK_some, x_asg, tg_tp, tg_nm, setAll_nil, setAll_cons, parK_ok, x_par, par3K_ok, x_par3, x_sub, x_sfld, x_for, x_iL, x_iT, x_asL, x_asT, x_iR1, x_iR2, x_nlc, raK_ok, x_raise, fin_rt, fin_nx, fin_exc, x_try, try_rt, ev0, ev1, ev2, ev3, ev4, ev5, ev6, ev7, ev8, ev9, ev10, ev11, ev12, ev13, ev14, DL.v_sub, DL.v_add, DL.v_lt, DL.v_le, DL.v_gt, DL.v_ge, DL.v_fdiv2, DL.v_neg, DL.v_abs, DL.v_int, DL.v_min2, DL.v_max2, DL.v_eqI, DL.v_neI, DL.v_eqB, DL.v_neB, DL.v_isN, DL.v_notN, DL.v_isB, DL.v_e0l, DL.vL_lst, DL.isS_some, DL.v_ixL, DL.v_ixS, DL.v_ixT, DL.atI_0, DL.atI_1, DL.atI_2, DL.atI_3, DL.atI_4, DL.atI_5, DL.v_lenL, DL.v_lenS, DL.v_lenT, DL.v_lenD, DL.v_sumL, DL.v_sumT, DL.v_tupL, DL.v_tupT, DL.v_listT, DL.v_listL, DL.v_slT, DL.v_slL, DL.v_slS, DL.i_ii, DL.i_ib, DL.i_is, DL.i_id, DL.i_il, DL.i_it, DL.i_bi, DL.i_bb, DL.i_bt, DL.i_ni, DL.i_nb, DL.i_nt, DL.i_si, DL.i_sb, DL.i_ss, DL.i_st, DL.i_li, DL.i_lb, DL.i_ls, DL.i_ld, DL.i_ll, DL.i_lt, DL.i_ti, DL.i_tb, DL.i_ts, DL.i_td, DL.i_tl, DL.i_tt, DL.i_di, DL.i_db, DL.i_ds, DL.i_dd, DL.i_dt, DL.x_rev, DL.isNonD, hc], [.dat (.obj v), .dat (.int j), .dat (.int i), .dat (.obj ω.length), .dat (.int r), .dat (.int ((lo + hi) / 2 : Nat)), .dat (.int hi), .dat (.int ((lo + hi) / 2 : Nat))], ω ++ [.lst ((pre ++ [(b, true)]).map pwD)], suf.length, ?_, by simp, pre ++ [(b, true)], suf, r, (lo + hi) / 2, hi, _, rfl, by rw [e]; simp, p, rfl, rfl⟩
      simp only [wb_Versions_way_to_1, startD, List.map, List.length, Nat.sub_self, List.replicate, List.append_nil, List.cons_append, List.nil_append, Nat.reduceSub, Nat.reduceAdd, List.set, rb_ok, rb_exc, rb_bad, x_bind, x_pure, x_some, x_none, x_badM, x_c, x_e2, x_e1, x_tB, x_asB, chK_t, chK_f, x_eCh, pick_t, pick_f, x_andM, x_orM, x_notM, x_and, x_or, x_not, x_if, x_nil, x_cons, szL0, szL1, szL2, szL3, szL4, szL6, szL7, szL8, szL10, szT0, szT1, szT2, szT3, szT4, x_tup, x_nlst, x_call, x_ncall, x_oNone, x_oSome, x_asI, x_sl, x_flst, x_alloc, bk_ok, bk_exc, x_fun, x_funK, opt_some, x_fld, x_mt, x_meth, mkK_ok, mkK_exc, x_make, x_makeK, x_next, x_seq, th_nx, th_rt, th_bk, th_ct, th_exc, x_drop, x_sret, x_sif, x_set, asgK_some, x_asg, tg_tp, tg_nm, setAll_nil, setAll_cons, parK_ok, x_par, par3K_ok, x_par3, x_sub, x_sfld, x_for, x_iL, x_iT, x_asL, x_asT, x_iR1, x_iR2, x_nlc, raK_ok, x_raise, fin_rt, fin_nx, fin_exc, x_try, try_rt, ev0, ev1, ev2, ev3, ev4, ev5, ev6, ev7, ev8, ev9, ev10, ev11, ev12, ev13, ev14, DL.v_sub, DL.v_add, DL.v_lt, DL.v_le, DL.v_gt, DL.v_ge, DL.v_fdiv2, DL.v_neg, DL.v_abs, DL.v_int, DL.v_min2, DL.v_max2, DL.v_eqI, DL.v_neI, DL.v_eqB, DL.v_neB, DL.v_isN, DL.v_notN, DL.v_isB, DL.v_e0l, DL.vL_lst, DL.isS_some, DL.v_ixL, DL.v_ixS, DL.v_ixT, DL.atI_0, DL.atI_1, DL.atI_2, DL.atI_3, DL.atI_4, DL.atI_5, DL.v_lenL, DL.v_lenS, DL.v_lenT, DL.v_lenD, DL.v_sumL, DL.v_sumT, DL.v_tupL, DL.v_tupT, DL.v_listT, DL.v_listL, DL.v_slT, DL.v_slL, DL.v_slS, DL.i_ii, DL.i_ib, DL.i_is, DL.i_id, DL.i_il, DL.i_it, DL.i_bi, DL.i_bb, DL.i_bt, DL.i_ni, DL.i_nb, DL.i_nt, DL.i_si, DL.i_sb, DL.i_ss, DL.i_st, DL.i_li, DL.i_lb, DL.i_ls, DL.i_ld, DL.i_ll, DL.i_lt, DL.i_ti, DL.i_tb, DL.i_ts, DL.i_td, DL.i_tl, DL.i_tt, DL.i_di, DL.i_db, DL.i_ds, DL.i_dd, DL.i_dt, DL.x_rev, DL.isNonD, half, hg, vL_obj new_at, a1, DL.v_ixO new_at, l1, fld_ok sM.hv vf_kept, DL.v_ixO sM.hk, DL.atI_nat (nd_at h2), tup_ix2]
    | @left _ _ _ l r t suf h1 h2 h3 p =>
      right
      have hc : decide ((1 : Int) < (hi : Int) - (lo : Int)) = true := decide_eq_true (by omega)
      have hg : decide ((((lo + hi) / 2 : Nat) : Int) ≤ (i : Int)) = false := decide_eq_false (by omega)
      have sM := s0 ((pre ++ [(b, false)]).map pwD)
      have a1 := app (b, false)
      have l1 := lst (b, false)
      refine ⟨by simp only [wc_Versions_way_to_1, startD, List.map, List.length, Nat.sub_self, List.replicate, List.append_nil, List.cons_append, List.nil_append, Nat.reduceSub, Nat.reduceAdd, List.set, rb_ok, rb_exc, rb_bad, x_bind, x_pure, x_some, x_none, x_badM, x_c, x_e2, x_e1, x_tB, x_asB, chK_t, chK_f, x_eCh, pick_t, pick_f, x_andM, x_orM, x_notM, x_and, x_or, x_not, x_if, x_nil, x_cons, szL0, szL1, szL2, szL3, szL4, szL6, szL7, szL8, szL10, szT0, szT1, szT2, szT3, szT4, x_tup, x_nlst, x_call, x_ncall, x_oNone, x_oSome, x_asI, x_sl, x_flst, x_alloc, bk_ok, bk_exc, x_fun, x_funK, opt_some, x_fld, x_mt, x_meth, mkK_ok, mkK_exc, x_make, x_makeK, x_next, x_seq, th_nx, th_rt, th_bk, th_ct, th_exc, x_drop, x_sret, x_sif, x_set, asgK_some, x_asg, tg_tp, tg_nm, setAll_nil, setAll_cons, parK_ok, x_par, par3K_ok, x_par3, x_sub, x_sfld, x_for, x_iL, x_iT, x_asL, x_asT, x_iR1, x_iR2, x_nlc, raK_ok, x_raise, fin_rt, fin_nx, fin_exc, x_try, try_rt, ev0, ev1, ev2, ev3, ev4, ev5, ev6, ev7, ev8, ev9, ev10, ev11, ev12, ev13, ev14, DL.v_sub, DL.v_add, DL.v_lt, DL.v_le, DL.v_gt, DL.v_ge, DL.v_fdiv2, DL.v_neg, DL.v_abs, DL.v_int, DL.v_min2, DL.v_max2, DL.v_eqI, DL.v_neI, DL.v_eqB, DL.v_neB, DL.v_isN, DL.v_notN, DL.v_isB, DL.v_e0l, DL.vL_lst, DL.isS_some, DL.v_ixL, DL.v_ixS, DL.v_ixT, DL.atI_0, DL.atI_1, DL.atI_2, DL.atI_3, DL.atI_4, DL.atI_5, DL.v_lenL, DL.v_lenS, DL.v_lenT, DL.v_lenD, DL.v_sumL, DL.v_sumT, DL.v_tupL, DL.v_tupT, DL.v_listT, DL.v_listL, DL.v_slT, DL.v_slL, DL.v_slS, DL.i_ii, DL.i_ib, DL.i_is, DL.i_id, DL.i_il, DL.i_it, DL.i_bi, DL.i_bb, DL.i_bt, DL.i_ni, DL.i_nb, DL.i_nt, DL.i_si, DL.i_sb, DL.i_ss, DL.i_st, DL.i_li, DL.i_lb, DL.i_ls, DL.i_ld, DL.i_ll, DL.i_lt, DL.i_ti, DL.i_tb, DL.i_ts, DL.i_td, DL.i_tl, DL.i_tt, DL.i_di, DL.i_db, DL.i_ds, DL.i_dd, DL.i_dt, DL.x_rev, DL.isNonD, hc], [.dat (.obj v), .dat (.int j), .dat (.int i), .dat (.obj ω.length), .dat (.int l), .dat (.int lo), .dat (.int ((lo + hi) / 2 : Nat)), .dat (.int ((lo + hi) / 2 : Nat))], ω ++ [.lst ((pre ++ [(b, false)]).map pwD)], suf.length, ?_, by simp, pre ++ [(b, false)], suf, l, lo, (lo + hi) / 2, _, rfl, by rw [e]; simp, p, rfl, rfl⟩
      simp only [wb_Versions_way_to_1, startD, List.map, List.length, Nat.sub_self, List.replicate, List.append_nil, List.cons_append, List.nil_append, Nat.reduceSub, Nat.reduceAdd, List.set, rb_ok, rb_exc, rb_bad, x_bind, x_pure, x_some, x_none, x_badM, x_c, x_e2, x_e1, x_tB, x_asB, chK_t, chK_f, x_eCh, pick_t, pick_f, x_andM, x_orM, x_notM, x_and, x_or, x_not, x_if, x_nil, x_cons, szL0, szL1, szL2, szL3, szL4, szL6, szL7, szL8, szL10, szT0, szT1, szT2, szT3, szT4, x_tup, x_nlst, x_call, x_ncall, x_oNone, x_oSome, x_asI, x_sl, x_flst, x_alloc, bk_ok, bk_exc, x_fun, x_funK, opt_some, x_fld, x_mt, x_meth, mkK_ok, mkK_exc, x_make, x_makeK, x_next, x_seq, th_nx, th_rt, th_bk, th_ct, th_exc, x_drop, x_sret, x_sif, x_set, asgK_some, x_asg, tg_tp, tg_nm, setAll_nil, setAll_cons, parK_ok, x_par, par3K_ok, x_par3, x_sub, x_sfld, x_for, x_iL, x_iT, x_asL, x_asT, x_iR1, x_iR2, x_nlc, raK_ok, x_raise, fin_rt, fin_nx, fin_exc, x_try, try_rt, ev0, ev1, ev2, ev3, ev4, ev5, ev6, ev7, ev8, ev9, ev10, ev11, ev12, ev13, ev14, DL.v_sub, DL.v_add, DL.v_lt, DL.v_le, DL.v_gt, DL.v_ge, DL.v_fdiv2, DL.v_neg, DL.v_abs, DL.v_int, DL.v_min2, DL.v_max2, DL.v_eqI, DL.v_neI, DL.v_eqB, DL.v_neB, DL.v_isN, DL.v_notN, DL.v_isB, DL.v_e0l, DL.vL_lst, DL.isS_some, DL.v_ixL, DL.v_ixS, DL.v_ixT, DL.atI_0, DL.atI_1, DL.atI_2, DL.atI_3, DL.atI_4, DL.atI_5, DL.v_lenL, DL.v_lenS, DL.v_lenT, DL.v_lenD, DL.v_sumL, DL.v_sumT, DL.v_tupL, DL.v_tupT, DL.v_listT, DL.v_listL, DL.v_slT, DL.v_slL, DL.v_slS, DL.i_ii, DL.i_ib, DL.i_is, DL.i_id, DL.i_il, DL.i_it, DL.i_bi, DL.i_bb, DL.i_bt, DL.i_ni, DL.i_nb, DL.i_nt, DL.i_si, DL.i_sb, DL.i_ss, DL.i_st, DL.i_li, DL.i_lb, DL.i_ls, DL.i_ld, DL.i_ll, DL.i_lt, DL.i_ti, DL.i_tb, DL.i_ts, DL.i_td, DL.i_tl, DL.i_tt, DL.i_di, DL.i_db, DL.i_ds, DL.i_dd, DL.i_dt, DL.x_rev, DL.isNonD, half, hg, vL_obj new_at, a1, DL.v_ixO new_at, l1, fld_ok sM.hv vf_kept, DL.v_ixO sM.hk, DL.atI_nat (nd_at h2), tup_ix1]
  obtain ⟨γ', ω', e, b, lo, hi, x7, rfl, rfl⟩ := while_ok _ _ key 50 ps.length [.dat (.obj v), .dat (.int j), .dat (.int i), .dat (.obj ω.length), .dat (.int a), .dat (.int 0), .dat (.int n), .no] (ω ++ [.lst []]) (by omega) ⟨[], ps, a, 0, n, .no, rfl, rfl, hp, rfl, rfl⟩
  have s1 := s0 []
  simp only [F_Versions_way_to, m_Versions_way_to, startD, List.map, List.length, Nat.sub_self, List.replicate, List.append_nil, List.cons_append, List.nil_append, Nat.reduceSub, Nat.reduceAdd, List.set, rb_ok, rb_exc, rb_bad, x_bind, x_pure, x_some, x_none, x_badM, x_c, x_e2, x_e1, x_tB, x_asB, chK_t, chK_f, x_eCh, pick_t, pick_f, x_andM, x_orM, x_notM, x_and, x_or, x_not, x_if, x_nil, x_cons, szL0, szL1, szL2, szL3, szL4, szL6, szL7, szL8, szL10, szT0, szT1, szT2, szT3, szT4, x_tup, x_nlst, x_call, x_ncall, x_oNone, x_oSome, x_asI, x_sl, x_flst, x_alloc, bk_ok, bk_exc, x_fun, x_funK, opt_some, x_fld, x_mt, x_meth, mkK_ok, mkK_exc, x_make, x_makeK, x_next, x_seq, th_nx, th_rt, th_bk, th_ct, th_exc, x_drop, x_sret, x_sif, x_set, asgK_some, x_asg, tg_tp, tg_nm, setAll_nil, setAll_cons, parK_ok, x_par, par3K_ok, x_par3, x_sub, x_sfld, x_for, x_iL, x_iT, x_asL, x_asT, x_iR1, x_iR2, x_nlc, raK_ok, x_raise, fin_rt, fin_nx, fin_exc, x_try, try_rt, ev0, ev1, ev2, ev3, ev4, ev5, ev6, ev7, ev8, ev9, ev10, ev11, ev12, ev13, ev14, DL.v_sub, DL.v_add, DL.v_lt, DL.v_le, DL.v_gt, DL.v_ge, DL.v_fdiv2, DL.v_neg, DL.v_abs, DL.v_int, DL.v_min2, DL.v_max2, DL.v_eqI, DL.v_neI, DL.v_eqB, DL.v_neB, DL.v_isN, DL.v_notN, DL.v_isB, DL.v_e0l, DL.vL_lst, DL.isS_some, DL.v_ixL, DL.v_ixS, DL.v_ixT, DL.atI_0, DL.atI_1, DL.atI_2, DL.atI_3, DL.atI_4, DL.atI_5, DL.v_lenL, DL.v_lenS, DL.v_lenT, DL.v_lenD, DL.v_sumL, DL.v_sumT, DL.v_tupL, DL.v_tupT, DL.v_listT, DL.v_listL, DL.v_slT, DL.v_slL, DL.v_slS, DL.i_ii, DL.i_ib, DL.i_is, DL.i_id, DL.i_il, DL.i_it, DL.i_bi, DL.i_bb, DL.i_bt, DL.i_ni, DL.i_nb, DL.i_nt, DL.i_si, DL.i_sb, DL.i_ss, DL.i_st, DL.i_li, DL.i_lb, DL.i_ls, DL.i_ld, DL.i_ll, DL.i_lt, DL.i_ti, DL.i_tb, DL.i_ts, DL.i_td, DL.i_tl, DL.i_tt, DL.i_di, DL.i_db, DL.i_ds, DL.i_dd, DL.i_dt, DL.x_rev, DL.isNonD, fld_ok s1.hv vf_tops, DL.v_ixO s1.ht, DL.atI_nat hTd, fld_ok s1.hv vf_size, e]
end
end K80

set_option Elab.async false
set_option linter.all false
set_option maxRecDepth 100000
set_option maxHeartbeats 2000000
namespace K80
open PySem PySem.Spec PyProof.Rows L2 DL

/-! ### change -/
def upd1 (f : Nat → Int) (i : Nat) (x : Int) : Nat → Int := fun k => if k = i then x else f k
theorem Path.mono {N M : List Nd} {i a lo hi : Nat} {ps : List (Nat × Bool)} (p : N <+: M) (h : Path N i a lo hi ps) : Path M i a lo hi ps := by
  induction h with
  | nil => exact .nil
  | right h1 h2 h3 _ ih => exact .right h1 (pre_at p h2) h3 ih
  | left h1 h2 h3 _ ih => exact .left h1 (pre_at p h2) h3 ih
section
variable {C : Addr} {v kt tp pa n : Nat} {N : List Nd} {T : List Nat} {P : List D} {ω : List OB}
theorem VS.setk (s : VS C v kt tp pa n N T P ω) {M : List Nd} (hm : M.length < 5000) : VS C v kt tp pa n M T P (ω.set kt (.lst (M.map ndD))) :=
  ⟨at_set s.hv (ins_ne s.hv s.hk), set_at s.hk, at_set s.ht s.d1.symm, at_set s.hp s.d2.symm, s.d1, s.d2, s.d3, hm, s.lt, s.lp⟩
theorem nd_some {t : Int} {l r : Nat} : ndD (t, some (l, r)) = .tup [.int t, .int l, .int r] := rfl
theorem vLs_obj {ω : List OB} {h : Nat} {xs : List D} (e : ω[h]? = some (.lst xs)) : vLs ω (.obj h) = some xs := vL_obj e
theorem loop_ok {f g : Nat → Int} {i : Nat} {x : D} {d1 d2 d3 : D} (hfg : ∀ k, k ≠ i → g k = f k) {J : List OB} (s : VS C v kt tp pa n N T P J) {b lo hi : Nat} {ps : List (Nat × Bool)} (hp : Path N i b lo hi ps) :
    Tr N f b lo hi → lo ≤ i → i < hi → ∀ (M : List Nd) (made : Nat) (s5 s6 s7 s8 s9 : SD), N <+: M → Tr M g made i (i + 1) → M.length + ps.length < 5000 →
    ∃ (M' : List Nd) (made' : Nat) (t5 t6 t7 t8 t9 : SD), Steps (.tp [5, 6]) (fb_Versions_change_1 C) (ps.map pwD).reverse [.dat (.obj v), .dat d1, .dat d2, .dat d3, .dat (.int made), s5, s6, s7, s8, s9] (J.set kt (.lst (M.map ndD)))
      [.dat (.obj v), .dat d1, .dat d2, .dat d3, .dat (.int made'), t5, t6, t7, t8, t9] (J.set kt (.lst (M'.map ndD))) ∧ M <+: M' ∧ M'.length = M.length + ps.length ∧ Tr M' g made' lo hi := by
  induction hp with
  | @nil a lo =>
    intro tr h1 h2 M made s5 s6 s7 s8 s9 pm tm hl
    have e : lo = i := by omega
    subst e
    exact ⟨M, made, s5, s6, s7, s8, s9, .nil, List.prefix_refl _, rfl, tm⟩
  | @right b lo hi l r t ps q1 q2 q3 p ih =>
    intro tr h1 h2 M made s5 s6 s7 s8 s9 pm tm hl
    cases tr with
    | leaf _ => omega
    | @node _ _ _ l' r' w1 w2 tl tr' =>
      rw [q2] at w2
      injection w2 with w2
      injection w2 with wt w2
      injection w2 with w2
      injection w2 with wl wr
      subst wl wr
      obtain ⟨M1, m1, t5, t6, t7, t8, t9, st, p1, n1, tr1⟩ := ih tr' q3 h2 M made s5 s6 s7 s8 s9 pm tm (by simp at hl; omega)
      have hn : M1.length < 5000 := by simp at hl; omega
      have sM := s.setk hn
      have tl1 : Tr M1 g l lo ((lo + hi) / 2) := (tl.mono (pm.trans p1)).congr fun k k1 k2 => (hfg k (by omega)).symm
      obtain ⟨o1, z1⟩ := tl1.top
      obtain ⟨o2, z2⟩ := tr1.top
      have hsum : S g lo ((lo + hi) / 2 - lo) + S g ((lo + hi) / 2) (hi - (lo + hi) / 2) = S g lo (hi - lo) := S_split _ (by omega) (by omega)
      have kp := keep_ok (a := .int (S g lo ((lo + hi) / 2 - lo) + S g ((lo + hi) / 2) (hi - (lo + hi) / 2))) (b := .int l) (c := .int m1) (nd := (S g lo (hi - lo), some (l, m1))) sM.hv vf_kept sM.hk (by omega) (by rw [hsum]; rfl)
      rw [List.set_set] at kp
      have pr : M1 <+: M1 ++ [(S g lo (hi - lo), some (l, m1))] := List.prefix_append _ _
      refine ⟨M1 ++ [(S g lo (hi - lo), some (l, m1))], M1.length, .dat (.int b), .dat (.bl true), .dat (.int t), .dat (.int l), .dat (.int m1), ?_, p1.trans pr, by simp; omega, .node (by omega) (by simp) (tl1.mono pr) (tr1.mono pr)⟩
      rw [List.map_cons, List.reverse_cons]
      refine st.append (.cons (γ1 := [.dat (.obj v), .dat d1, .dat d2, .dat d3, .dat (.int m1), .dat (.int b), .dat (.bl true), t7, t8, t9]) rfl ?_ .nil)
      have nb := DL.atI_nat (nd_at (pre_at (pm.trans p1) q2))
      simp only [fb_Versions_change_1, startD, List.map, List.length, Nat.sub_self, List.replicate, List.append_nil, List.cons_append, List.nil_append, Nat.reduceSub, Nat.reduceAdd, List.set, rb_ok, rb_exc, rb_bad, x_bind, x_pure, x_some, x_none, x_badM, x_c, x_e2, x_e1, x_tB, x_asB, chK_t, chK_f, x_eCh, pick_t, pick_f, x_andM, x_orM, x_notM, x_and, x_or, x_not, x_if, x_nil, x_cons, szL0, szL1, szL2, szL3, szL4, szL6, szL7, szL8, szL10, szT0, szT1, szT2, szT3, szT4, x_tup, x_nlst, x_call, x_ncall, x_oNone, x_oSome, x_asI, x_sl, x_flst, x_alloc, bk_ok, bk_exc, x_fun, x_funK, opt_some, x_fld, x_mt, x_meth, mkK_ok, mkK_exc, x_make, x_makeK, x_next, x_seq, th_nx, th_rt, th_bk, th_ct, th_exc, x_drop, x_sret, x_sif, x_set, asgK_some, x_asg, tg_tp, tg_nm, setAll_nil, setAll_cons, parK_ok, x_par, par3K_ok, x_par3, x_sub, x_sfld, x_for, x_iL, x_iT, x_asL, x_asT, x_iR1, x_iR2, x_nlc, raK_ok, x_raise, fin_rt, fin_nx, fin_exc, x_try, try_rt, ev0, ev1, ev2, ev3, ev4, ev5, ev6, ev7, ev8, ev9, ev10, ev11, ev12, ev13, ev14, DL.v_sub, DL.v_add, DL.v_lt, DL.v_le, DL.v_gt, DL.v_ge, DL.v_fdiv2, DL.v_neg, DL.v_abs, DL.v_int, DL.v_min2, DL.v_max2, DL.v_eqI, DL.v_neI, DL.v_eqB, DL.v_neB, DL.v_isN, DL.v_notN, DL.v_isB, DL.v_e0l, DL.vL_lst, DL.isS_some, DL.v_ixL, DL.v_ixS, DL.v_ixT, DL.atI_0, DL.atI_1, DL.atI_2, DL.atI_3, DL.atI_4, DL.atI_5, DL.v_lenL, DL.v_lenS, DL.v_lenT, DL.v_lenD, DL.v_sumL, DL.v_sumT, DL.v_tupL, DL.v_tupT, DL.v_listT, DL.v_listL, DL.v_slT, DL.v_slL, DL.v_slS, DL.i_ii, DL.i_ib, DL.i_is, DL.i_id, DL.i_il, DL.i_it, DL.i_bi, DL.i_bb, DL.i_bt, DL.i_ni, DL.i_nb, DL.i_nt, DL.i_si, DL.i_sb, DL.i_ss, DL.i_st, DL.i_li, DL.i_lb, DL.i_ls, DL.i_ld, DL.i_ll, DL.i_lt, DL.i_ti, DL.i_tb, DL.i_ts, DL.i_td, DL.i_tl, DL.i_tt, DL.i_di, DL.i_db, DL.i_ds, DL.i_dd, DL.i_dt, DL.x_rev, DL.isNonD, fld_ok sM.hv vf_kept, DL.v_ixO sM.hk, nb, nd_some, DL.atI_nat (nd_at z1), DL.atI_nat (nd_at z2), tup_ix0, isI_ok sM.hv (vf_no (m := "keep") (by decide +kernel)), kp]
  | @left b lo hi l r t ps q1 q2 q3 p ih =>
    intro tr h1 h2 M made s5 s6 s7 s8 s9 pm tm hl
    cases tr with
    | leaf _ => omega
    | @node _ _ _ l' r' w1 w2 tl tr' =>
      rw [q2] at w2
      injection w2 with w2
      injection w2 with wt w2
      injection w2 with w2
      injection w2 with wl wr
      subst wl wr
      obtain ⟨M1, m1, t5, t6, t7, t8, t9, st, p1, n1, tl1⟩ := ih tl h1 q3 M made s5 s6 s7 s8 s9 pm tm (by simp at hl; omega)
      have hn : M1.length < 5000 := by simp at hl; omega
      have sM := s.setk hn
      have tr1 : Tr M1 g r ((lo + hi) / 2) hi := (tr'.mono (pm.trans p1)).congr fun k k1 k2 => (hfg k (by omega)).symm
      obtain ⟨o1, z1⟩ := tl1.top
      obtain ⟨o2, z2⟩ := tr1.top
      have hsum : S g lo ((lo + hi) / 2 - lo) + S g ((lo + hi) / 2) (hi - (lo + hi) / 2) = S g lo (hi - lo) := S_split _ (by omega) (by omega)
      have kp := keep_ok (a := .int (S g lo ((lo + hi) / 2 - lo) + S g ((lo + hi) / 2) (hi - (lo + hi) / 2))) (b := .int m1) (c := .int r) (nd := (S g lo (hi - lo), some (m1, r))) sM.hv vf_kept sM.hk (by omega) (by rw [hsum]; rfl)
      rw [List.set_set] at kp
      have pr : M1 <+: M1 ++ [(S g lo (hi - lo), some (m1, r))] := List.prefix_append _ _
      refine ⟨M1 ++ [(S g lo (hi - lo), some (m1, r))], M1.length, .dat (.int b), .dat (.bl false), .dat (.int t), .dat (.int m1), .dat (.int r), ?_, p1.trans pr, by simp; omega, .node (by omega) (by simp) (tl1.mono pr) (tr1.mono pr)⟩
      rw [List.map_cons, List.reverse_cons]
      refine st.append (.cons (γ1 := [.dat (.obj v), .dat d1, .dat d2, .dat d3, .dat (.int m1), .dat (.int b), .dat (.bl false), t7, t8, t9]) rfl ?_ .nil)
      have nb := DL.atI_nat (nd_at (pre_at (pm.trans p1) q2))
      simp only [fb_Versions_change_1, startD, List.map, List.length, Nat.sub_self, List.replicate, List.append_nil, List.cons_append, List.nil_append, Nat.reduceSub, Nat.reduceAdd, List.set, rb_ok, rb_exc, rb_bad, x_bind, x_pure, x_some, x_none, x_badM, x_c, x_e2, x_e1, x_tB, x_asB, chK_t, chK_f, x_eCh, pick_t, pick_f, x_andM, x_orM, x_notM, x_and, x_or, x_not, x_if, x_nil, x_cons, szL0, szL1, szL2, szL3, szL4, szL6, szL7, szL8, szL10, szT0, szT1, szT2, szT3, szT4, x_tup, x_nlst, x_call, x_ncall, x_oNone, x_oSome, x_asI, x_sl, x_flst, x_alloc, bk_ok, bk_exc, x_fun, x_funK, opt_some, x_fld, x_mt, x_meth, mkK_ok, mkK_exc, x_make, x_makeK, x_next, x_seq, th_nx, th_rt, th_bk, th_ct, th_exc, x_drop, x_sret, x_sif, x_set, asgK_some, x_asg, tg_tp, tg_nm, setAll_nil, setAll_cons, parK_ok, x_par, par3K_ok, x_par3, x_sub, x_sfld, x_for, x_iL, x_iT, x_asL, x_asT, x_iR1, x_iR2, x_nlc, raK_ok, x_raise, fin_rt, fin_nx, fin_exc, x_try, try_rt, ev0, ev1, ev2, ev3, ev4, ev5, ev6, ev7, ev8, ev9, ev10, ev11, ev12, ev13, ev14, DL.v_sub, DL.v_add, DL.v_lt, DL.v_le, DL.v_gt, DL.v_ge, DL.v_fdiv2, DL.v_neg, DL.v_abs, DL.v_int, DL.v_min2, DL.v_max2, DL.v_eqI, DL.v_neI, DL.v_eqB, DL.v_neB, DL.v_isN, DL.v_notN, DL.v_isB, DL.v_e0l, DL.vL_lst, DL.isS_some, DL.v_ixL, DL.v_ixS, DL.v_ixT, DL.atI_0, DL.atI_1, DL.atI_2, DL.atI_3, DL.atI_4, DL.atI_5, DL.v_lenL, DL.v_lenS, DL.v_lenT, DL.v_lenD, DL.v_sumL, DL.v_sumT, DL.v_tupL, DL.v_tupT, DL.v_listT, DL.v_listL, DL.v_slT, DL.v_slL, DL.v_slS, DL.i_ii, DL.i_ib, DL.i_is, DL.i_id, DL.i_il, DL.i_it, DL.i_bi, DL.i_bb, DL.i_bt, DL.i_ni, DL.i_nb, DL.i_nt, DL.i_si, DL.i_sb, DL.i_ss, DL.i_st, DL.i_li, DL.i_lb, DL.i_ls, DL.i_ld, DL.i_ll, DL.i_lt, DL.i_ti, DL.i_tb, DL.i_ts, DL.i_td, DL.i_tl, DL.i_tt, DL.i_di, DL.i_db, DL.i_ds, DL.i_dd, DL.i_dt, DL.x_rev, DL.isNonD, fld_ok sM.hv vf_kept, DL.v_ixO sM.hk, nb, nd_some, DL.atI_nat (nd_at z1), DL.atI_nat (nd_at z2), tup_ix0, isI_ok sM.hv (vf_no (m := "keep") (by decide +kernel)), kp]
theorem change_ok (s : VS C v kt tp pa n N T P ω) {f : Nat → Int} {j i a k : Nat} {x : Int} (hT : T[j]? = some a) (tr : Tr N f a 0 n) (hi : i < n) (hlt : T.length < 100) (hk : n ≤ 2 ^ k) (hk2 : k ≤ 10) (hN : N.length < 4900) :
    ∃ (M : List Nd) (a' : Nat) (ω' : List OB), F_Versions_change C [.obj v, .int j, .int i, .int x] ω = .ok (.int T.length) [] ω' ∧ VS C v kt tp pa n M (T ++ [a']) (P ++ [.int j]) ω' ∧ N <+: M ∧ N.length < M.length ∧ M.length ≤ N.length + 1 + k ∧
      Tr M (upd1 f i x) a' 0 n ∧ Ext [kt, tp, pa] ω ω' := by
  have hj : j < T.length := (List.getElem?_eq_some_iff.mp hT).1
  obtain ⟨ps, hp⟩ := Path.ex tr (Nat.zero_le _) hi
  have hpl := hp.len k (by omega)
  -- the leaf
  have kp := keep_ok (a := .int x) (b := .non) (c := .non) (nd := (x, none)) s.hv vf_kept s.hk (by omega) rfl
  have s1 := s.setk (M := N ++ [(x, none)]) (by simp; omega)
  have pN : N <+: N ++ [(x, none)] := List.prefix_append _ _
  have hp1 := hp.mono pN
  have hw := way_ok s1 hT hp1 (by omega)
  -- the loop
  have hl0 : kt < ω.length := lt_of s.hk
  have sJ : VS C v kt tp pa n N T P (ω ++ [OB.lst (ps.map pwD)]) := s.app
  have hJ : ω.set kt (OB.lst ((N ++ [(x, none)]).map ndD)) ++ [OB.lst (ps.map pwD)] = (ω ++ [OB.lst (ps.map pwD)]).set kt (OB.lst ((N ++ [(x, none)]).map ndD)) := by
    rw [List.set_append_left _ _ hl0]
  have hle : (ω.set kt (OB.lst ((N ++ [(x, none)]).map ndD))).length = ω.length := by simp
  have tl : Tr (N ++ [(x, none)]) (upd1 f i x) N.length i (i + 1) := .leaf (by simp [upd1])
  obtain ⟨M, m, t5, t6, t7, t8, t9, st, pM, nM, trM⟩ := loop_ok (g := upd1 f i x) (x := .int x) (d1 := .int j) (d2 := .int i) (d3 := .int x) (fun k hk => by simp [upd1, hk]) sJ hp tr (Nat.zero_le _) hi (N ++ [(x, none)]) N.length .no .no .no .no .no pN tl (by simp; omega)
  have nM' : M.length = N.length + 1 + ps.length := by rw [nM]; simp
  have sM := sJ.setk (M := M) (by omega)
  generalize hJ2 : (ω ++ [OB.lst (ps.map pwD)]).set kt (.lst (M.map ndD)) = J at st sM
  have hlt2 : (T.map fun a : Nat => D.int a).length < 1000000 := by rw [T_len]; omega
  have hlp2 : P.length < 1000000 := by rw [s.lp]; omega
  have snoc : (T.map fun a : Nat => D.int a) ++ [.int m] = (T ++ [m]).map fun a : Nat => D.int a := by simp
  have ht1 := set_at (y := OB.lst ((T ++ [m]).map fun a : Nat => D.int a)) sM.ht
  have hv1 := at_set (y := OB.lst ((T ++ [m]).map fun a : Nat => D.int a)) sM.hv (ins_ne sM.hv sM.ht)
  have hp1' := at_set (y := OB.lst ((T ++ [m]).map fun a : Nat => D.int a)) sM.hp s.d3.symm
  have hk1 := at_set (y := OB.lst ((T ++ [m]).map fun a : Nat => D.int a)) sM.hk s.d1
  have hv2 := at_set (y := OB.lst (P ++ [.int j])) hv1 (ins_ne hv1 hp1')
  have ht2 := at_set (y := OB.lst (P ++ [.int j])) ht1 s.d3
  have hk2' := at_set (y := OB.lst (P ++ [.int j])) hk1 s.d2
  have hp2' := set_at (y := OB.lst (P ++ [.int j])) hp1'
  have a1 : ∀ γ, mtK mAppend (.obj tp) [.int m] γ J = .ok .non γ (J.set tp (.lst ((T ++ [m]).map fun a : Nat => D.int a))) := fun γ => by rw [m_app sM.ht hlt2, snoc]
  have a2 : ∀ γ, mtK mAppend (.obj pa) [.int j] γ (J.set tp (.lst ((T ++ [m]).map fun a : Nat => D.int a))) = .ok .non γ ((J.set tp (.lst ((T ++ [m]).map fun a : Nat => D.int a))).set pa (.lst (P ++ [.int j]))) := fun γ => m_app hp1' hlp2
  refine ⟨M, m, (J.set tp (.lst ((T ++ [m]).map fun a : Nat => D.int a))).set pa (.lst (P ++ [.int j])), ?_, ⟨hv2, hk2', ht2, hp2', s.d1, s.d2, s.d3, by omega, by simp; omega, by simp [s.lp]⟩, pN.trans pM, by omega, by omega, trM, ?_⟩
  · have hc := check_ok s (d := .int j) rfl (btw_nat hj)
    have hb := isbtw_ok (ω := ω) (d := .int i) rfl (lo := 0) (hi := (n : Int) - 1)
    rw [btw_nat hi] at hb
    have hx := isint_ok (ω := ω) (d := .int x) rfl
    have h100 : decide ((T.length : Int) = 100) = false := decide_eq_false (by omega)
    have hrun := st.run
    rw [← hJ] at hrun
    have vl := vLs_obj (ω := ω.set kt (OB.lst ((N ++ [(x, none)]).map ndD)) ++ [OB.lst (ps.map pwD)]) (h := (ω.set kt (OB.lst ((N ++ [(x, none)]).map ndD))).length) new_at
    simp only [F_Versions_change, m_Versions_change, startD, List.map, List.length, Nat.sub_self, List.replicate, List.append_nil, List.cons_append, List.nil_append, Nat.reduceSub, Nat.reduceAdd, List.set, rb_ok, rb_exc, rb_bad, x_bind, x_pure, x_some, x_none, x_badM, x_c, x_e2, x_e1, x_tB, x_asB, chK_t, chK_f, x_eCh, pick_t, pick_f, x_andM, x_orM, x_notM, x_and, x_or, x_not, x_if, x_nil, x_cons, szL0, szL1, szL2, szL3, szL4, szL6, szL7, szL8, szL10, szT0, szT1, szT2, szT3, szT4, x_tup, x_nlst, x_call, x_ncall, x_oNone, x_oSome, x_asI, x_sl, x_flst, x_alloc, bk_ok, bk_exc, x_fun, x_funK, opt_some, x_fld, x_mt, x_meth, mkK_ok, mkK_exc, x_make, x_makeK, x_next, x_seq, th_nx, th_rt, th_bk, th_ct, th_exc, x_drop, x_sret, x_sif, x_set, asgK_some, x_asg, tg_tp, tg_nm, setAll_nil, setAll_cons, parK_ok, x_par, par3K_ok, x_par3, x_sub, x_sfld, x_for, x_iL, x_iT, x_asL, x_asT, x_iR1, x_iR2, x_nlc, raK_ok, x_raise, fin_rt, fin_nx, fin_exc, x_try, try_rt, ev0, ev1, ev2, ev3, ev4, ev5, ev6, ev7, ev8, ev9, ev10, ev11, ev12, ev13, ev14, DL.v_sub, DL.v_add, DL.v_lt, DL.v_le, DL.v_gt, DL.v_ge, DL.v_fdiv2, DL.v_neg, DL.v_abs, DL.v_int, DL.v_min2, DL.v_max2, DL.v_eqI, DL.v_neI, DL.v_eqB, DL.v_neB, DL.v_isN, DL.v_notN, DL.v_isB, DL.v_e0l, DL.vL_lst, DL.isS_some, DL.v_ixL, DL.v_ixS, DL.v_ixT, DL.atI_0, DL.atI_1, DL.atI_2, DL.atI_3, DL.atI_4, DL.atI_5, DL.v_lenL, DL.v_lenS, DL.v_lenT, DL.v_lenD, DL.v_sumL, DL.v_sumT, DL.v_tupL, DL.v_tupT, DL.v_listT, DL.v_listL, DL.v_slT, DL.v_slL, DL.v_slS, DL.i_ii, DL.i_ib, DL.i_is, DL.i_id, DL.i_il, DL.i_it, DL.i_bi, DL.i_bb, DL.i_bt, DL.i_ni, DL.i_nb, DL.i_nt, DL.i_si, DL.i_sb, DL.i_ss, DL.i_st, DL.i_li, DL.i_lb, DL.i_ls, DL.i_ld, DL.i_ll, DL.i_lt, DL.i_ti, DL.i_tb, DL.i_ts, DL.i_td, DL.i_tl, DL.i_tt, DL.i_di, DL.i_db, DL.i_ds, DL.i_dd, DL.i_dt, DL.x_rev, DL.isNonD, isI_ok s.hv (vf_no (m := "check_version") (by decide +kernel)), hc, fld_ok s.hv vf_size, hb, Bool.not_true, hx, isInt, fld_ok s.hv vf_tops, DL.v_lenO s.ht, T_len, h100, isI_ok s.hv (vf_no (m := "keep") (by decide +kernel)), kp,
      isI_ok s1.hv (vf_no (m := "way_to") (by decide +kernel)), hw, vl, hrun, fld_ok sM.hv vf_tops, vL_obj sM.ht, a1, fld_ok hv1 vf_parents, vL_obj hp1', a2, fld_ok hv2 vf_tops, DL.v_lenO ht2]
    rw [List.length_append, List.length_singleton]
    congr 2
    omega
  · refine ⟨?_, fun q hq hn => ?_⟩
    · rw [← hJ2]; simp
    · have h1 : q ≠ kt := fun z => hn (by simp [z])
      have h2 : q ≠ tp := fun z => hn (by simp [z])
      have h3 : q ≠ pa := fun z => hn (by simp [z])
      rw [List.getElem?_set_ne (Ne.symm h3), List.getElem?_set_ne (Ne.symm h2), ← hJ2, List.getElem?_set_ne (Ne.symm h1), List.getElem?_append_left hq]
end
end K80

set_option Elab.async false
set_option linter.all false
set_option maxRecDepth 100000
set_option maxHeartbeats 2000000
namespace K80
open PySem PySem.Spec PyProof.Rows L2 DL

/-! ### two new lists at the end -/
section
variable {ω : List OB} {x y z : OB}
theorem len1 : (ω ++ [x]).length = ω.length + 1 := by simp
theorem two0 : (ω ++ [x] ++ [y])[ω.length]? = some x := by
  rw [List.getElem?_append_left (by simp)]
  exact new_at
theorem two1 : (ω ++ [x] ++ [y])[ω.length + 1]? = some y := by
  have h := new_at (ω := ω ++ [x]) (x := y)
  rw [len1] at h
  exact h
theorem set0 : (ω ++ [x] ++ [y]).set ω.length z = ω ++ [z] ++ [y] := by
  rw [List.set_append_left _ _ (by simp), new_set]
theorem set1 : (ω ++ [x] ++ [y]).set (ω.length + 1) z = ω ++ [x] ++ [z] := by
  have h := new_set (ω := ω ++ [x]) (x := y) (y := z)
  rw [len1] at h
  exact h
end
def oc1 : Option (Nat × Nat) → D
  | none => .non
  | some (l, _) => .int l
def oc2 : Option (Nat × Nat) → D
  | none => .non
  | some (_, r) => .int r
theorem ndD_eq {t : Int} {o : Option (Nat × Nat)} : ndD (t, o) = .tup [.int t, oc1 o, oc2 o] := by cases o <;> rfl
theorem nd_none {t : Int} : ndD (t, none) = .tup [.int t, .non, .non] := rfl

/-! ### items -/
inductive Stk (N : List Nd) (f : Nat → Int) (n : Nat) : Nat → List Nat → Prop
  | nil : Stk N f n n []
  | cons {a lo mid : Nat} {r : List Nat} : Tr N f a lo mid → Stk N f n mid r → Stk N f n lo (a :: r)
theorem Stk.le {N : List Nd} {f : Nat → Int} {n lo : Nat} {r : List Nat} (h : Stk N f n lo r) : lo + r.length ≤ n := by
  induction h with
  | nil => simp
  | cons t _ ih => have := t.lt; simp; omega
def fD (f : Nat → Int) (n : Nat) : List D := (List.range n).map fun k => D.int (f k)
theorem fD_succ (f : Nat → Int) (n : Nat) : fD f n ++ [.int (f n)] = fD f (n + 1) := by simp [fD, List.range_succ]
theorem fD_len (f : Nat → Int) (n : Nat) : (fD f n).length = n := by simp [fD]
def stD (r : List Nat) : List D := r.reverse.map fun a : Nat => D.int a
theorem stD_cons (a : Nat) (r : List Nat) : stD (a :: r) = stD r ++ [.int a] := by simp [stD]
theorem stD_two (a b : Nat) (r : List Nat) : stD r ++ [.int b, .int a] = stD (a :: b :: r) := by simp [stD]
theorem stD_len (r : List Nat) : (stD r).length = r.length := by simp [stD]
section
variable {C : Addr} {v kt tp pa n : Nat} {N : List Nd} {T : List Nat} {P : List D} {ω : List OB}
theorem snoc_emp {xs : List D} {x : D} : (xs ++ [x]).isEmpty = false := by cases xs <;> rfl
theorem items_ok (s : VS C v kt tp pa n N T P ω) {f : Nat → Int} {j a : Nat} (hT : T[j]? = some a) (tr : Tr N f a 0 n) (hn : n ≤ 400) :
    F_Versions_items C [.obj v, .int j] ω = .ok (.obj ω.length) [] (ω ++ [.lst (fD f n)] ++ [.lst []]) := by
  have hTd : (T.map fun a : Nat => D.int a)[j]? = some (.int a) := by rw [List.getElem?_map, hT]; rfl
  have s2 : ∀ x y, VS C v kt tp pa n N T P (ω ++ [x] ++ [y]) := fun x y => s.app.app
  have key : ∀ (k : Nat) (γ : List SD) (ω' : List OB), (∃ (lo : Nat) (r : List Nat) (x4 x5 x6 : SD), k = 2 * (n - lo) - r.length ∧ Stk N f n lo r ∧ γ = [.dat (.obj v), .dat (.int j), .dat (.obj ω.length), .dat (.obj (ω.length + 1)), x4, x5, x6] ∧ ω' = ω ++ [.lst (fD f lo)] ++ [.lst (stD r)]) →
      (wc_Versions_items_1 C γ ω' = .ok false γ ω' ∧ ∃ x4 x5 x6, γ = [.dat (.obj v), .dat (.int j), .dat (.obj ω.length), .dat (.obj (ω.length + 1)), x4, x5, x6] ∧ ω' = ω ++ [.lst (fD f n)] ++ [.lst []]) ∨
      (wc_Versions_items_1 C γ ω' = .ok true γ ω' ∧ ∃ γ2 ω2 k', wb_Versions_items_1 C γ ω' = .ok .nx γ2 ω2 ∧ k' < k ∧
        ∃ (lo : Nat) (r : List Nat) (x4 x5 x6 : SD), k' = 2 * (n - lo) - r.length ∧ Stk N f n lo r ∧ γ2 = [.dat (.obj v), .dat (.int j), .dat (.obj ω.length), .dat (.obj (ω.length + 1)), x4, x5, x6] ∧ ω2 = ω ++ [.lst (fD f lo)] ++ [.lst (stD r)]) := by
    rintro k γ ω' ⟨lo, r, x4, x5, x6, rfl, st, rfl, rfl⟩
    cases st with
    | nil =>
      left
      refine ⟨?_, _, _, _, rfl, rfl⟩
      simp only [wc_Versions_items_1, startD, List.map, List.length, Nat.sub_self, List.replicate, List.append_nil, List.cons_append, List.nil_append, Nat.reduceSub, Nat.reduceAdd, List.set, rb_ok, rb_exc, rb_bad, x_bind, x_pure, x_some, x_none, x_badM, x_c, x_e2, x_e1, x_tB, x_asB, chK_t, chK_f, x_eCh, pick_t, pick_f, x_andM, x_orM, x_notM, x_and, x_or, x_not, x_if, x_nil, x_cons, szL0, szL1, szL2, szL3, szL4, szL6, szL7, szL8, szL10, szT0, szT1, szT2, szT3, szT4, x_tup, x_nlst, x_call, x_ncall, x_oNone, x_oSome, x_asI, x_sl, x_flst, x_alloc, bk_ok, bk_exc, x_fun, x_funK, opt_some, x_fld, x_mt, x_meth, mkK_ok, mkK_exc, x_make, x_makeK, x_next, x_seq, th_nx, th_rt, th_bk, th_ct, th_exc, x_drop, x_sret, x_sif, x_set, asgK_some, x_asg, tg_tp, tg_nm, setAll_nil, setAll_cons, parK_ok, x_par, par3K_ok, x_par3, x_sub, x_sfld, x_for, x_iL, x_iT, x_asL, x_asT, x_iR1, x_iR2, x_nlc, raK_ok, x_raise, fin_rt, fin_nx, fin_exc, x_try, try_rt, ev0, ev1, ev2, ev3, ev4, ev5, ev6, ev7, ev8, ev9, ev10, ev11, ev12, ev13, ev14, DL.v_e0o two1, x_asB]
      rfl
    | @cons b _ mid r t st =>
      right
      have hle := st.le
      have hlt := t.lt
      have hs : ∀ xs, stD (b :: r) = xs → xs = stD r ++ [.int b] := fun xs h => by rw [← h, stD_cons]
      have pop : ∀ γ, mtK mPop (.obj (ω.length + 1)) [] γ (ω ++ [.lst (fD f lo)] ++ [.lst (stD r ++ [.int b])]) = .ok (.int b) γ (ω ++ [.lst (fD f lo)] ++ [.lst (stD r)]) := fun γ => by rw [m_pop two1, set1]
      have hc : wc_Versions_items_1 C [.dat (.obj v), .dat (.int j), .dat (.obj ω.length), .dat (.obj (ω.length + 1)), x4, x5, x6] (ω ++ [.lst (fD f lo)] ++ [.lst (stD (b :: r))]) = .ok true [.dat (.obj v), .dat (.int j), .dat (.obj ω.length), .dat (.obj (ω.length + 1)), x4, x5, x6] (ω ++ [.lst (fD f lo)] ++ [.lst (stD (b :: r))]) := by
        rw [stD_cons]
        simp only [wc_Versions_items_1, startD, List.map, List.length, Nat.sub_self, List.replicate, List.append_nil, List.cons_append, List.nil_append, Nat.reduceSub, Nat.reduceAdd, List.set, rb_ok, rb_exc, rb_bad, x_bind, x_pure, x_some, x_none, x_badM, x_c, x_e2, x_e1, x_tB, x_asB, chK_t, chK_f, x_eCh, pick_t, pick_f, x_andM, x_orM, x_notM, x_and, x_or, x_not, x_if, x_nil, x_cons, szL0, szL1, szL2, szL3, szL4, szL6, szL7, szL8, szL10, szT0, szT1, szT2, szT3, szT4, x_tup, x_nlst, x_call, x_ncall, x_oNone, x_oSome, x_asI, x_sl, x_flst, x_alloc, bk_ok, bk_exc, x_fun, x_funK, opt_some, x_fld, x_mt, x_meth, mkK_ok, mkK_exc, x_make, x_makeK, x_next, x_seq, th_nx, th_rt, th_bk, th_ct, th_exc, x_drop, x_sret, x_sif, x_set, asgK_some, x_asg, tg_tp, tg_nm, setAll_nil, setAll_cons, parK_ok, x_par, par3K_ok, x_par3, x_sub, x_sfld, x_for, x_iL, x_iT, x_asL, x_asT, x_iR1, x_iR2, x_nlc, raK_ok, x_raise, fin_rt, fin_nx, fin_exc, x_try, try_rt, ev0, ev1, ev2, ev3, ev4, ev5, ev6, ev7, ev8, ev9, ev10, ev11, ev12, ev13, ev14, DL.v_e0o two1, x_asB, snoc_emp, Bool.not_false]
      refine ⟨hc, ?_⟩
      have s0 := s2 (.lst (fD f lo)) (.lst (stD r))
      have s1 := s2 (.lst (fD f lo)) (.lst (stD r ++ [.int b]))
      cases t with
      | leaf e =>
        have app : ∀ γ, mtK mAppend (.obj ω.length) [.int (f lo)] γ (ω ++ [.lst (fD f lo)] ++ [.lst (stD r)]) = .ok .non γ (ω ++ [.lst (fD f (lo + 1))] ++ [.lst (stD r)]) := fun γ => by
          rw [m_app two0 (by rw [fD_len]; omega), set0, fD_succ]
        refine ⟨[.dat (.obj v), .dat (.int j), .dat (.obj ω.length), .dat (.obj (ω.length + 1)), .dat (.int (f lo)), .dat .non, .dat .non], ω ++ [.lst (fD f (lo + 1))] ++ [.lst (stD r)], 2 * (n - (lo + 1)) - r.length, ?_, by simp; omega, lo + 1, r, _, _, _, rfl, st, rfl, rfl⟩
        rw [stD_cons]
        simp only [wb_Versions_items_1, startD, List.map, List.length, Nat.sub_self, List.replicate, List.append_nil, List.cons_append, List.nil_append, Nat.reduceSub, Nat.reduceAdd, List.set, rb_ok, rb_exc, rb_bad, x_bind, x_pure, x_some, x_none, x_badM, x_c, x_e2, x_e1, x_tB, x_asB, chK_t, chK_f, x_eCh, pick_t, pick_f, x_andM, x_orM, x_notM, x_and, x_or, x_not, x_if, x_nil, x_cons, szL0, szL1, szL2, szL3, szL4, szL6, szL7, szL8, szL10, szT0, szT1, szT2, szT3, szT4, x_tup, x_nlst, x_call, x_ncall, x_oNone, x_oSome, x_asI, x_sl, x_flst, x_alloc, bk_ok, bk_exc, x_fun, x_funK, opt_some, x_fld, x_mt, x_meth, mkK_ok, mkK_exc, x_make, x_makeK, x_next, x_seq, th_nx, th_rt, th_bk, th_ct, th_exc, x_drop, x_sret, x_sif, x_set, asgK_some, x_asg, tg_tp, tg_nm, setAll_nil, setAll_cons, parK_ok, x_par, par3K_ok, x_par3, x_sub, x_sfld, x_for, x_iL, x_iT, x_asL, x_asT, x_iR1, x_iR2, x_nlc, raK_ok, x_raise, fin_rt, fin_nx, fin_exc, x_try, try_rt, ev0, ev1, ev2, ev3, ev4, ev5, ev6, ev7, ev8, ev9, ev10, ev11, ev12, ev13, ev14, DL.v_sub, DL.v_add, DL.v_lt, DL.v_le, DL.v_gt, DL.v_ge, DL.v_fdiv2, DL.v_neg, DL.v_abs, DL.v_int, DL.v_min2, DL.v_max2, DL.v_eqI, DL.v_neI, DL.v_eqB, DL.v_neB, DL.v_isN, DL.v_notN, DL.v_isB, DL.v_e0l, DL.vL_lst, DL.isS_some, DL.v_ixL, DL.v_ixS, DL.v_ixT, DL.atI_0, DL.atI_1, DL.atI_2, DL.atI_3, DL.atI_4, DL.atI_5, DL.v_lenL, DL.v_lenS, DL.v_lenT, DL.v_lenD, DL.v_sumL, DL.v_sumT, DL.v_tupL, DL.v_tupT, DL.v_listT, DL.v_listL, DL.v_slT, DL.v_slL, DL.v_slS, DL.i_ii, DL.i_ib, DL.i_is, DL.i_id, DL.i_il, DL.i_it, DL.i_bi, DL.i_bb, DL.i_bt, DL.i_ni, DL.i_nb, DL.i_nt, DL.i_si, DL.i_sb, DL.i_ss, DL.i_st, DL.i_li, DL.i_lb, DL.i_ls, DL.i_ld, DL.i_ll, DL.i_lt, DL.i_ti, DL.i_tb, DL.i_ts, DL.i_td, DL.i_tl, DL.i_tt, DL.i_di, DL.i_db, DL.i_ds, DL.i_dd, DL.i_dt, DL.x_rev, DL.isNonD, fld_ok s1.hv vf_kept, vL_obj two1, pop, DL.v_ixO s0.hk, DL.atI_nat (nd_at e), nd_none, vL_obj two0, app]
      | @node _ _ _ l r' h1 e tl tr' =>
        have ext : ∀ γ, mtK mExtend (.obj (ω.length + 1)) [.lst [.int r', .int l]] γ (ω ++ [.lst (fD f lo)] ++ [.lst (stD r)]) = .ok .non γ (ω ++ [.lst (fD f lo)] ++ [.lst (stD (l :: r' :: r))]) := fun γ => by
          rw [m_ext two1 (by rw [stD_len]; simp; omega), set1, stD_two]
        refine ⟨[.dat (.obj v), .dat (.int j), .dat (.obj ω.length), .dat (.obj (ω.length + 1)), .dat (.int (S f lo (mid - lo))), .dat (.int l), .dat (.int r')], ω ++ [.lst (fD f lo)] ++ [.lst (stD (l :: r' :: r))], 2 * (n - lo) - (l :: r' :: r).length, ?_, by simp; omega, lo, l :: r' :: r, _, _, _, rfl, .cons tl (.cons tr' st), rfl, rfl⟩
        rw [stD_cons]
        simp only [wb_Versions_items_1, startD, List.map, List.length, Nat.sub_self, List.replicate, List.append_nil, List.cons_append, List.nil_append, Nat.reduceSub, Nat.reduceAdd, List.set, rb_ok, rb_exc, rb_bad, x_bind, x_pure, x_some, x_none, x_badM, x_c, x_e2, x_e1, x_tB, x_asB, chK_t, chK_f, x_eCh, pick_t, pick_f, x_andM, x_orM, x_notM, x_and, x_or, x_not, x_if, x_nil, x_cons, szL0, szL1, szL2, szL3, szL4, szL6, szL7, szL8, szL10, szT0, szT1, szT2, szT3, szT4, x_tup, x_nlst, x_call, x_ncall, x_oNone, x_oSome, x_asI, x_sl, x_flst, x_alloc, bk_ok, bk_exc, x_fun, x_funK, opt_some, x_fld, x_mt, x_meth, mkK_ok, mkK_exc, x_make, x_makeK, x_next, x_seq, th_nx, th_rt, th_bk, th_ct, th_exc, x_drop, x_sret, x_sif, x_set, asgK_some, x_asg, tg_tp, tg_nm, setAll_nil, setAll_cons, parK_ok, x_par, par3K_ok, x_par3, x_sub, x_sfld, x_for, x_iL, x_iT, x_asL, x_asT, x_iR1, x_iR2, x_nlc, raK_ok, x_raise, fin_rt, fin_nx, fin_exc, x_try, try_rt, ev0, ev1, ev2, ev3, ev4, ev5, ev6, ev7, ev8, ev9, ev10, ev11, ev12, ev13, ev14, DL.v_sub, DL.v_add, DL.v_lt, DL.v_le, DL.v_gt, DL.v_ge, DL.v_fdiv2, DL.v_neg, DL.v_abs, DL.v_int, DL.v_min2, DL.v_max2, DL.v_eqI, DL.v_neI, DL.v_eqB, DL.v_neB, DL.v_isN, DL.v_notN, DL.v_isB, DL.v_e0l, DL.vL_lst, DL.isS_some, DL.v_ixL, DL.v_ixS, DL.v_ixT, DL.atI_0, DL.atI_1, DL.atI_2, DL.atI_3, DL.atI_4, DL.atI_5, DL.v_lenL, DL.v_lenS, DL.v_lenT, DL.v_lenD, DL.v_sumL, DL.v_sumT, DL.v_tupL, DL.v_tupT, DL.v_listT, DL.v_listL, DL.v_slT, DL.v_slL, DL.v_slS, DL.i_ii, DL.i_ib, DL.i_is, DL.i_id, DL.i_il, DL.i_it, DL.i_bi, DL.i_bb, DL.i_bt, DL.i_ni, DL.i_nb, DL.i_nt, DL.i_si, DL.i_sb, DL.i_ss, DL.i_st, DL.i_li, DL.i_lb, DL.i_ls, DL.i_ld, DL.i_ll, DL.i_lt, DL.i_ti, DL.i_tb, DL.i_ts, DL.i_td, DL.i_tl, DL.i_tt, DL.i_di, DL.i_db, DL.i_ds, DL.i_dd, DL.i_dt, DL.x_rev, DL.isNonD, fld_ok s1.hv vf_kept, vL_obj two1, pop, DL.v_ixO s0.hk, DL.atI_nat (nd_at e), nd_some, ext]
  have hw := while_ok _ _ key 1000 (2 * n - 1) [.dat (.obj v), .dat (.int j), .dat (.obj ω.length), .dat (.obj (ω.length + 1)), .no, .no, .no] (ω ++ [.lst []] ++ [.lst [.int a]]) (by omega) ⟨0, [a], .no, .no, .no, rfl, .cons tr .nil, rfl, rfl⟩
  obtain ⟨γ', ω', e, x4, x5, x6, rfl, rfl⟩ := hw
  have s1 := s.app (J := [.lst []])
  simp only [F_Versions_items, m_Versions_items, startD, List.map, List.length, Nat.sub_self, List.replicate, List.append_nil, List.cons_append, List.nil_append, Nat.reduceSub, Nat.reduceAdd, List.set, rb_ok, rb_exc, rb_bad, x_bind, x_pure, x_some, x_none, x_badM, x_c, x_e2, x_e1, x_tB, x_asB, chK_t, chK_f, x_eCh, pick_t, pick_f, x_andM, x_orM, x_notM, x_and, x_or, x_not, x_if, x_nil, x_cons, szL0, szL1, szL2, szL3, szL4, szL6, szL7, szL8, szL10, szT0, szT1, szT2, szT3, szT4, x_tup, x_nlst, x_call, x_ncall, x_oNone, x_oSome, x_asI, x_sl, x_flst, x_alloc, bk_ok, bk_exc, x_fun, x_funK, opt_some, x_fld, x_mt, x_meth, mkK_ok, mkK_exc, x_make, x_makeK, x_next, x_seq, th_nx, th_rt, th_bk, th_ct, th_exc, x_drop, x_sret, x_sif, x_set, asgK_some, x_asg, tg_tp, tg_nm, setAll_nil, setAll_cons, parK_ok, x_par, par3K_ok, x_par3, x_sub, x_sfld, x_for, x_iL, x_iT, x_asL, x_asT, x_iR1, x_iR2, x_nlc, raK_ok, x_raise, fin_rt, fin_nx, fin_exc, x_try, try_rt, ev0, ev1, ev2, ev3, ev4, ev5, ev6, ev7, ev8, ev9, ev10, ev11, ev12, ev13, ev14, DL.v_sub, DL.v_add, DL.v_lt, DL.v_le, DL.v_gt, DL.v_ge, DL.v_fdiv2, DL.v_neg, DL.v_abs, DL.v_int, DL.v_min2, DL.v_max2, DL.v_eqI, DL.v_neI, DL.v_eqB, DL.v_neB, DL.v_isN, DL.v_notN, DL.v_isB, DL.v_e0l, DL.vL_lst, DL.isS_some, DL.v_ixL, DL.v_ixS, DL.v_ixT, DL.atI_0, DL.atI_1, DL.atI_2, DL.atI_3, DL.atI_4, DL.atI_5, DL.v_lenL, DL.v_lenS, DL.v_lenT, DL.v_lenD, DL.v_sumL, DL.v_sumT, DL.v_tupL, DL.v_tupT, DL.v_listT, DL.v_listL, DL.v_slT, DL.v_slL, DL.v_slS, DL.i_ii, DL.i_ib, DL.i_is, DL.i_id, DL.i_il, DL.i_it, DL.i_bi, DL.i_bb, DL.i_bt, DL.i_ni, DL.i_nb, DL.i_nt, DL.i_si, DL.i_sb, DL.i_ss, DL.i_st, DL.i_li, DL.i_lb, DL.i_ls, DL.i_ld, DL.i_ll, DL.i_lt, DL.i_ti, DL.i_tb, DL.i_ts, DL.i_td, DL.i_tl, DL.i_tt, DL.i_di, DL.i_db, DL.i_ds, DL.i_dd, DL.i_dt, DL.x_rev, DL.isNonD, fld_ok s1.hv vf_tops, DL.v_ixO s1.ht, DL.atI_nat hTd, len1, e]
theorem row_ok (s : VS C v kt tp pa n N T P ω) {f : Nat → Int} {j a : Nat} (hT : T[j]? = some a) (tr : Tr N f a 0 n) (hn : n ≤ 400) :
    F_Versions_row C [.obj v, .int j] ω = .ok (.tup (fD f n)) [] (ω ++ [.lst (fD f n)] ++ [.lst []]) := by
  have hj : j < T.length := (List.getElem?_eq_some_iff.mp hT).1
  have hc := check_ok s (d := .int j) rfl (btw_nat hj)
  simp only [F_Versions_row, m_Versions_row, startD, List.map, List.length, Nat.sub_self, List.replicate, List.append_nil, List.cons_append, List.nil_append, Nat.reduceSub, Nat.reduceAdd, List.set, rb_ok, rb_exc, rb_bad, x_bind, x_pure, x_some, x_none, x_badM, x_c, x_e2, x_e1, x_tB, x_asB, chK_t, chK_f, x_eCh, pick_t, pick_f, x_andM, x_orM, x_notM, x_and, x_or, x_not, x_if, x_nil, x_cons, szL0, szL1, szL2, szL3, szL4, szL6, szL7, szL8, szL10, szT0, szT1, szT2, szT3, szT4, x_tup, x_nlst, x_call, x_ncall, x_oNone, x_oSome, x_asI, x_sl, x_flst, x_alloc, bk_ok, bk_exc, x_fun, x_funK, opt_some, x_fld, x_mt, x_meth, mkK_ok, mkK_exc, x_make, x_makeK, x_next, x_seq, th_nx, th_rt, th_bk, th_ct, th_exc, x_drop, x_sret, x_sif, x_set, asgK_some, x_asg, tg_tp, tg_nm, setAll_nil, setAll_cons, parK_ok, x_par, par3K_ok, x_par3, x_sub, x_sfld, x_for, x_iL, x_iT, x_asL, x_asT, x_iR1, x_iR2, x_nlc, raK_ok, x_raise, fin_rt, fin_nx, fin_exc, x_try, try_rt, ev0, ev1, ev2, ev3, ev4, ev5, ev6, ev7, ev8, ev9, ev10, ev11, ev12, ev13, ev14, DL.v_sub, DL.v_add, DL.v_lt, DL.v_le, DL.v_gt, DL.v_ge, DL.v_fdiv2, DL.v_neg, DL.v_abs, DL.v_int, DL.v_min2, DL.v_max2, DL.v_eqI, DL.v_neI, DL.v_eqB, DL.v_neB, DL.v_isN, DL.v_notN, DL.v_isB, DL.v_e0l, DL.vL_lst, DL.isS_some, DL.v_ixL, DL.v_ixS, DL.v_ixT, DL.atI_0, DL.atI_1, DL.atI_2, DL.atI_3, DL.atI_4, DL.atI_5, DL.v_lenL, DL.v_lenS, DL.v_lenT, DL.v_lenD, DL.v_sumL, DL.v_sumT, DL.v_tupL, DL.v_tupT, DL.v_listT, DL.v_listL, DL.v_slT, DL.v_slL, DL.v_slS, DL.i_ii, DL.i_ib, DL.i_is, DL.i_id, DL.i_il, DL.i_it, DL.i_bi, DL.i_bb, DL.i_bt, DL.i_ni, DL.i_nb, DL.i_nt, DL.i_si, DL.i_sb, DL.i_ss, DL.i_st, DL.i_li, DL.i_lb, DL.i_ls, DL.i_ld, DL.i_ll, DL.i_lt, DL.i_ti, DL.i_tb, DL.i_ts, DL.i_td, DL.i_tl, DL.i_tt, DL.i_di, DL.i_db, DL.i_ds, DL.i_dd, DL.i_dt, DL.x_rev, DL.isNonD, isI_ok s.hv (vf_no (m := "check_version") (by decide +kernel)), hc, isI_ok s.hv (vf_no (m := "items") (by decide +kernel)), items_ok s hT tr hn, DL.v_tupO two0]

/-! ### total -/
def seg (q : Nat × Nat × Nat) : D := .tup [.int q.1, .int q.2.1, .int q.2.2]
def cutF (f : Nat → Int) (a b : Nat) : Nat → Int := fun k => if a ≤ k ∧ k < b then f k else 0
def wt : List (Nat × Nat × Nat) → Nat
  | [] => 0
  | q :: r => 2 * (q.2.2 - q.2.1) - 1 + wt r
def sv (g : Nat → Int) : List (Nat × Nat × Nat) → Int
  | [] => 0
  | q :: r => S g q.2.1 (q.2.2 - q.2.1) + sv g r
def sgD (r : List (Nat × Nat × Nat)) : List D := r.reverse.map seg
theorem sgD_cons (a : Nat × Nat × Nat) (r : List (Nat × Nat × Nat)) : sgD (a :: r) = sgD r ++ [seg a] := by simp [sgD]
theorem sgD_two (a b : Nat × Nat × Nat) (r : List (Nat × Nat × Nat)) : sgD r ++ [seg b, seg a] = sgD (a :: b :: r) := by simp [sgD]
theorem sgD_len (r : List (Nat × Nat × Nat)) : (sgD r).length = r.length := by simp [sgD]
theorem S_zero {g : Nat → Int} : ∀ (n lo : Nat), (∀ i, lo ≤ i → i < lo + n → g i = 0) → S g lo n = 0
  | 0, _, _ => rfl
  | n + 1, lo, h => by
    show g lo + S g (lo + 1) n = 0
    rw [h lo (by omega) (by omega), S_zero n (lo + 1) fun i h1 h2 => h i (by omega) (by omega)]
    rfl
theorem and_no {a b : Bool} {f : M Bool} {γ : List SD} {ω : List OB} (hf : f γ ω = .ok b γ ω) (h : (a && b) = false) : pick a f (M.pure false) γ ω = .ok false γ ω := by
  cases a with
  | false => rfl
  | true =>
    show f γ ω = _
    rw [hf]
    simp at h
    rw [h]
theorem total_ok (s : VS C v kt tp pa n N T P ω) {f : Nat → Int} {j a A B : Nat} (hT : T[j]? = some a) (tr : Tr N f a 0 n) (hn : n ≤ 400) (hAB : A ≤ B) (hB : B ≤ n) :
    ∃ J, F_Versions_total C [.obj v, .int j, .int A, .int B] ω = .ok (.int (S (cutF f A B) 0 n)) [] (ω ++ J) := by
  have hTd : (T.map fun a : Nat => D.int a)[j]? = some (.int a) := by rw [List.getElem?_map, hT]; rfl
  have hj : j < T.length := (List.getElem?_eq_some_iff.mp hT).1
  have s1 : ∀ x, VS C v kt tp pa n N T P (ω ++ [x]) := fun x => s.app
  have key : ∀ (k : Nat) (γ : List SD) (ω' : List OB), (∃ (r : List (Nat × Nat × Nat)) (t : Int) (x6 x7 x8 x9 x10 x11 x12 : SD), k = wt r ∧ wt r ≤ 2 * n ∧ r.length ≤ wt r ∧ (∀ q ∈ r, Tr N f q.1 q.2.1 q.2.2) ∧ t + sv (cutF f A B) r = S (cutF f A B) 0 n ∧ γ = [.dat (.obj v), .dat (.int j), .dat (.int A), .dat (.int B), .dat (.int t), .dat (.obj ω.length), x6, x7, x8, x9, x10, x11, x12] ∧ ω' = ω ++ [.lst (sgD r)]) →
      (wc_Versions_total_1 C γ ω' = .ok false γ ω' ∧ ∃ x6 x7 x8 x9 x10 x11 x12, γ = [.dat (.obj v), .dat (.int j), .dat (.int A), .dat (.int B), .dat (.int (S (cutF f A B) 0 n)), .dat (.obj ω.length), x6, x7, x8, x9, x10, x11, x12] ∧ ω' = ω ++ [.lst []]) ∨
      (wc_Versions_total_1 C γ ω' = .ok true γ ω' ∧ ∃ γ2 ω2 k', wb_Versions_total_1 C γ ω' = .ok .nx γ2 ω2 ∧ k' < k ∧
        ∃ (r : List (Nat × Nat × Nat)) (t : Int) (x6 x7 x8 x9 x10 x11 x12 : SD), k' = wt r ∧ wt r ≤ 2 * n ∧ r.length ≤ wt r ∧ (∀ q ∈ r, Tr N f q.1 q.2.1 q.2.2) ∧ t + sv (cutF f A B) r = S (cutF f A B) 0 n ∧ γ2 = [.dat (.obj v), .dat (.int j), .dat (.int A), .dat (.int B), .dat (.int t), .dat (.obj ω.length), x6, x7, x8, x9, x10, x11, x12] ∧ ω2 = ω ++ [.lst (sgD r)]) := by
    rintro k γ ω' ⟨r, t, x6, x7, x8, x9, x10, x11, x12, rfl, hwt, hrl, htr, hsv, rfl, rfl⟩
    cases r with
    | nil =>
      left
      refine ⟨?_, x6, x7, x8, x9, x10, x11, x12, ?_, rfl⟩
      · simp only [wc_Versions_total_1, startD, List.map, List.length, Nat.sub_self, List.replicate, List.append_nil, List.cons_append, List.nil_append, Nat.reduceSub, Nat.reduceAdd, List.set, rb_ok, rb_exc, rb_bad, x_bind, x_pure, x_some, x_none, x_badM, x_c, x_e2, x_e1, x_tB, x_asB, chK_t, chK_f, x_eCh, pick_t, pick_f, x_andM, x_orM, x_notM, x_and, x_or, x_not, x_if, x_nil, x_cons, szL0, szL1, szL2, szL3, szL4, szL6, szL7, szL8, szL10, szT0, szT1, szT2, szT3, szT4, x_tup, x_nlst, x_call, x_ncall, x_oNone, x_oSome, x_asI, x_sl, x_flst, x_alloc, bk_ok, bk_exc, x_fun, x_funK, opt_some, x_fld, x_mt, x_meth, mkK_ok, mkK_exc, x_make, x_makeK, x_next, x_seq, th_nx, th_rt, th_bk, th_ct, th_exc, x_drop, x_sret, x_sif, x_set, asgK_some, x_asg, tg_tp, tg_nm, setAll_nil, setAll_cons, parK_ok, x_par, par3K_ok, x_par3, x_sub, x_sfld, x_for, x_iL, x_iT, x_asL, x_asT, x_iR1, x_iR2, x_nlc, raK_ok, x_raise, fin_rt, fin_nx, fin_exc, x_try, try_rt, ev0, ev1, ev2, ev3, ev4, ev5, ev6, ev7, ev8, ev9, ev10, ev11, ev12, ev13, ev14, DL.v_e0o new_at, x_asB]
        rfl
      · have : t = S (cutF f A B) 0 n := by rw [← hsv]; simp [sv]
        rw [this]
    | cons q r =>
      right
      obtain ⟨b, lo, hi⟩ := q
      have tb := htr _ (List.mem_cons_self)
      have trr : ∀ q ∈ r, Tr N f q.1 q.2.1 q.2.2 := fun q hq => htr q (List.mem_cons_of_mem _ hq)
      have hlt : lo < hi := tb.lt
      have hwq : wt ((b, lo, hi) :: r) = 2 * (hi - lo) - 1 + wt r := rfl
      have hsq : sv (cutF f A B) ((b, lo, hi) :: r) = S (cutF f A B) lo (hi - lo) + sv (cutF f A B) r := rfl
      have hlc : ((b, lo, hi) :: r).length = r.length + 1 := rfl
      have hrl' : r.length ≤ wt r := by
        clear hwt hrl hsv htr hwq hsq hlc
        induction r with
        | nil => exact Nat.zero_le _
        | cons q r ih =>
          have h1 := ih fun q hq => trr q (List.mem_cons_of_mem _ hq)
          have h2 := (trr q List.mem_cons_self).lt
          have : wt (q :: r) = 2 * (q.2.2 - q.2.1) - 1 + wt r := rfl
          simp
          omega
      have pop : ∀ γ, mtK mPop (.obj ω.length) [] γ (ω ++ [.lst (sgD r ++ [seg (b, lo, hi)])]) = .ok (seg (b, lo, hi)) γ (ω ++ [.lst (sgD r)]) := fun γ => by rw [m_pop new_at, new_set]
      have hseg : seg (b, lo, hi) = .tup [.int b, .int lo, .int hi] := rfl
      rw [hseg] at pop
      have tb : Tr N f b lo hi := tb
      rw [hwq] at hwt
      rw [hsq] at hsv
      refine ⟨?_, ?_⟩
      · rw [sgD_cons]
        simp only [wc_Versions_total_1, startD, List.map, List.length, Nat.sub_self, List.replicate, List.append_nil, List.cons_append, List.nil_append, Nat.reduceSub, Nat.reduceAdd, List.set, rb_ok, rb_exc, rb_bad, x_bind, x_pure, x_some, x_none, x_badM, x_c, x_e2, x_e1, x_tB, x_asB, chK_t, chK_f, x_eCh, pick_t, pick_f, x_andM, x_orM, x_notM, x_and, x_or, x_not, x_if, x_nil, x_cons, szL0, szL1, szL2, szL3, szL4, szL6, szL7, szL8, szL10, szT0, szT1, szT2, szT3, szT4, x_tup, x_nlst, x_call, x_ncall, x_oNone, x_oSome, x_asI, x_sl, x_flst, x_alloc, bk_ok, bk_exc, x_fun, x_funK, opt_some, x_fld, x_mt, x_meth, mkK_ok, mkK_exc, x_make, x_makeK, x_next, x_seq, th_nx, th_rt, th_bk, th_ct, th_exc, x_drop, x_sret, x_sif, x_set, asgK_some, x_asg, tg_tp, tg_nm, setAll_nil, setAll_cons, parK_ok, x_par, par3K_ok, x_par3, x_sub, x_sfld, x_for, x_iL, x_iT, x_asL, x_asT, x_iR1, x_iR2, x_nlc, raK_ok, x_raise, fin_rt, fin_nx, fin_exc, x_try, try_rt, ev0, ev1, ev2, ev3, ev4, ev5, ev6, ev7, ev8, ev9, ev10, ev11, ev12, ev13, ev14, DL.v_e0o new_at, x_asB, snoc_emp, Bool.not_false]
      rw [sgD_cons]
      have sr := s1 (.lst (sgD r))
      have sr' := s1 (.lst (sgD r ++ [seg (b, lo, hi)]))
      rw [hseg]
      obtain ⟨o, ho⟩ := tb.top
      have hnd := DL.atI_nat (nd_at ho)
      rw [ndD_eq] at hnd
      by_cases hin : A ≤ lo ∧ hi ≤ B
      · have c1 : decide ((A : Int) ≤ (lo : Int)) = true := decide_eq_true (by omega)
        have c2 : decide ((hi : Int) ≤ (B : Int)) = true := decide_eq_true (by omega)
        refine ⟨[.dat (.obj v), .dat (.int j), .dat (.int A), .dat (.int B), .dat (.int (t + S f lo (hi - lo))), .dat (.obj ω.length), .dat (.int b), .dat (.int lo), .dat (.int hi), .dat (.int (S f lo (hi - lo))), .dat (oc1 o), .dat (oc2 o), x12], ω ++ [.lst (sgD r)], wt r, ?_, by omega, r, t + S f lo (hi - lo), _, _, _, _, _, _, _, rfl, by omega, hrl', trr, ?_, rfl, rfl⟩
        · simp only [wb_Versions_total_1, startD, List.map, List.length, Nat.sub_self, List.replicate, List.append_nil, List.cons_append, List.nil_append, Nat.reduceSub, Nat.reduceAdd, List.set, rb_ok, rb_exc, rb_bad, x_bind, x_pure, x_some, x_none, x_badM, x_c, x_e2, x_e1, x_tB, x_asB, chK_t, chK_f, x_eCh, pick_t, pick_f, x_andM, x_orM, x_notM, x_and, x_or, x_not, x_if, x_nil, x_cons, szL0, szL1, szL2, szL3, szL4, szL6, szL7, szL8, szL10, szT0, szT1, szT2, szT3, szT4, x_tup, x_nlst, x_call, x_ncall, x_oNone, x_oSome, x_asI, x_sl, x_flst, x_alloc, bk_ok, bk_exc, x_fun, x_funK, opt_some, x_fld, x_mt, x_meth, mkK_ok, mkK_exc, x_make, x_makeK, x_next, x_seq, th_nx, th_rt, th_bk, th_ct, th_exc, x_drop, x_sret, x_sif, x_set, asgK_some, x_asg, tg_tp, tg_nm, setAll_nil, setAll_cons, parK_ok, x_par, par3K_ok, x_par3, x_sub, x_sfld, x_for, x_iL, x_iT, x_asL, x_asT, x_iR1, x_iR2, x_nlc, raK_ok, x_raise, fin_rt, fin_nx, fin_exc, x_try, try_rt, ev0, ev1, ev2, ev3, ev4, ev5, ev6, ev7, ev8, ev9, ev10, ev11, ev12, ev13, ev14, DL.v_sub, DL.v_add, DL.v_lt, DL.v_le, DL.v_gt, DL.v_ge, DL.v_fdiv2, DL.v_neg, DL.v_abs, DL.v_int, DL.v_min2, DL.v_max2, DL.v_eqI, DL.v_neI, DL.v_eqB, DL.v_neB, DL.v_isN, DL.v_notN, DL.v_isB, DL.v_e0l, DL.vL_lst, DL.isS_some, DL.v_ixL, DL.v_ixS, DL.v_ixT, DL.atI_0, DL.atI_1, DL.atI_2, DL.atI_3, DL.atI_4, DL.atI_5, DL.v_lenL, DL.v_lenS, DL.v_lenT, DL.v_lenD, DL.v_sumL, DL.v_sumT, DL.v_tupL, DL.v_tupT, DL.v_listT, DL.v_listL, DL.v_slT, DL.v_slL, DL.v_slS, DL.i_ii, DL.i_ib, DL.i_is, DL.i_id, DL.i_il, DL.i_it, DL.i_bi, DL.i_bb, DL.i_bt, DL.i_ni, DL.i_nb, DL.i_nt, DL.i_si, DL.i_sb, DL.i_ss, DL.i_st, DL.i_li, DL.i_lb, DL.i_ls, DL.i_ld, DL.i_ll, DL.i_lt, DL.i_ti, DL.i_tb, DL.i_ts, DL.i_td, DL.i_tl, DL.i_tt, DL.i_di, DL.i_db, DL.i_ds, DL.i_dd, DL.i_dt, DL.x_rev, DL.isNonD, vL_obj new_at, pop, hseg, fld_ok sr.hv vf_kept, DL.v_ixO sr.hk, hnd, c1, c2]
        · have : S (cutF f A B) lo (hi - lo) = S f lo (hi - lo) := S_congr _ _ fun i h1 h2 => by
            unfold cutF
            rw [if_pos ⟨by omega, by omega⟩]
          omega
      · have cin : (decide ((A : Int) ≤ (lo : Int)) && decide ((hi : Int) ≤ (B : Int))) = false := by
          rw [Bool.and_eq_false_iff]
          by_cases h : A ≤ lo
          · exact .inr (decide_eq_false (by omega))
          · exact .inl (decide_eq_false (by omega))
        by_cases hov : lo < B ∧ A < hi
        · have c1 : decide ((lo : Int) < (B : Int)) = true := decide_eq_true (by omega)
          have c2 : decide ((A : Int) < (hi : Int)) = true := decide_eq_true (by omega)
          cases tb with
          | leaf _ => omega
          | @node _ _ _ l r' h1 e tl tr' =>
            rw [ho] at e
            injection e with e
            injection e with _ e
            subst e
            have ext : ∀ γ, mtK mExtend (.obj ω.length) [.lst [.tup [.int l, .int lo, .int ((lo + hi) / 2 : Nat)], .tup [.int r', .int ((lo + hi) / 2 : Nat), .int hi]]] γ (ω ++ [.lst (sgD r)]) = .ok .non γ (ω ++ [.lst (sgD ((r', (lo + hi) / 2, hi) :: (l, lo, (lo + hi) / 2) :: r))]) := fun γ => by
              rw [m_ext new_at (by rw [sgD_len]; simp; omega), new_set, ← sgD_two]
              rfl
            refine ⟨[.dat (.obj v), .dat (.int j), .dat (.int A), .dat (.int B), .dat (.int t), .dat (.obj ω.length), .dat (.int b), .dat (.int lo), .dat (.int hi), .dat (.int (S f lo (hi - lo))), .dat (.int l), .dat (.int r'), .dat (.int ((lo + hi) / 2 : Nat))], ω ++ [.lst (sgD ((r', (lo + hi) / 2, hi) :: (l, lo, (lo + hi) / 2) :: r))], wt ((r', (lo + hi) / 2, hi) :: (l, lo, (lo + hi) / 2) :: r), ?_, ?_, (r', (lo + hi) / 2, hi) :: (l, lo, (lo + hi) / 2) :: r, t, _, _, _, _, _, _, _, rfl, ?_, ?_, ?_, ?_, rfl, rfl⟩
            · have e1 : oc1 (some (l, r')) = .int l := rfl
              have e2 : oc2 (some (l, r')) = .int r' := rfl
              rw [e1, e2] at hnd
              simp only [wb_Versions_total_1, startD, List.map, List.length, Nat.sub_self, List.replicate, List.append_nil, List.cons_append, List.nil_append, Nat.reduceSub, Nat.reduceAdd, List.set, rb_ok, rb_exc, rb_bad, x_bind, x_pure, x_some, x_none, x_badM, x_c, x_e2, x_e1, x_tB, x_asB, chK_t, chK_f, x_eCh, pick_t, pick_f, x_andM, x_orM, x_notM, x_and, x_or, x_not, x_if, x_nil, x_cons, szL0, szL1, szL2, szL3, szL4, szL6, szL7, szL8, szL10, szT0, szT1, szT2, szT3, szT4, x_tup, x_nlst, x_call, x_ncall, x_oNone, x_oSome, x_asI, x_sl, x_flst, x_alloc, bk_ok, bk_exc, x_fun, x_funK, opt_some, x_fld, x_mt, x_meth, mkK_ok, mkK_exc, x_make, x_makeK, x_next, x_seq, th_nx, th_rt, th_bk, th_ct, th_exc, x_drop, x_sret, x_sif, x_set, asgK_some, x_asg, tg_tp, tg_nm, setAll_nil, setAll_cons, parK_ok, x_par, par3K_ok, x_par3, x_sub, x_sfld, x_for, x_iL, x_iT, x_asL, x_asT, x_iR1, x_iR2, x_nlc, raK_ok, x_raise, fin_rt, fin_nx, fin_exc, x_try, try_rt, ev0, ev1, ev2, ev3, ev4, ev5, ev6, ev7, ev8, ev9, ev10, ev11, ev12, ev13, ev14, DL.v_sub, DL.v_add, DL.v_lt, DL.v_le, DL.v_gt, DL.v_ge, DL.v_fdiv2, DL.v_neg, DL.v_abs, DL.v_int, DL.v_min2, DL.v_max2, DL.v_eqI, DL.v_neI, DL.v_eqB, DL.v_neB, DL.v_isN, DL.v_notN, DL.v_isB, DL.v_e0l, DL.vL_lst, DL.isS_some, DL.v_ixL, DL.v_ixS, DL.v_ixT, DL.atI_0, DL.atI_1, DL.atI_2, DL.atI_3, DL.atI_4, DL.atI_5, DL.v_lenL, DL.v_lenS, DL.v_lenT, DL.v_lenD, DL.v_sumL, DL.v_sumT, DL.v_tupL, DL.v_tupT, DL.v_listT, DL.v_listL, DL.v_slT, DL.v_slL, DL.v_slS, DL.i_ii, DL.i_ib, DL.i_is, DL.i_id, DL.i_il, DL.i_it, DL.i_bi, DL.i_bb, DL.i_bt, DL.i_ni, DL.i_nb, DL.i_nt, DL.i_si, DL.i_sb, DL.i_ss, DL.i_st, DL.i_li, DL.i_lb, DL.i_ls, DL.i_ld, DL.i_ll, DL.i_lt, DL.i_ti, DL.i_tb, DL.i_ts, DL.i_td, DL.i_tl, DL.i_tt, DL.i_di, DL.i_db, DL.i_ds, DL.i_dd, DL.i_dt, DL.x_rev, DL.isNonD, vL_obj new_at, pop, hseg, fld_ok sr.hv vf_kept, DL.v_ixO sr.hk, hnd]
              rw [and_no (by simp only [rb_ok, rb_exc, rb_bad, x_bind, x_pure, x_some, x_none, x_badM, x_c, x_e2, x_e1, x_tB, x_asB, chK_t, chK_f, x_eCh, pick_t, pick_f, x_andM, x_orM, x_notM, x_and, x_or, x_not, x_if, x_nil, x_cons, szL0, szL1, szL2, szL3, szL4, szL6, szL7, szL8, szL10, szT0, szT1, szT2, szT3, szT4, x_tup, x_nlst, x_call, x_ncall, x_oNone, x_oSome, x_asI, x_sl, x_flst, x_alloc, bk_ok, bk_exc, x_fun, x_funK, opt_some, x_fld, x_mt, x_meth, mkK_ok, mkK_exc, x_make, x_makeK, x_next, x_seq, th_nx, th_rt, th_bk, th_ct, th_exc, x_drop, x_sret, x_sif, x_set, asgK_some, x_asg, tg_tp, tg_nm, setAll_nil, setAll_cons, parK_ok, x_par, par3K_ok, x_par3, x_sub, x_sfld, x_for, x_iL, x_iT, x_asL, x_asT, x_iR1, x_iR2, x_nlc, raK_ok, x_raise, fin_rt, fin_nx, fin_exc, x_try, try_rt, ev0, ev1, ev2, ev3, ev4, ev5, ev6, ev7, ev8, ev9, ev10, ev11, ev12, ev13, ev14, DL.v_sub, DL.v_add, DL.v_lt, DL.v_le, DL.v_gt, DL.v_ge, DL.v_fdiv2, DL.v_neg, DL.v_abs, DL.v_int, DL.v_min2, DL.v_max2, DL.v_eqI, DL.v_neI, DL.v_eqB, DL.v_neB, DL.v_isN, DL.v_notN, DL.v_isB, DL.v_e0l, DL.vL_lst, DL.isS_some, DL.v_ixL, DL.v_ixS, DL.v_ixT, DL.atI_0, DL.atI_1, DL.atI_2, DL.atI_3, DL.atI_4, DL.atI_5, DL.v_lenL, DL.v_lenS, DL.v_lenT, DL.v_lenD, DL.v_sumL, DL.v_sumT, DL.v_tupL, DL.v_tupT, DL.v_listT, DL.v_listL, DL.v_slT, DL.v_slL, DL.v_slS, DL.i_ii, DL.i_ib, DL.i_is, DL.i_id, DL.i_il, DL.i_it, DL.i_bi, DL.i_bb, DL.i_bt, DL.i_ni, DL.i_nb, DL.i_nt, DL.i_si, DL.i_sb, DL.i_ss, DL.i_st, DL.i_li, DL.i_lb, DL.i_ls, DL.i_ld, DL.i_ll, DL.i_lt, DL.i_ti, DL.i_tb, DL.i_ts, DL.i_td, DL.i_tl, DL.i_tt, DL.i_di, DL.i_db, DL.i_ds, DL.i_dd, DL.i_dt, DL.x_rev, DL.isNonD]) cin]
              simp only [startD, List.map, List.length, Nat.sub_self, List.replicate, List.append_nil, List.cons_append, List.nil_append, Nat.reduceSub, Nat.reduceAdd, List.set, rb_ok, rb_exc, rb_bad, x_bind, x_pure, x_some, x_none, x_badM, x_c, x_e2, x_e1, x_tB, x_asB, chK_t, chK_f, x_eCh, pick_t, pick_f, x_andM, x_orM, x_notM, x_and, x_or, x_not, x_if, x_nil, x_cons, szL0, szL1, szL2, szL3, szL4, szL6, szL7, szL8, szL10, szT0, szT1, szT2, szT3, szT4, x_tup, x_nlst, x_call, x_ncall, x_oNone, x_oSome, x_asI, x_sl, x_flst, x_alloc, bk_ok, bk_exc, x_fun, x_funK, opt_some, x_fld, x_mt, x_meth, mkK_ok, mkK_exc, x_make, x_makeK, x_next, x_seq, th_nx, th_rt, th_bk, th_ct, th_exc, x_drop, x_sret, x_sif, x_set, asgK_some, x_asg, tg_tp, tg_nm, setAll_nil, setAll_cons, parK_ok, x_par, par3K_ok, x_par3, x_sub, x_sfld, x_for, x_iL, x_iT, x_asL, x_asT, x_iR1, x_iR2, x_nlc, raK_ok, x_raise, fin_rt, fin_nx, fin_exc, x_try, try_rt, ev0, ev1, ev2, ev3, ev4, ev5, ev6, ev7, ev8, ev9, ev10, ev11, ev12, ev13, ev14, DL.v_sub, DL.v_add, DL.v_lt, DL.v_le, DL.v_gt, DL.v_ge, DL.v_fdiv2, DL.v_neg, DL.v_abs, DL.v_int, DL.v_min2, DL.v_max2, DL.v_eqI, DL.v_neI, DL.v_eqB, DL.v_neB, DL.v_isN, DL.v_notN, DL.v_isB, DL.v_e0l, DL.vL_lst, DL.isS_some, DL.v_ixL, DL.v_ixS, DL.v_ixT, DL.atI_0, DL.atI_1, DL.atI_2, DL.atI_3, DL.atI_4, DL.atI_5, DL.v_lenL, DL.v_lenS, DL.v_lenT, DL.v_lenD, DL.v_sumL, DL.v_sumT, DL.v_tupL, DL.v_tupT, DL.v_listT, DL.v_listL, DL.v_slT, DL.v_slL, DL.v_slS, DL.i_ii, DL.i_ib, DL.i_is, DL.i_id, DL.i_il, DL.i_it, DL.i_bi, DL.i_bb, DL.i_bt, DL.i_ni, DL.i_nb, DL.i_nt, DL.i_si, DL.i_sb, DL.i_ss, DL.i_st, DL.i_li, DL.i_lb, DL.i_ls, DL.i_ld, DL.i_ll, DL.i_lt, DL.i_ti, DL.i_tb, DL.i_ts, DL.i_td, DL.i_tl, DL.i_tt, DL.i_di, DL.i_db, DL.i_ds, DL.i_dd, DL.i_dt, DL.x_rev, DL.isNonD, c1, c2, half, vL_obj new_at, ext]
            · simp only [wt]; omega
            · simp only [wt]; omega
            · simp only [wt, List.length_cons]; omega
            · intro q hq
              rcases List.mem_cons.mp hq with h | h
              · subst h; exact tr'
              · rcases List.mem_cons.mp h with h | h
                · subst h; exact tl
                · exact trr q h
            · have := S_split (cutF f A B) (lo := lo) (mid := (lo + hi) / 2) (hi := hi) (by omega) (by omega)
              simp only [sv]
              omega
        · have cov : (decide ((lo : Int) < (B : Int)) && decide ((A : Int) < (hi : Int))) = false := by
            rw [Bool.and_eq_false_iff]
            by_cases h : lo < B
            · exact .inr (decide_eq_false (by omega))
            · exact .inl (decide_eq_false (by omega))
          refine ⟨[.dat (.obj v), .dat (.int j), .dat (.int A), .dat (.int B), .dat (.int t), .dat (.obj ω.length), .dat (.int b), .dat (.int lo), .dat (.int hi), .dat (.int (S f lo (hi - lo))), .dat (oc1 o), .dat (oc2 o), x12], ω ++ [.lst (sgD r)], wt r, ?_, by omega, r, t, _, _, _, _, _, _, _, rfl, by omega, hrl', trr, ?_, rfl, rfl⟩
          · simp only [wb_Versions_total_1, startD, List.map, List.length, Nat.sub_self, List.replicate, List.append_nil, List.cons_append, List.nil_append, Nat.reduceSub, Nat.reduceAdd, List.set, rb_ok, rb_exc, rb_bad, x_bind, x_pure, x_some, x_none, x_badM, x_c, x_e2, x_e1, x_tB, x_asB, chK_t, chK_f, x_eCh, pick_t, pick_f, x_andM, x_orM, x_notM, x_and, x_or, x_not, x_if, x_nil, x_cons, szL0, szL1, szL2, szL3, szL4, szL6, szL7, szL8, szL10, szT0, szT1, szT2, szT3, szT4, x_tup, x_nlst, x_call, x_ncall, x_oNone, x_oSome, x_asI, x_sl, x_flst, x_alloc, bk_ok, bk_exc, x_fun, x_funK, opt_some, x_fld, x_mt, x_meth, mkK_ok, mkK_exc, x_make, x_makeK, x_next, x_seq, th_nx, th_rt, th_bk, th_ct, th_exc, x_drop, x_sret, x_sif, x_set, asgK_some, x_asg, tg_tp, tg_nm, setAll_nil, setAll_cons, parK_ok, x_par, par3K_ok, x_par3, x_sub, x_sfld, x_for, x_iL, x_iT, x_asL, x_asT, x_iR1, x_iR2, x_nlc, raK_ok, x_raise, fin_rt, fin_nx, fin_exc, x_try, try_rt, ev0, ev1, ev2, ev3, ev4, ev5, ev6, ev7, ev8, ev9, ev10, ev11, ev12, ev13, ev14, DL.v_sub, DL.v_add, DL.v_lt, DL.v_le, DL.v_gt, DL.v_ge, DL.v_fdiv2, DL.v_neg, DL.v_abs, DL.v_int, DL.v_min2, DL.v_max2, DL.v_eqI, DL.v_neI, DL.v_eqB, DL.v_neB, DL.v_isN, DL.v_notN, DL.v_isB, DL.v_e0l, DL.vL_lst, DL.isS_some, DL.v_ixL, DL.v_ixS, DL.v_ixT, DL.atI_0, DL.atI_1, DL.atI_2, DL.atI_3, DL.atI_4, DL.atI_5, DL.v_lenL, DL.v_lenS, DL.v_lenT, DL.v_lenD, DL.v_sumL, DL.v_sumT, DL.v_tupL, DL.v_tupT, DL.v_listT, DL.v_listL, DL.v_slT, DL.v_slL, DL.v_slS, DL.i_ii, DL.i_ib, DL.i_is, DL.i_id, DL.i_il, DL.i_it, DL.i_bi, DL.i_bb, DL.i_bt, DL.i_ni, DL.i_nb, DL.i_nt, DL.i_si, DL.i_sb, DL.i_ss, DL.i_st, DL.i_li, DL.i_lb, DL.i_ls, DL.i_ld, DL.i_ll, DL.i_lt, DL.i_ti, DL.i_tb, DL.i_ts, DL.i_td, DL.i_tl, DL.i_tt, DL.i_di, DL.i_db, DL.i_ds, DL.i_dd, DL.i_dt, DL.x_rev, DL.isNonD, vL_obj new_at, pop, hseg, fld_ok sr.hv vf_kept, DL.v_ixO sr.hk, hnd]
            rw [and_no (by simp only [rb_ok, rb_exc, rb_bad, x_bind, x_pure, x_some, x_none, x_badM, x_c, x_e2, x_e1, x_tB, x_asB, chK_t, chK_f, x_eCh, pick_t, pick_f, x_andM, x_orM, x_notM, x_and, x_or, x_not, x_if, x_nil, x_cons, szL0, szL1, szL2, szL3, szL4, szL6, szL7, szL8, szL10, szT0, szT1, szT2, szT3, szT4, x_tup, x_nlst, x_call, x_ncall, x_oNone, x_oSome, x_asI, x_sl, x_flst, x_alloc, bk_ok, bk_exc, x_fun, x_funK, opt_some, x_fld, x_mt, x_meth, mkK_ok, mkK_exc, x_make, x_makeK, x_next, x_seq, th_nx, th_rt, th_bk, th_ct, th_exc, x_drop, x_sret, x_sif, x_set, asgK_some, x_asg, tg_tp, tg_nm, setAll_nil, setAll_cons, parK_ok, x_par, par3K_ok, x_par3, x_sub, x_sfld, x_for, x_iL, x_iT, x_asL, x_asT, x_iR1, x_iR2, x_nlc, raK_ok, x_raise, fin_rt, fin_nx, fin_exc, x_try, try_rt, ev0, ev1, ev2, ev3, ev4, ev5, ev6, ev7, ev8, ev9, ev10, ev11, ev12, ev13, ev14, DL.v_sub, DL.v_add, DL.v_lt, DL.v_le, DL.v_gt, DL.v_ge, DL.v_fdiv2, DL.v_neg, DL.v_abs, DL.v_int, DL.v_min2, DL.v_max2, DL.v_eqI, DL.v_neI, DL.v_eqB, DL.v_neB, DL.v_isN, DL.v_notN, DL.v_isB, DL.v_e0l, DL.vL_lst, DL.isS_some, DL.v_ixL, DL.v_ixS, DL.v_ixT, DL.atI_0, DL.atI_1, DL.atI_2, DL.atI_3, DL.atI_4, DL.atI_5, DL.v_lenL, DL.v_lenS, DL.v_lenT, DL.v_lenD, DL.v_sumL, DL.v_sumT, DL.v_tupL, DL.v_tupT, DL.v_listT, DL.v_listL, DL.v_slT, DL.v_slL, DL.v_slS, DL.i_ii, DL.i_ib, DL.i_is, DL.i_id, DL.i_il, DL.i_it, DL.i_bi, DL.i_bb, DL.i_bt, DL.i_ni, DL.i_nb, DL.i_nt, DL.i_si, DL.i_sb, DL.i_ss, DL.i_st, DL.i_li, DL.i_lb, DL.i_ls, DL.i_ld, DL.i_ll, DL.i_lt, DL.i_ti, DL.i_tb, DL.i_ts, DL.i_td, DL.i_tl, DL.i_tt, DL.i_di, DL.i_db, DL.i_ds, DL.i_dd, DL.i_dt, DL.x_rev, DL.isNonD]) cin]
            simp only [startD, List.map, List.length, Nat.sub_self, List.replicate, List.append_nil, List.cons_append, List.nil_append, Nat.reduceSub, Nat.reduceAdd, List.set, rb_ok, rb_exc, rb_bad, x_bind, x_pure, x_some, x_none, x_badM, x_c, x_e2, x_e1, x_tB, x_asB, chK_t, chK_f, x_eCh, pick_t, pick_f, x_andM, x_orM, x_notM, x_and, x_or, x_not, x_if, x_nil, x_cons, szL0, szL1, szL2, szL3, szL4, szL6, szL7, szL8, szL10, szT0, szT1, szT2, szT3, szT4, x_tup, x_nlst, x_call, x_ncall, x_oNone, x_oSome, x_asI, x_sl, x_flst, x_alloc, bk_ok, bk_exc, x_fun, x_funK, opt_some, x_fld, x_mt, x_meth, mkK_ok, mkK_exc, x_make, x_makeK, x_next, x_seq, th_nx, th_rt, th_bk, th_ct, th_exc, x_drop, x_sret, x_sif, x_set, asgK_some, x_asg, tg_tp, tg_nm, setAll_nil, setAll_cons, parK_ok, x_par, par3K_ok, x_par3, x_sub, x_sfld, x_for, x_iL, x_iT, x_asL, x_asT, x_iR1, x_iR2, x_nlc, raK_ok, x_raise, fin_rt, fin_nx, fin_exc, x_try, try_rt, ev0, ev1, ev2, ev3, ev4, ev5, ev6, ev7, ev8, ev9, ev10, ev11, ev12, ev13, ev14, DL.v_sub, DL.v_add, DL.v_lt, DL.v_le, DL.v_gt, DL.v_ge, DL.v_fdiv2, DL.v_neg, DL.v_abs, DL.v_int, DL.v_min2, DL.v_max2, DL.v_eqI, DL.v_neI, DL.v_eqB, DL.v_neB, DL.v_isN, DL.v_notN, DL.v_isB, DL.v_e0l, DL.vL_lst, DL.isS_some, DL.v_ixL, DL.v_ixS, DL.v_ixT, DL.atI_0, DL.atI_1, DL.atI_2, DL.atI_3, DL.atI_4, DL.atI_5, DL.v_lenL, DL.v_lenS, DL.v_lenT, DL.v_lenD, DL.v_sumL, DL.v_sumT, DL.v_tupL, DL.v_tupT, DL.v_listT, DL.v_listL, DL.v_slT, DL.v_slL, DL.v_slS, DL.i_ii, DL.i_ib, DL.i_is, DL.i_id, DL.i_il, DL.i_it, DL.i_bi, DL.i_bb, DL.i_bt, DL.i_ni, DL.i_nb, DL.i_nt, DL.i_si, DL.i_sb, DL.i_ss, DL.i_st, DL.i_li, DL.i_lb, DL.i_ls, DL.i_ld, DL.i_ll, DL.i_lt, DL.i_ti, DL.i_tb, DL.i_ts, DL.i_td, DL.i_tl, DL.i_tt, DL.i_di, DL.i_db, DL.i_ds, DL.i_dd, DL.i_dt, DL.x_rev, DL.isNonD]
            rw [and_no (by simp only [rb_ok, rb_exc, rb_bad, x_bind, x_pure, x_some, x_none, x_badM, x_c, x_e2, x_e1, x_tB, x_asB, chK_t, chK_f, x_eCh, pick_t, pick_f, x_andM, x_orM, x_notM, x_and, x_or, x_not, x_if, x_nil, x_cons, szL0, szL1, szL2, szL3, szL4, szL6, szL7, szL8, szL10, szT0, szT1, szT2, szT3, szT4, x_tup, x_nlst, x_call, x_ncall, x_oNone, x_oSome, x_asI, x_sl, x_flst, x_alloc, bk_ok, bk_exc, x_fun, x_funK, opt_some, x_fld, x_mt, x_meth, mkK_ok, mkK_exc, x_make, x_makeK, x_next, x_seq, th_nx, th_rt, th_bk, th_ct, th_exc, x_drop, x_sret, x_sif, x_set, asgK_some, x_asg, tg_tp, tg_nm, setAll_nil, setAll_cons, parK_ok, x_par, par3K_ok, x_par3, x_sub, x_sfld, x_for, x_iL, x_iT, x_asL, x_asT, x_iR1, x_iR2, x_nlc, raK_ok, x_raise, fin_rt, fin_nx, fin_exc, x_try, try_rt, ev0, ev1, ev2, ev3, ev4, ev5, ev6, ev7, ev8, ev9, ev10, ev11, ev12, ev13, ev14, DL.v_sub, DL.v_add, DL.v_lt, DL.v_le, DL.v_gt, DL.v_ge, DL.v_fdiv2, DL.v_neg, DL.v_abs, DL.v_int, DL.v_min2, DL.v_max2, DL.v_eqI, DL.v_neI, DL.v_eqB, DL.v_neB, DL.v_isN, DL.v_notN, DL.v_isB, DL.v_e0l, DL.vL_lst, DL.isS_some, DL.v_ixL, DL.v_ixS, DL.v_ixT, DL.atI_0, DL.atI_1, DL.atI_2, DL.atI_3, DL.atI_4, DL.atI_5, DL.v_lenL, DL.v_lenS, DL.v_lenT, DL.v_lenD, DL.v_sumL, DL.v_sumT, DL.v_tupL, DL.v_tupT, DL.v_listT, DL.v_listL, DL.v_slT, DL.v_slL, DL.v_slS, DL.i_ii, DL.i_ib, DL.i_is, DL.i_id, DL.i_il, DL.i_it, DL.i_bi, DL.i_bb, DL.i_bt, DL.i_ni, DL.i_nb, DL.i_nt, DL.i_si, DL.i_sb, DL.i_ss, DL.i_st, DL.i_li, DL.i_lb, DL.i_ls, DL.i_ld, DL.i_ll, DL.i_lt, DL.i_ti, DL.i_tb, DL.i_ts, DL.i_td, DL.i_tl, DL.i_tt, DL.i_di, DL.i_db, DL.i_ds, DL.i_dd, DL.i_dt, DL.x_rev, DL.isNonD]) cov]
            simp only [startD, List.map, List.length, Nat.sub_self, List.replicate, List.append_nil, List.cons_append, List.nil_append, Nat.reduceSub, Nat.reduceAdd, List.set, rb_ok, rb_exc, rb_bad, x_bind, x_pure, x_some, x_none, x_badM, x_c, x_e2, x_e1, x_tB, x_asB, chK_t, chK_f, x_eCh, pick_t, pick_f, x_andM, x_orM, x_notM, x_and, x_or, x_not, x_if, x_nil, x_cons, szL0, szL1, szL2, szL3, szL4, szL6, szL7, szL8, szL10, szT0, szT1, szT2, szT3, szT4, x_tup, x_nlst, x_call, x_ncall, x_oNone, x_oSome, x_asI, x_sl, x_flst, x_alloc, bk_ok, bk_exc, x_fun, x_funK, opt_some, x_fld, x_mt, x_meth, mkK_ok, mkK_exc, x_make, x_makeK, x_next, x_seq, th_nx, th_rt, th_bk, th_ct, th_exc, x_drop, x_sret, x_sif, x_set, asgK_some, x_asg, tg_tp, tg_nm, setAll_nil, setAll_cons, parK_ok, x_par, par3K_ok, x_par3, x_sub, x_sfld, x_for, x_iL, x_iT, x_asL, x_asT, x_iR1, x_iR2, x_nlc, raK_ok, x_raise, fin_rt, fin_nx, fin_exc, x_try, try_rt, ev0, ev1, ev2, ev3, ev4, ev5, ev6, ev7, ev8, ev9, ev10, ev11, ev12, ev13, ev14, DL.v_sub, DL.v_add, DL.v_lt, DL.v_le, DL.v_gt, DL.v_ge, DL.v_fdiv2, DL.v_neg, DL.v_abs, DL.v_int, DL.v_min2, DL.v_max2, DL.v_eqI, DL.v_neI, DL.v_eqB, DL.v_neB, DL.v_isN, DL.v_notN, DL.v_isB, DL.v_e0l, DL.vL_lst, DL.isS_some, DL.v_ixL, DL.v_ixS, DL.v_ixT, DL.atI_0, DL.atI_1, DL.atI_2, DL.atI_3, DL.atI_4, DL.atI_5, DL.v_lenL, DL.v_lenS, DL.v_lenT, DL.v_lenD, DL.v_sumL, DL.v_sumT, DL.v_tupL, DL.v_tupT, DL.v_listT, DL.v_listL, DL.v_slT, DL.v_slL, DL.v_slS, DL.i_ii, DL.i_ib, DL.i_is, DL.i_id, DL.i_il, DL.i_it, DL.i_bi, DL.i_bb, DL.i_bt, DL.i_ni, DL.i_nb, DL.i_nt, DL.i_si, DL.i_sb, DL.i_ss, DL.i_st, DL.i_li, DL.i_lb, DL.i_ls, DL.i_ld, DL.i_ll, DL.i_lt, DL.i_ti, DL.i_tb, DL.i_ts, DL.i_td, DL.i_tl, DL.i_tt, DL.i_di, DL.i_db, DL.i_ds, DL.i_dd, DL.i_dt, DL.x_rev, DL.isNonD]
          · have : S (cutF f A B) lo (hi - lo) = 0 := S_zero _ _ fun i h1 h2 => by
              unfold cutF
              rw [if_neg (by omega)]
            omega
  have hw := while_ok _ _ key 1000 (2 * n - 1) [.dat (.obj v), .dat (.int j), .dat (.int A), .dat (.int B), .dat (.int 0), .dat (.obj ω.length), .no, .no, .no, .no, .no, .no, .no] (ω ++ [.lst [.tup [.int a, .int 0, .int n]]]) (by omega) ⟨[(a, 0, n)], 0, .no, .no, .no, .no, .no, .no, .no, by simp only [wt]; omega, by simp only [wt]; omega, by have := tr.lt; simp only [wt, List.length_cons, List.length_nil]; omega, fun q hq => by
      rw [List.mem_singleton] at hq
      subst hq
      exact tr, by simp [sv], rfl, rfl⟩
  obtain ⟨γ', ω', e, x6, x7, x8, x9, x10, x11, x12, rfl, rfl⟩ := hw
  refine ⟨[.lst []], ?_⟩
  have hc := check_ok s (d := .int j) rfl (btw_nat hj)
  have b1 : btw (.int A) 0 n = true := by
    show (decide ((0 : Int) ≤ A) && decide ((A : Int) ≤ (n : Int))) = true
    rw [decide_eq_true (by omega), decide_eq_true (by omega)]
    rfl
  have b2 : btw (.int B) A n = true := by
    show (decide ((A : Int) ≤ B) && decide ((B : Int) ≤ (n : Int))) = true
    rw [decide_eq_true (by omega), decide_eq_true (by omega)]
    rfl
  have i1 := isbtw_ok (ω := ω) (d := .int A) rfl (lo := 0) (hi := (n : Int))
  have i2 := isbtw_ok (ω := ω) (d := .int B) rfl (lo := (A : Int)) (hi := (n : Int))
  rw [b1] at i1
  rw [b2] at i2
  have cr : F_check_range [.int A, .int B, .int n] ω = .ok .non [] ω := by
    simp only [F_check_range, m_check_range, startD, List.map, List.length, Nat.sub_self, List.replicate, List.append_nil, List.cons_append, List.nil_append, Nat.reduceSub, Nat.reduceAdd, List.set, rb_ok, rb_exc, rb_bad, x_bind, x_pure, x_some, x_none, x_badM, x_c, x_e2, x_e1, x_tB, x_asB, chK_t, chK_f, x_eCh, pick_t, pick_f, x_andM, x_orM, x_notM, x_and, x_or, x_not, x_if, x_nil, x_cons, szL0, szL1, szL2, szL3, szL4, szL6, szL7, szL8, szL10, szT0, szT1, szT2, szT3, szT4, x_tup, x_nlst, x_call, x_ncall, x_oNone, x_oSome, x_asI, x_sl, x_flst, x_alloc, bk_ok, bk_exc, x_fun, x_funK, opt_some, x_fld, x_mt, x_meth, mkK_ok, mkK_exc, x_make, x_makeK, x_next, x_seq, th_nx, th_rt, th_bk, th_ct, th_exc, x_drop, x_sret, x_sif, x_set, asgK_some, x_asg, tg_tp, tg_nm, setAll_nil, setAll_cons, parK_ok, x_par, par3K_ok, x_par3, x_sub, x_sfld, x_for, x_iL, x_iT, x_asL, x_asT, x_iR1, x_iR2, x_nlc, raK_ok, x_raise, fin_rt, fin_nx, fin_exc, x_try, try_rt, ev0, ev1, ev2, ev3, ev4, ev5, ev6, ev7, ev8, ev9, ev10, ev11, ev12, ev13, ev14, DL.v_sub, DL.v_add, DL.v_lt, DL.v_le, DL.v_gt, DL.v_ge, DL.v_fdiv2, DL.v_neg, DL.v_abs, DL.v_int, DL.v_min2, DL.v_max2, DL.v_eqI, DL.v_neI, DL.v_eqB, DL.v_neB, DL.v_isN, DL.v_notN, DL.v_isB, DL.v_e0l, DL.vL_lst, DL.isS_some, DL.v_ixL, DL.v_ixS, DL.v_ixT, DL.atI_0, DL.atI_1, DL.atI_2, DL.atI_3, DL.atI_4, DL.atI_5, DL.v_lenL, DL.v_lenS, DL.v_lenT, DL.v_lenD, DL.v_sumL, DL.v_sumT, DL.v_tupL, DL.v_tupT, DL.v_listT, DL.v_listL, DL.v_slT, DL.v_slL, DL.v_slS, DL.i_ii, DL.i_ib, DL.i_is, DL.i_id, DL.i_il, DL.i_it, DL.i_bi, DL.i_bb, DL.i_bt, DL.i_ni, DL.i_nb, DL.i_nt, DL.i_si, DL.i_sb, DL.i_ss, DL.i_st, DL.i_li, DL.i_lb, DL.i_ls, DL.i_ld, DL.i_ll, DL.i_lt, DL.i_ti, DL.i_tb, DL.i_ts, DL.i_td, DL.i_tl, DL.i_tt, DL.i_di, DL.i_db, DL.i_ds, DL.i_dd, DL.i_dt, DL.x_rev, DL.isNonD, i1, i2, Bool.not_true]
  simp only [F_Versions_total, m_Versions_total, startD, List.map, List.length, Nat.sub_self, List.replicate, List.append_nil, List.cons_append, List.nil_append, Nat.reduceSub, Nat.reduceAdd, List.set, rb_ok, rb_exc, rb_bad, x_bind, x_pure, x_some, x_none, x_badM, x_c, x_e2, x_e1, x_tB, x_asB, chK_t, chK_f, x_eCh, pick_t, pick_f, x_andM, x_orM, x_notM, x_and, x_or, x_not, x_if, x_nil, x_cons, szL0, szL1, szL2, szL3, szL4, szL6, szL7, szL8, szL10, szT0, szT1, szT2, szT3, szT4, x_tup, x_nlst, x_call, x_ncall, x_oNone, x_oSome, x_asI, x_sl, x_flst, x_alloc, bk_ok, bk_exc, x_fun, x_funK, opt_some, x_fld, x_mt, x_meth, mkK_ok, mkK_exc, x_make, x_makeK, x_next, x_seq, th_nx, th_rt, th_bk, th_ct, th_exc, x_drop, x_sret, x_sif, x_set, asgK_some, x_asg, tg_tp, tg_nm, setAll_nil, setAll_cons, parK_ok, x_par, par3K_ok, x_par3, x_sub, x_sfld, x_for, x_iL, x_iT, x_asL, x_asT, x_iR1, x_iR2, x_nlc, raK_ok, x_raise, fin_rt, fin_nx, fin_exc, x_try, try_rt, ev0, ev1, ev2, ev3, ev4, ev5, ev6, ev7, ev8, ev9, ev10, ev11, ev12, ev13, ev14, DL.v_sub, DL.v_add, DL.v_lt, DL.v_le, DL.v_gt, DL.v_ge, DL.v_fdiv2, DL.v_neg, DL.v_abs, DL.v_int, DL.v_min2, DL.v_max2, DL.v_eqI, DL.v_neI, DL.v_eqB, DL.v_neB, DL.v_isN, DL.v_notN, DL.v_isB, DL.v_e0l, DL.vL_lst, DL.isS_some, DL.v_ixL, DL.v_ixS, DL.v_ixT, DL.atI_0, DL.atI_1, DL.atI_2, DL.atI_3, DL.atI_4, DL.atI_5, DL.v_lenL, DL.v_lenS, DL.v_lenT, DL.v_lenD, DL.v_sumL, DL.v_sumT, DL.v_tupL, DL.v_tupT, DL.v_listT, DL.v_listL, DL.v_slT, DL.v_slL, DL.v_slS, DL.i_ii, DL.i_ib, DL.i_is, DL.i_id, DL.i_il, DL.i_it, DL.i_bi, DL.i_bb, DL.i_bt, DL.i_ni, DL.i_nb, DL.i_nt, DL.i_si, DL.i_sb, DL.i_ss, DL.i_st, DL.i_li, DL.i_lb, DL.i_ls, DL.i_ld, DL.i_ll, DL.i_lt, DL.i_ti, DL.i_tb, DL.i_ts, DL.i_td, DL.i_tl, DL.i_tt, DL.i_di, DL.i_db, DL.i_ds, DL.i_dd, DL.i_dt, DL.x_rev, DL.isNonD, isI_ok s.hv (vf_no (m := "check_version") (by decide +kernel)), hc, fld_ok s.hv vf_size, cr, fld_ok s.hv vf_tops, DL.v_ixO s.ht, DL.atI_nat hTd, e]
end
end K80

set_option Elab.async false
set_option linter.all false
set_option maxRecDepth 100000
set_option maxHeartbeats 2000000
namespace K80
open PySem PySem.Spec PyProof.Rows L2 DL

/-! ### unlike -/
abbrev Qd := Nat × Nat × Nat × Nat
def qd (q : Qd) : D := .tup [.int q.1, .int q.2.1, .int q.2.2.1, .int q.2.2.2]
/-- where f and g differ, over [lo, lo + m) -/
def dif (f g : Nat → Int) (lo : Nat) : Nat → List Int
  | 0 => []
  | m + 1 => (if f lo = g lo then [] else [(lo : Int)]) ++ dif f g (lo + 1) m
theorem dif_add (f g : Nat → Int) : ∀ (a lo b : Nat), dif f g lo (a + b) = dif f g lo a ++ dif f g (lo + a) b
  | 0, lo, b => by simp [dif]
  | a + 1, lo, b => by
    rw [show a + 1 + b = (a + b) + 1 from by omega]
    show _ ++ dif f g (lo + 1) (a + b) = (_ ++ dif f g (lo + 1) a) ++ dif f g (lo + (a + 1)) b
    rw [dif_add f g a (lo + 1) b, show lo + (a + 1) = lo + 1 + a from by omega, List.append_assoc]
theorem dif_split (f g : Nat → Int) {lo mid hi : Nat} (h1 : lo ≤ mid) (h2 : mid ≤ hi) : dif f g lo (mid - lo) ++ dif f g mid (hi - mid) = dif f g lo (hi - lo) := by
  have := dif_add f g (mid - lo) lo (hi - mid)
  rw [show mid - lo + (hi - mid) = hi - lo from by omega, show lo + (mid - lo) = mid from by omega] at this
  exact this.symm
theorem dif_same {f g : Nat → Int} : ∀ (m lo : Nat), (∀ i, lo ≤ i → i < lo + m → f i = g i) → dif f g lo m = []
  | 0, _, _ => rfl
  | m + 1, lo, h => by
    show (if f lo = g lo then [] else [(lo : Int)]) ++ dif f g (lo + 1) m = []
    rw [if_pos (h lo (by omega) (by omega)), dif_same m (lo + 1) fun i h1 h2 => h i (by omega) (by omega)]
    rfl
theorem dif_mem {f g : Nat → Int} : ∀ (m lo : Nat) (x : Int), x ∈ dif f g lo m → (lo : Int) ≤ x
  | 0, _, _, h => absurd h (by simp [dif])
  | m + 1, lo, x, h => by
    have h' : x ∈ (if f lo = g lo then [] else [(lo : Int)]) ++ dif f g (lo + 1) m := h
    rcases List.mem_append.mp h' with h | h
    · split at h
      · simp at h
      · have := List.mem_singleton.mp h
        omega
    · have := dif_mem m (lo + 1) x h
      omega
theorem dif_sorted {f g : Nat → Int} : ∀ (m lo : Nat), (dif f g lo m).Pairwise (· ≤ ·)
  | 0, _ => List.Pairwise.nil
  | m + 1, lo => by
    show ((if f lo = g lo then [] else [(lo : Int)]) ++ dif f g (lo + 1) m).Pairwise (· ≤ ·)
    split
    · exact dif_sorted m (lo + 1)
    · refine List.Pairwise.cons (fun x hx => ?_) (dif_sorted m (lo + 1))
      have := dif_mem m (lo + 1) x hx
      omega
theorem dif_len {f g : Nat → Int} : ∀ (m lo : Nat), (dif f g lo m).length ≤ m
  | 0, _ => Nat.le_refl _
  | m + 1, lo => by
    have := dif_len (f := f) (g := g) m (lo + 1)
    show ((if f lo = g lo then [] else [(lo : Int)]) ++ dif f g (lo + 1) m).length ≤ m + 1
    split <;> simp <;> omega
def wq : List Qd → Nat
  | [] => 0
  | q :: r => 2 * (q.2.2.2 - q.2.2.1) - 1 + wq r
def dq (f g : Nat → Int) : List Qd → List Int
  | [] => []
  | q :: r => dif f g q.2.2.1 (q.2.2.2 - q.2.2.1) ++ dq f g r
def qqD (r : List Qd) : List D := r.reverse.map qd
theorem qqD_cons (a : Qd) (r : List Qd) : qqD (a :: r) = qqD r ++ [qd a] := by simp [qqD]
theorem qqD_len (r : List Qd) : (qqD r).length = r.length := by simp [qqD]
section
variable {C : Addr} {v kt tp pa n : Nat} {N : List Nd} {T : List Nat} {P : List D} {ω : List OB}
theorem unlike_ok (s : VS C v kt tp pa n N T P ω) {f g : Nat → Int} {i j a b : Nat} (hi : T[i]? = some a) (hj : T[j]? = some b) (tf : Tr N f a 0 n) (tg : Tr N g b 0 n) (hn : n ≤ 400) :
    ∃ J, F_Versions_unlike C [.obj v, .int i, .int j] ω = .ok (.tup ((dif f g 0 n).map D.int)) [] (ω ++ J) := by
  have hTi : (T.map fun a : Nat => D.int a)[i]? = some (.int a) := by rw [List.getElem?_map, hi]; rfl
  have hTj : (T.map fun a : Nat => D.int a)[j]? = some (.int b) := by rw [List.getElem?_map, hj]; rfl
  have hil : i < T.length := (List.getElem?_eq_some_iff.mp hi).1
  have hjl : j < T.length := (List.getElem?_eq_some_iff.mp hj).1
  have s2 : ∀ x y, VS C v kt tp pa n N T P (ω ++ [x] ++ [y]) := fun x y => s.app.app
  have key : ∀ (k : Nat) (γ : List SD) (ω' : List OB), (∃ (r : List Qd) (F : List Int) (x5 x6 x7 x8 x9 : SD), k = wq r ∧ wq r ≤ 2 * n ∧ F.length + wq r ≤ 2 * n ∧ (∀ q ∈ r, Tr N f q.1 q.2.2.1 q.2.2.2 ∧ Tr N g q.2.1 q.2.2.1 q.2.2.2) ∧ (F ++ dq f g r).Perm (dif f g 0 n) ∧ γ = [.dat (.obj v), .dat (.int i), .dat (.int j), .dat (.obj ω.length), .dat (.obj (ω.length + 1)), x5, x6, x7, x8, x9] ∧ ω' = ω ++ [.lst (F.map D.int)] ++ [.lst (qqD r)]) →
      (wc_Versions_unlike_1 C γ ω' = .ok false γ ω' ∧ ∃ (F : List Int) (x5 x6 x7 x8 x9 : SD), F.Perm (dif f g 0 n) ∧ γ = [.dat (.obj v), .dat (.int i), .dat (.int j), .dat (.obj ω.length), .dat (.obj (ω.length + 1)), x5, x6, x7, x8, x9] ∧ ω' = ω ++ [.lst (F.map D.int)] ++ [.lst []]) ∨
      (wc_Versions_unlike_1 C γ ω' = .ok true γ ω' ∧ ∃ γ2 ω2 k', wb_Versions_unlike_1 C γ ω' = .ok .nx γ2 ω2 ∧ k' < k ∧
        ∃ (r : List Qd) (F : List Int) (x5 x6 x7 x8 x9 : SD), k' = wq r ∧ wq r ≤ 2 * n ∧ F.length + wq r ≤ 2 * n ∧ (∀ q ∈ r, Tr N f q.1 q.2.2.1 q.2.2.2 ∧ Tr N g q.2.1 q.2.2.1 q.2.2.2) ∧ (F ++ dq f g r).Perm (dif f g 0 n) ∧ γ2 = [.dat (.obj v), .dat (.int i), .dat (.int j), .dat (.obj ω.length), .dat (.obj (ω.length + 1)), x5, x6, x7, x8, x9] ∧ ω2 = ω ++ [.lst (F.map D.int)] ++ [.lst (qqD r)]) := by
    rintro k γ ω' ⟨r, F, x5, x6, x7, x8, x9, rfl, hwq, hfl, htr, hpm, rfl, rfl⟩
    cases r with
    | nil =>
      left
      refine ⟨?_, F, x5, x6, x7, x8, x9, ?_, rfl, rfl⟩
      · simp only [wc_Versions_unlike_1, startD, List.map, List.length, Nat.sub_self, List.replicate, List.append_nil, List.cons_append, List.nil_append, Nat.reduceSub, Nat.reduceAdd, List.set, rb_ok, rb_exc, rb_bad, x_bind, x_pure, x_some, x_none, x_badM, x_c, x_e2, x_e1, x_tB, x_asB, chK_t, chK_f, x_eCh, pick_t, pick_f, x_andM, x_orM, x_notM, x_and, x_or, x_not, x_if, x_nil, x_cons, szL0, szL1, szL2, szL3, szL4, szL6, szL7, szL8, szL10, szT0, szT1, szT2, szT3, szT4, x_tup, x_nlst, x_call, x_ncall, x_oNone, x_oSome, x_asI, x_sl, x_flst, x_alloc, bk_ok, bk_exc, x_fun, x_funK, opt_some, x_fld, x_mt, x_meth, mkK_ok, mkK_exc, x_make, x_makeK, x_next, x_seq, th_nx, th_rt, th_bk, th_ct, th_exc, x_drop, x_sret, x_sif, x_set, asgK_some, x_asg, tg_tp, tg_nm, setAll_nil, setAll_cons, parK_ok, x_par, par3K_ok, x_par3, x_sub, x_sfld, x_for, x_iL, x_iT, x_asL, x_asT, x_iR1, x_iR2, x_nlc, raK_ok, x_raise, fin_rt, fin_nx, fin_exc, x_try, try_rt, ev0, ev1, ev2, ev3, ev4, ev5, ev6, ev7, ev8, ev9, ev10, ev11, ev12, ev13, ev14, DL.v_e0o two1, x_asB]
        rfl
      · simpa [dq] using hpm
    | cons q r =>
      right
      obtain ⟨x, y, lo, hi'⟩ := q
      obtain ⟨tx0, ty0⟩ := htr _ List.mem_cons_self
      have trr : ∀ q ∈ r, Tr N f q.1 q.2.2.1 q.2.2.2 ∧ Tr N g q.2.1 q.2.2.1 q.2.2.2 := fun q hq => htr q (List.mem_cons_of_mem _ hq)
      have hlt : lo < hi' := tx0.lt
      have hwr : wq ((x, y, lo, hi') :: r) = 2 * (hi' - lo) - 1 + wq r := rfl
      have hdq : dq f g ((x, y, lo, hi') :: r) = dif f g lo (hi' - lo) ++ dq f g r := rfl
      have hrl : r.length ≤ wq r := by
        clear hwq hfl htr hpm hwr hdq
        induction r with
        | nil => exact Nat.zero_le _
        | cons q r ih =>
          have h1 := ih fun q hq => trr q (List.mem_cons_of_mem _ hq)
          have h2 := (trr q List.mem_cons_self).1.lt
          have : wq (q :: r) = 2 * (q.2.2.2 - q.2.2.1) - 1 + wq r := rfl
          simp
          omega
      rw [hwr] at hwq hfl
      rw [hdq] at hpm
      have pop : ∀ γ, mtK mPop (.obj (ω.length + 1)) [] γ (ω ++ [.lst (F.map D.int)] ++ [.lst (qqD r ++ [qd (x, y, lo, hi')])]) = .ok (qd (x, y, lo, hi')) γ (ω ++ [.lst (F.map D.int)] ++ [.lst (qqD r)]) := fun γ => by rw [m_pop two1, set1]
      have hqd : qd (x, y, lo, hi') = .tup [.int x, .int y, .int lo, .int hi'] := rfl
      rw [hqd] at pop
      have tx : Tr N f x lo hi' := tx0
      have ty : Tr N g y lo hi' := ty0
      have sr := s2 (.lst (F.map D.int)) (.lst (qqD r))
      refine ⟨by
        rw [qqD_cons]
        simp only [wc_Versions_unlike_1, startD, List.map, List.length, Nat.sub_self, List.replicate, List.append_nil, List.cons_append, List.nil_append, Nat.reduceSub, Nat.reduceAdd, List.set, rb_ok, rb_exc, rb_bad, x_bind, x_pure, x_some, x_none, x_badM, x_c, x_e2, x_e1, x_tB, x_asB, chK_t, chK_f, x_eCh, pick_t, pick_f, x_andM, x_orM, x_notM, x_and, x_or, x_not, x_if, x_nil, x_cons, szL0, szL1, szL2, szL3, szL4, szL6, szL7, szL8, szL10, szT0, szT1, szT2, szT3, szT4, x_tup, x_nlst, x_call, x_ncall, x_oNone, x_oSome, x_asI, x_sl, x_flst, x_alloc, bk_ok, bk_exc, x_fun, x_funK, opt_some, x_fld, x_mt, x_meth, mkK_ok, mkK_exc, x_make, x_makeK, x_next, x_seq, th_nx, th_rt, th_bk, th_ct, th_exc, x_drop, x_sret, x_sif, x_set, asgK_some, x_asg, tg_tp, tg_nm, setAll_nil, setAll_cons, parK_ok, x_par, par3K_ok, x_par3, x_sub, x_sfld, x_for, x_iL, x_iT, x_asL, x_asT, x_iR1, x_iR2, x_nlc, raK_ok, x_raise, fin_rt, fin_nx, fin_exc, x_try, try_rt, ev0, ev1, ev2, ev3, ev4, ev5, ev6, ev7, ev8, ev9, ev10, ev11, ev12, ev13, ev14, DL.v_e0o two1, x_asB, snoc_emp, Bool.not_false], ?_⟩
      rw [qqD_cons, hqd]
      by_cases hxy : x = y
      · subst hxy
        have hd : dif f g lo (hi' - lo) = [] := dif_same _ _ fun i h1 h2 => tx.det ty i h1 (by omega)
        have c1 : decide ((x : Int) = (x : Int)) = true := decide_eq_true rfl
        refine ⟨[.dat (.obj v), .dat (.int i), .dat (.int j), .dat (.obj ω.length), .dat (.obj (ω.length + 1)), .dat (.int x), .dat (.int x), .dat (.int lo), .dat (.int hi'), x9], ω ++ [.lst (F.map D.int)] ++ [.lst (qqD r)], wq r, ?_, by omega, r, F, _, _, _, _, _, rfl, by omega, by omega, trr, by rw [hd] at hpm; simpa using hpm, rfl, rfl⟩
        simp only [wb_Versions_unlike_1, startD, List.map, List.length, Nat.sub_self, List.replicate, List.append_nil, List.cons_append, List.nil_append, Nat.reduceSub, Nat.reduceAdd, List.set, rb_ok, rb_exc, rb_bad, x_bind, x_pure, x_some, x_none, x_badM, x_c, x_e2, x_e1, x_tB, x_asB, chK_t, chK_f, x_eCh, pick_t, pick_f, x_andM, x_orM, x_notM, x_and, x_or, x_not, x_if, x_nil, x_cons, szL0, szL1, szL2, szL3, szL4, szL6, szL7, szL8, szL10, szT0, szT1, szT2, szT3, szT4, x_tup, x_nlst, x_call, x_ncall, x_oNone, x_oSome, x_asI, x_sl, x_flst, x_alloc, bk_ok, bk_exc, x_fun, x_funK, opt_some, x_fld, x_mt, x_meth, mkK_ok, mkK_exc, x_make, x_makeK, x_next, x_seq, th_nx, th_rt, th_bk, th_ct, th_exc, x_drop, x_sret, x_sif, x_set, asgK_some, x_asg, tg_tp, tg_nm, setAll_nil, setAll_cons, parK_ok, x_par, par3K_ok, x_par3, x_sub, x_sfld, x_for, x_iL, x_iT, x_asL, x_asT, x_iR1, x_iR2, x_nlc, raK_ok, x_raise, fin_rt, fin_nx, fin_exc, x_try, try_rt, ev0, ev1, ev2, ev3, ev4, ev5, ev6, ev7, ev8, ev9, ev10, ev11, ev12, ev13, ev14, DL.v_sub, DL.v_add, DL.v_lt, DL.v_le, DL.v_gt, DL.v_ge, DL.v_fdiv2, DL.v_neg, DL.v_abs, DL.v_int, DL.v_min2, DL.v_max2, DL.v_eqI, DL.v_neI, DL.v_eqB, DL.v_neB, DL.v_isN, DL.v_notN, DL.v_isB, DL.v_e0l, DL.vL_lst, DL.isS_some, DL.v_ixL, DL.v_ixS, DL.v_ixT, DL.atI_0, DL.atI_1, DL.atI_2, DL.atI_3, DL.atI_4, DL.atI_5, DL.v_lenL, DL.v_lenS, DL.v_lenT, DL.v_lenD, DL.v_sumL, DL.v_sumT, DL.v_tupL, DL.v_tupT, DL.v_listT, DL.v_listL, DL.v_slT, DL.v_slL, DL.v_slS, DL.i_ii, DL.i_ib, DL.i_is, DL.i_id, DL.i_il, DL.i_it, DL.i_bi, DL.i_bb, DL.i_bt, DL.i_ni, DL.i_nb, DL.i_nt, DL.i_si, DL.i_sb, DL.i_ss, DL.i_st, DL.i_li, DL.i_lb, DL.i_ls, DL.i_ld, DL.i_ll, DL.i_lt, DL.i_ti, DL.i_tb, DL.i_ts, DL.i_td, DL.i_tl, DL.i_tt, DL.i_di, DL.i_db, DL.i_ds, DL.i_dd, DL.i_dt, DL.x_rev, DL.isNonD, vL_obj two1, pop, c1, decide_true, Bool.not_true]
      · have c1 : decide ((x : Int) = (y : Int)) = false := decide_eq_false (by omega)
        obtain ⟨o1, ho1⟩ := tx.top
        obtain ⟨o2, ho2⟩ := ty.top
        have n1 := DL.atI_nat (nd_at ho1)
        have n2 := DL.atI_nat (nd_at ho2)
        by_cases h1 : hi' = lo + 1
        · have c2 : decide ((hi' : Int) - (lo : Int) = 1) = true := decide_eq_true (by omega)
          have sf : S f lo (hi' - lo) = f lo := by rw [h1, show lo + 1 - lo = 1 from by omega]; simp [S]
          have sg : S g lo (hi' - lo) = g lo := by rw [h1, show lo + 1 - lo = 1 from by omega]; simp [S]
          have c4 : decide ((1 : Int) < (hi' : Int) - (lo : Int)) = false := decide_eq_false (by omega)
          rw [sf] at n1
          rw [sg] at n2
          have hdd : dif f g lo (hi' - lo) = if f lo = g lo then [] else [(lo : Int)] := by
            rw [h1, show lo + 1 - lo = 0 + 1 from by omega]
            simp [dif]
          by_cases h3 : f lo = g lo
          · have c3 : decide (f lo = g lo) = true := decide_eq_true h3
            rw [if_pos h3] at hdd
            refine ⟨[.dat (.obj v), .dat (.int i), .dat (.int j), .dat (.obj ω.length), .dat (.obj (ω.length + 1)), .dat (.int x), .dat (.int y), .dat (.int lo), .dat (.int hi'), x9], ω ++ [.lst (F.map D.int)] ++ [.lst (qqD r)], wq r, ?_, by omega, r, F, _, _, _, _, _, rfl, by omega, by omega, trr, by rw [hdd] at hpm; simpa using hpm, rfl, rfl⟩
            simp only [wb_Versions_unlike_1, startD, List.map, List.length, Nat.sub_self, List.replicate, List.append_nil, List.cons_append, List.nil_append, Nat.reduceSub, Nat.reduceAdd, List.set, rb_ok, rb_exc, rb_bad, x_bind, x_pure, x_some, x_none, x_badM, x_c, x_e2, x_e1, x_tB, x_asB, chK_t, chK_f, x_eCh, pick_t, pick_f, x_andM, x_orM, x_notM, x_and, x_or, x_not, x_if, x_nil, x_cons, szL0, szL1, szL2, szL3, szL4, szL6, szL7, szL8, szL10, szT0, szT1, szT2, szT3, szT4, x_tup, x_nlst, x_call, x_ncall, x_oNone, x_oSome, x_asI, x_sl, x_flst, x_alloc, bk_ok, bk_exc, x_fun, x_funK, opt_some, x_fld, x_mt, x_meth, mkK_ok, mkK_exc, x_make, x_makeK, x_next, x_seq, th_nx, th_rt, th_bk, th_ct, th_exc, x_drop, x_sret, x_sif, x_set, asgK_some, x_asg, tg_tp, tg_nm, setAll_nil, setAll_cons, parK_ok, x_par, par3K_ok, x_par3, x_sub, x_sfld, x_for, x_iL, x_iT, x_asL, x_asT, x_iR1, x_iR2, x_nlc, raK_ok, x_raise, fin_rt, fin_nx, fin_exc, x_try, try_rt, ev0, ev1, ev2, ev3, ev4, ev5, ev6, ev7, ev8, ev9, ev10, ev11, ev12, ev13, ev14, DL.v_sub, DL.v_add, DL.v_lt, DL.v_le, DL.v_gt, DL.v_ge, DL.v_fdiv2, DL.v_neg, DL.v_abs, DL.v_int, DL.v_min2, DL.v_max2, DL.v_eqI, DL.v_neI, DL.v_eqB, DL.v_neB, DL.v_isN, DL.v_notN, DL.v_isB, DL.v_e0l, DL.vL_lst, DL.isS_some, DL.v_ixL, DL.v_ixS, DL.v_ixT, DL.atI_0, DL.atI_1, DL.atI_2, DL.atI_3, DL.atI_4, DL.atI_5, DL.v_lenL, DL.v_lenS, DL.v_lenT, DL.v_lenD, DL.v_sumL, DL.v_sumT, DL.v_tupL, DL.v_tupT, DL.v_listT, DL.v_listL, DL.v_slT, DL.v_slL, DL.v_slS, DL.i_ii, DL.i_ib, DL.i_is, DL.i_id, DL.i_il, DL.i_it, DL.i_bi, DL.i_bb, DL.i_bt, DL.i_ni, DL.i_nb, DL.i_nt, DL.i_si, DL.i_sb, DL.i_ss, DL.i_st, DL.i_li, DL.i_lb, DL.i_ls, DL.i_ld, DL.i_ll, DL.i_lt, DL.i_ti, DL.i_tb, DL.i_ts, DL.i_td, DL.i_tl, DL.i_tt, DL.i_di, DL.i_db, DL.i_ds, DL.i_dd, DL.i_dt, DL.x_rev, DL.isNonD, vL_obj two1, pop, hqd, c1, Bool.not_false, c2, fld_ok sr.hv vf_kept, DL.v_ixO sr.hk, n1, n2, tup_ix0, c3, Bool.not_true, c4]
          · have c3 : decide (f lo = g lo) = false := decide_eq_false h3
            rw [if_neg h3] at hdd
            have app : ∀ γ, mtK mAppend (.obj ω.length) [.int lo] γ (ω ++ [.lst (F.map D.int)] ++ [.lst (qqD r)]) = .ok .non γ (ω ++ [.lst ((F ++ [(lo : Int)]).map D.int)] ++ [.lst (qqD r)]) := fun γ => by
              rw [m_app two0 (by rw [List.length_map]; omega), set0, List.map_append]
              rfl
            refine ⟨[.dat (.obj v), .dat (.int i), .dat (.int j), .dat (.obj ω.length), .dat (.obj (ω.length + 1)), .dat (.int x), .dat (.int y), .dat (.int lo), .dat (.int hi'), x9], ω ++ [.lst ((F ++ [(lo : Int)]).map D.int)] ++ [.lst (qqD r)], wq r, ?_, by omega, r, F ++ [(lo : Int)], _, _, _, _, _, rfl, by omega, by rw [List.length_append, List.length_singleton]; omega, trr, by rw [hdd] at hpm; simpa using hpm, rfl, rfl⟩
            simp only [wb_Versions_unlike_1, startD, List.map, List.length, Nat.sub_self, List.replicate, List.append_nil, List.cons_append, List.nil_append, Nat.reduceSub, Nat.reduceAdd, List.set, rb_ok, rb_exc, rb_bad, x_bind, x_pure, x_some, x_none, x_badM, x_c, x_e2, x_e1, x_tB, x_asB, chK_t, chK_f, x_eCh, pick_t, pick_f, x_andM, x_orM, x_notM, x_and, x_or, x_not, x_if, x_nil, x_cons, szL0, szL1, szL2, szL3, szL4, szL6, szL7, szL8, szL10, szT0, szT1, szT2, szT3, szT4, x_tup, x_nlst, x_call, x_ncall, x_oNone, x_oSome, x_asI, x_sl, x_flst, x_alloc, bk_ok, bk_exc, x_fun, x_funK, opt_some, x_fld, x_mt, x_meth, mkK_ok, mkK_exc, x_make, x_makeK, x_next, x_seq, th_nx, th_rt, th_bk, th_ct, th_exc, x_drop, x_sret, x_sif, x_set, asgK_some, x_asg, tg_tp, tg_nm, setAll_nil, setAll_cons, parK_ok, x_par, par3K_ok, x_par3, x_sub, x_sfld, x_for, x_iL, x_iT, x_asL, x_asT, x_iR1, x_iR2, x_nlc, raK_ok, x_raise, fin_rt, fin_nx, fin_exc, x_try, try_rt, ev0, ev1, ev2, ev3, ev4, ev5, ev6, ev7, ev8, ev9, ev10, ev11, ev12, ev13, ev14, DL.v_sub, DL.v_add, DL.v_lt, DL.v_le, DL.v_gt, DL.v_ge, DL.v_fdiv2, DL.v_neg, DL.v_abs, DL.v_int, DL.v_min2, DL.v_max2, DL.v_eqI, DL.v_neI, DL.v_eqB, DL.v_neB, DL.v_isN, DL.v_notN, DL.v_isB, DL.v_e0l, DL.vL_lst, DL.isS_some, DL.v_ixL, DL.v_ixS, DL.v_ixT, DL.atI_0, DL.atI_1, DL.atI_2, DL.atI_3, DL.atI_4, DL.atI_5, DL.v_lenL, DL.v_lenS, DL.v_lenT, DL.v_lenD, DL.v_sumL, DL.v_sumT, DL.v_tupL, DL.v_tupT, DL.v_listT, DL.v_listL, DL.v_slT, DL.v_slL, DL.v_slS, DL.i_ii, DL.i_ib, DL.i_is, DL.i_id, DL.i_il, DL.i_it, DL.i_bi, DL.i_bb, DL.i_bt, DL.i_ni, DL.i_nb, DL.i_nt, DL.i_si, DL.i_sb, DL.i_ss, DL.i_st, DL.i_li, DL.i_lb, DL.i_ls, DL.i_ld, DL.i_ll, DL.i_lt, DL.i_ti, DL.i_tb, DL.i_ts, DL.i_td, DL.i_tl, DL.i_tt, DL.i_di, DL.i_db, DL.i_ds, DL.i_dd, DL.i_dt, DL.x_rev, DL.isNonD, vL_obj two1, pop, hqd, c1, Bool.not_false, c2, fld_ok sr.hv vf_kept, DL.v_ixO sr.hk, n1, n2, tup_ix0, c3, vL_obj two0, app]
        · have c2 : decide ((hi' : Int) - (lo : Int) = 1) = false := decide_eq_false (by omega)
          have c4 : decide ((1 : Int) < (hi' : Int) - (lo : Int)) = true := decide_eq_true (by omega)
          cases tx with
          | leaf _ => omega
          | @node _ _ _ l1 r1 _ e1 tl1 tr1 =>
            cases ty with
            | leaf _ => omega
            | @node _ _ _ l2 r2 _ e2 tl2 tr2 =>
              rw [ho1] at e1
              injection e1 with e1
              injection e1 with _ e1
              subst e1
              rw [ho2] at e2
              injection e2 with e2
              injection e2 with _ e2
              subst e2
              have hmc : (((lo + hi') / 2 : Nat) : Int) = ((lo : Int) + (hi' : Int)) / 2 := by omega
              have app1 : ∀ γ, mtK mAppend (.obj (ω.length + 1)) [.tup [.int l1, .int l2, .int lo, .int (((lo : Int) + (hi' : Int)) / 2)]] γ (ω ++ [.lst (F.map D.int)] ++ [.lst (qqD r)]) = .ok .non γ (ω ++ [.lst (F.map D.int)] ++ [.lst (qqD ((l1, l2, lo, (lo + hi') / 2) :: r))]) := fun γ => by
                rw [m_app two1 (by rw [qqD_len]; omega), set1, qqD_cons, ← hmc]
                rfl
              have app2 : ∀ γ, mtK mAppend (.obj (ω.length + 1)) [.tup [.int r1, .int r2, .int (((lo : Int) + (hi' : Int)) / 2), .int hi']] γ (ω ++ [.lst (F.map D.int)] ++ [.lst (qqD ((l1, l2, lo, (lo + hi') / 2) :: r))]) = .ok .non γ (ω ++ [.lst (F.map D.int)] ++ [.lst (qqD ((r1, r2, (lo + hi') / 2, hi') :: (l1, l2, lo, (lo + hi') / 2) :: r))]) := fun γ => by
                rw [m_app two1 (by rw [qqD_len, List.length_cons]; omega), set1, qqD_cons (a := (r1, r2, (lo + hi') / 2, hi')), ← hmc]
                rfl
              have sr2 := s2 (.lst (F.map D.int)) (.lst (qqD ((l1, l2, lo, (lo + hi') / 2) :: r)))
              refine ⟨[.dat (.obj v), .dat (.int i), .dat (.int j), .dat (.obj ω.length), .dat (.obj (ω.length + 1)), .dat (.int x), .dat (.int y), .dat (.int lo), .dat (.int hi'), .dat (.int (((lo : Int) + (hi' : Int)) / 2))], ω ++ [.lst (F.map D.int)] ++ [.lst (qqD ((r1, r2, (lo + hi') / 2, hi') :: (l1, l2, lo, (lo + hi') / 2) :: r))], wq ((r1, r2, (lo + hi') / 2, hi') :: (l1, l2, lo, (lo + hi') / 2) :: r), ?_, by simp only [wq]; omega, (r1, r2, (lo + hi') / 2, hi') :: (l1, l2, lo, (lo + hi') / 2) :: r, F, _, _, _, _, _, rfl, by simp only [wq]; omega, by simp only [wq]; omega, ?_, ?_, rfl, rfl⟩
              · simp only [wb_Versions_unlike_1, startD, List.map, List.length, Nat.sub_self, List.replicate, List.append_nil, List.cons_append, List.nil_append, Nat.reduceSub, Nat.reduceAdd, List.set, rb_ok, rb_exc, rb_bad, x_bind, x_pure, x_some, x_none, x_badM, x_c, x_e2, x_e1, x_tB, x_asB, chK_t, chK_f, x_eCh, pick_t, pick_f, x_andM, x_orM, x_notM, x_and, x_or, x_not, x_if, x_nil, x_cons, szL0, szL1, szL2, szL3, szL4, szL6, szL7, szL8, szL10, szT0, szT1, szT2, szT3, szT4, x_tup, x_nlst, x_call, x_ncall, x_oNone, x_oSome, x_asI, x_sl, x_flst, x_alloc, bk_ok, bk_exc, x_fun, x_funK, opt_some, x_fld, x_mt, x_meth, mkK_ok, mkK_exc, x_make, x_makeK, x_next, x_seq, th_nx, th_rt, th_bk, th_ct, th_exc, x_drop, x_sret, x_sif, x_set, asgK_some, x_asg, tg_tp, tg_nm, setAll_nil, setAll_cons, parK_ok, x_par, par3K_ok, x_par3, x_sub, x_sfld, x_for, x_iL, x_iT, x_asL, x_asT, x_iR1, x_iR2, x_nlc, raK_ok, x_raise, fin_rt, fin_nx, fin_exc, x_try, try_rt, ev0, ev1, ev2, ev3, ev4, ev5, ev6, ev7, ev8, ev9, ev10, ev11, ev12, ev13, ev14, DL.v_sub, DL.v_add, DL.v_lt, DL.v_le, DL.v_gt, DL.v_ge, DL.v_fdiv2, DL.v_neg, DL.v_abs, DL.v_int, DL.v_min2, DL.v_max2, DL.v_eqI, DL.v_neI, DL.v_eqB, DL.v_neB, DL.v_isN, DL.v_notN, DL.v_isB, DL.v_e0l, DL.vL_lst, DL.isS_some, DL.v_ixL, DL.v_ixS, DL.v_ixT, DL.atI_0, DL.atI_1, DL.atI_2, DL.atI_3, DL.atI_4, DL.atI_5, DL.v_lenL, DL.v_lenS, DL.v_lenT, DL.v_lenD, DL.v_sumL, DL.v_sumT, DL.v_tupL, DL.v_tupT, DL.v_listT, DL.v_listL, DL.v_slT, DL.v_slL, DL.v_slS, DL.i_ii, DL.i_ib, DL.i_is, DL.i_id, DL.i_il, DL.i_it, DL.i_bi, DL.i_bb, DL.i_bt, DL.i_ni, DL.i_nb, DL.i_nt, DL.i_si, DL.i_sb, DL.i_ss, DL.i_st, DL.i_li, DL.i_lb, DL.i_ls, DL.i_ld, DL.i_ll, DL.i_lt, DL.i_ti, DL.i_tb, DL.i_ts, DL.i_td, DL.i_tl, DL.i_tt, DL.i_di, DL.i_db, DL.i_ds, DL.i_dd, DL.i_dt, DL.x_rev, DL.isNonD, vL_obj two1, pop, hqd, c1, Bool.not_false, c2, c4, fld_ok sr.hv vf_kept, DL.v_ixO sr.hk, n1, n2, tup_ix1, app1, fld_ok sr2.hv vf_kept, DL.v_ixO sr2.hk, tup_ix2, app2]
              · intro q hq
                rcases List.mem_cons.mp hq with h | h
                · subst h; exact ⟨tr1, tr2⟩
                · rcases List.mem_cons.mp h with h | h
                  · subst h; exact ⟨tl1, tl2⟩
                  · exact trr q h
              · refine List.Perm.trans ?_ hpm
                rw [← dif_split f g (lo := lo) (mid := (lo + hi') / 2) (hi := hi') (by omega) (by omega)]
                show (F ++ (dif f g ((lo + hi') / 2) (hi' - (lo + hi') / 2) ++ (dif f g lo ((lo + hi') / 2 - lo) ++ dq f g r))).Perm _
                refine List.Perm.append_left F ?_
                rw [← List.append_assoc]
                exact List.Perm.append_right _ List.perm_append_comm
  have hw := while_ok _ _ key 1000 (2 * n - 1) [.dat (.obj v), .dat (.int i), .dat (.int j), .dat (.obj ω.length), .dat (.obj (ω.length + 1)), .no, .no, .no, .no, .no] (ω ++ [.lst []] ++ [.lst [.tup [.int a, .int b, .int 0, .int n]]]) (by omega) ⟨[(a, b, 0, n)], [], .no, .no, .no, .no, .no, by simp only [wq]; omega, by simp only [wq]; omega, by simp only [wq, List.length_nil]; omega, fun q hq => by
      rw [List.mem_singleton] at hq
      subst hq
      exact ⟨tf, tg⟩, by simp [dq], rfl, rfl⟩
  obtain ⟨γ', ω', e, F, x5, x6, x7, x8, x9, pm, rfl, rfl⟩ := hw
  refine ⟨[.lst (F.map D.int), .lst []], ?_⟩
  have hc1 := check_ok s (d := .int i) rfl (btw_nat hil)
  have hc2 := check_ok s (d := .int j) rfl (btw_nat hjl)
  have s1 := s.app (J := [.lst []])
  have hso : oSorted (ω ++ [.lst (F.map D.int)] ++ [.lst []]) [.obj ω.length] = some ((dif f g 0 n).map D.int) := by
    have h1 : intsOf (ω ++ [.lst (F.map D.int)] ++ [.lst []]) [.obj ω.length] = some F := by
      show (vLs _ _).bind intsD = _
      rw [vLs_obj two0]
      exact intsD_map F
    unfold oSorted
    rw [h1, perm_sortI pm.symm (dif_sorted n 0)]
    rfl
  simp only [F_Versions_unlike, m_Versions_unlike, startD, List.map, List.length, Nat.sub_self, List.replicate, List.append_nil, List.cons_append, List.nil_append, Nat.reduceSub, Nat.reduceAdd, List.set, rb_ok, rb_exc, rb_bad, x_bind, x_pure, x_some, x_none, x_badM, x_c, x_e2, x_e1, x_tB, x_asB, chK_t, chK_f, x_eCh, pick_t, pick_f, x_andM, x_orM, x_notM, x_and, x_or, x_not, x_if, x_nil, x_cons, szL0, szL1, szL2, szL3, szL4, szL6, szL7, szL8, szL10, szT0, szT1, szT2, szT3, szT4, x_tup, x_nlst, x_call, x_ncall, x_oNone, x_oSome, x_asI, x_sl, x_flst, x_alloc, bk_ok, bk_exc, x_fun, x_funK, opt_some, x_fld, x_mt, x_meth, mkK_ok, mkK_exc, x_make, x_makeK, x_next, x_seq, th_nx, th_rt, th_bk, th_ct, th_exc, x_drop, x_sret, x_sif, x_set, asgK_some, x_asg, tg_tp, tg_nm, setAll_nil, setAll_cons, parK_ok, x_par, par3K_ok, x_par3, x_sub, x_sfld, x_for, x_iL, x_iT, x_asL, x_asT, x_iR1, x_iR2, x_nlc, raK_ok, x_raise, fin_rt, fin_nx, fin_exc, x_try, try_rt, ev0, ev1, ev2, ev3, ev4, ev5, ev6, ev7, ev8, ev9, ev10, ev11, ev12, ev13, ev14, DL.v_sub, DL.v_add, DL.v_lt, DL.v_le, DL.v_gt, DL.v_ge, DL.v_fdiv2, DL.v_neg, DL.v_abs, DL.v_int, DL.v_min2, DL.v_max2, DL.v_eqI, DL.v_neI, DL.v_eqB, DL.v_neB, DL.v_isN, DL.v_notN, DL.v_isB, DL.v_e0l, DL.vL_lst, DL.isS_some, DL.v_ixL, DL.v_ixS, DL.v_ixT, DL.atI_0, DL.atI_1, DL.atI_2, DL.atI_3, DL.atI_4, DL.atI_5, DL.v_lenL, DL.v_lenS, DL.v_lenT, DL.v_lenD, DL.v_sumL, DL.v_sumT, DL.v_tupL, DL.v_tupT, DL.v_listT, DL.v_listL, DL.v_slT, DL.v_slL, DL.v_slS, DL.i_ii, DL.i_ib, DL.i_is, DL.i_id, DL.i_il, DL.i_it, DL.i_bi, DL.i_bb, DL.i_bt, DL.i_ni, DL.i_nb, DL.i_nt, DL.i_si, DL.i_sb, DL.i_ss, DL.i_st, DL.i_li, DL.i_lb, DL.i_ls, DL.i_ld, DL.i_ll, DL.i_lt, DL.i_ti, DL.i_tb, DL.i_ts, DL.i_td, DL.i_tl, DL.i_tt, DL.i_di, DL.i_db, DL.i_ds, DL.i_dd, DL.i_dt, DL.x_rev, DL.isNonD, isI_ok s.hv (vf_no (m := "check_version") (by decide +kernel)), hc1, hc2, fld_ok s1.hv vf_tops, DL.v_ixO s1.ht, DL.atI_nat hTi, DL.atI_nat hTj, fld_ok s1.hv vf_size, len1, e, hso]
  rw [List.append_assoc]
  rfl
end
end K80

set_option Elab.async false
set_option linter.all false
set_option maxRecDepth 100000
set_option maxHeartbeats 2000000
namespace K80
open PySem PySem.Spec PyProof.Rows L2 DL

/-! ### words -/
theorem eqv_str {a b : Str} : PyData.eqv (.str a) (.str b) = decide (a = b) := by
  unfold PyData.eqv
  first
  | rfl
  | exact Bool.beq_eq_decide_eq _ _
theorem v_eqS {ω : List OB} {a b : Str} (ha : PyData.strOk a = true) (hb : PyData.strOk b = true) : oEq ω (.str a) (.str b) = some (.bl (decide (a = b))) := by
  have e : eqB ω (.str a) (.str b) = some (PyData.eqv (.str a) (.str b)) := by
    unfold eqB n1 pyOf
    dsimp only
    simp [PyData.canLay0, PyData.depth, ha, hb]
  unfold oEq
  rw [e, eqv_str]
  rfl
theorem ne_InvalidIndex_InvalidVersion : ¬ (("InvalidIndex" : Str) = "InvalidVersion") := by decide +kernel
theorem ne_InvalidNumber_InvalidVersion : ¬ (("InvalidNumber" : Str) = "InvalidVersion") := by decide +kernel
theorem ne_InvalidNumber_InvalidIndex : ¬ (("InvalidNumber" : Str) = "InvalidIndex") := by decide +kernel
theorem ne_InvalidRange_InvalidVersion : ¬ (("InvalidRange" : Str) = "InvalidVersion") := by decide +kernel
theorem ne_InvalidRange_InvalidIndex : ¬ (("InvalidRange" : Str) = "InvalidIndex") := by decide +kernel
theorem ne_InvalidRange_InvalidNumber : ¬ (("InvalidRange" : Str) = "InvalidNumber") := by decide +kernel
theorem ne_TooMany_InvalidVersion : ¬ (("TooMany" : Str) = "InvalidVersion") := by decide +kernel
theorem ne_TooMany_InvalidIndex : ¬ (("TooMany" : Str) = "InvalidIndex") := by decide +kernel
theorem ne_TooMany_InvalidNumber : ¬ (("TooMany" : Str) = "InvalidNumber") := by decide +kernel
theorem ne_TooMany_InvalidRange : ¬ (("TooMany" : Str) = "InvalidRange") := by decide +kernel
theorem w_set_set {ω : List OB} : oEq ω (.str "set") (.str "set") = some (.bl true) := by
  rw [v_eqS (by decide +kernel) (by decide +kernel)]
  have h : decide (("set" : Str) = "set") = true := by decide +kernel
  rw [h]
theorem w_set_row {ω : List OB} : oEq ω (.str "set") (.str "row") = some (.bl false) := by
  rw [v_eqS (by decide +kernel) (by decide +kernel)]
  have h : decide (("set" : Str) = "row") = false := by decide +kernel
  rw [h]
theorem w_set_sum {ω : List OB} : oEq ω (.str "set") (.str "sum") = some (.bl false) := by
  rw [v_eqS (by decide +kernel) (by decide +kernel)]
  have h : decide (("set" : Str) = "sum") = false := by decide +kernel
  rw [h]
theorem w_set_parent {ω : List OB} : oEq ω (.str "set") (.str "parent") = some (.bl false) := by
  rw [v_eqS (by decide +kernel) (by decide +kernel)]
  have h : decide (("set" : Str) = "parent") = false := by decide +kernel
  rw [h]
theorem w_row_set {ω : List OB} : oEq ω (.str "row") (.str "set") = some (.bl false) := by
  rw [v_eqS (by decide +kernel) (by decide +kernel)]
  have h : decide (("row" : Str) = "set") = false := by decide +kernel
  rw [h]
theorem w_row_row {ω : List OB} : oEq ω (.str "row") (.str "row") = some (.bl true) := by
  rw [v_eqS (by decide +kernel) (by decide +kernel)]
  have h : decide (("row" : Str) = "row") = true := by decide +kernel
  rw [h]
theorem w_row_sum {ω : List OB} : oEq ω (.str "row") (.str "sum") = some (.bl false) := by
  rw [v_eqS (by decide +kernel) (by decide +kernel)]
  have h : decide (("row" : Str) = "sum") = false := by decide +kernel
  rw [h]
theorem w_row_parent {ω : List OB} : oEq ω (.str "row") (.str "parent") = some (.bl false) := by
  rw [v_eqS (by decide +kernel) (by decide +kernel)]
  have h : decide (("row" : Str) = "parent") = false := by decide +kernel
  rw [h]
theorem w_sum_set {ω : List OB} : oEq ω (.str "sum") (.str "set") = some (.bl false) := by
  rw [v_eqS (by decide +kernel) (by decide +kernel)]
  have h : decide (("sum" : Str) = "set") = false := by decide +kernel
  rw [h]
theorem w_sum_row {ω : List OB} : oEq ω (.str "sum") (.str "row") = some (.bl false) := by
  rw [v_eqS (by decide +kernel) (by decide +kernel)]
  have h : decide (("sum" : Str) = "row") = false := by decide +kernel
  rw [h]
theorem w_sum_sum {ω : List OB} : oEq ω (.str "sum") (.str "sum") = some (.bl true) := by
  rw [v_eqS (by decide +kernel) (by decide +kernel)]
  have h : decide (("sum" : Str) = "sum") = true := by decide +kernel
  rw [h]
theorem w_sum_parent {ω : List OB} : oEq ω (.str "sum") (.str "parent") = some (.bl false) := by
  rw [v_eqS (by decide +kernel) (by decide +kernel)]
  have h : decide (("sum" : Str) = "parent") = false := by decide +kernel
  rw [h]
theorem w_parent_set {ω : List OB} : oEq ω (.str "parent") (.str "set") = some (.bl false) := by
  rw [v_eqS (by decide +kernel) (by decide +kernel)]
  have h : decide (("parent" : Str) = "set") = false := by decide +kernel
  rw [h]
theorem w_parent_row {ω : List OB} : oEq ω (.str "parent") (.str "row") = some (.bl false) := by
  rw [v_eqS (by decide +kernel) (by decide +kernel)]
  have h : decide (("parent" : Str) = "row") = false := by decide +kernel
  rw [h]
theorem w_parent_sum {ω : List OB} : oEq ω (.str "parent") (.str "sum") = some (.bl false) := by
  rw [v_eqS (by decide +kernel) (by decide +kernel)]
  have h : decide (("parent" : Str) = "sum") = false := by decide +kernel
  rw [h]
theorem w_parent_parent {ω : List OB} : oEq ω (.str "parent") (.str "parent") = some (.bl true) := by
  rw [v_eqS (by decide +kernel) (by decide +kernel)]
  have h : decide (("parent" : Str) = "parent") = true := by decide +kernel
  rw [h]
theorem w_unlike_set {ω : List OB} : oEq ω (.str "unlike") (.str "set") = some (.bl false) := by
  rw [v_eqS (by decide +kernel) (by decide +kernel)]
  have h : decide (("unlike" : Str) = "set") = false := by decide +kernel
  rw [h]
theorem w_unlike_row {ω : List OB} : oEq ω (.str "unlike") (.str "row") = some (.bl false) := by
  rw [v_eqS (by decide +kernel) (by decide +kernel)]
  have h : decide (("unlike" : Str) = "row") = false := by decide +kernel
  rw [h]
theorem w_unlike_sum {ω : List OB} : oEq ω (.str "unlike") (.str "sum") = some (.bl false) := by
  rw [v_eqS (by decide +kernel) (by decide +kernel)]
  have h : decide (("unlike" : Str) = "sum") = false := by decide +kernel
  rw [h]
theorem w_unlike_parent {ω : List OB} : oEq ω (.str "unlike") (.str "parent") = some (.bl false) := by
  rw [v_eqS (by decide +kernel) (by decide +kernel)]
  have h : decide (("unlike" : Str) = "parent") = false := by decide +kernel
  rw [h]
theorem pm1 {a : D} : permL [0] [a] = [a] := rfl
theorem pm2 {a b : D} : permL [1, 0] [a, b] = [b, a] := rfl
theorem pm3 {a b c : D} : permL [2, 1, 0] [a, b, c] = [c, b, a] := rfl
/-- the errors' words -/
def ans (x f : Str) : Str := if x = "InvalidVersion" then "version" else if x = "InvalidIndex" then "index" else if x = "InvalidNumber" then "number" else if x = "InvalidRange" then "range" else "many"
/-- is it one of them? -/
def known (x f : Str) : Prop := (x = "InvalidVersion" ∧ f = "given") ∨ (x = "InvalidIndex" ∧ f = "given") ∨ (x = "InvalidNumber" ∧ f = "given") ∨ (x = "InvalidRange" ∧ f = "given") ∨ (x = "TooMany" ∧ f = "count")
theorem try_x {x f : Str} {d : D} {a0 a1 a2 a3 a4 : SD} {ω : List OB} (h : known x f) : tryK kn__law_asked subE [⟨"InvalidVersion", some 4, uWord "version" "given"⟩, ⟨"InvalidIndex", some 4, uWord "index" "given"⟩, ⟨"InvalidNumber", some 4, uWord "number" "given"⟩, ⟨"InvalidRange", some 4, uWord "range" "given"⟩, ⟨"TooMany", some 4, uWord "many" "count"⟩] (.exc ⟨x, [(f, d)]⟩ [a0, a1, a2, a3, a4] ω) = .ok (.rt (.lst [.str (ans x f), d])) [a0, a1, a2, a3, .no] ω := by
  rcases h with ⟨rfl, rfl⟩ | ⟨rfl, rfl⟩ | ⟨rfl, rfl⟩ | ⟨rfl, rfl⟩ | ⟨rfl, rfl⟩ <;>
  simp [tryK, handle, subE, Hd.go, uWord, kn__law_asked, Res.shut, Res.unname, ans, ne_InvalidIndex_InvalidVersion, ne_InvalidNumber_InvalidVersion, ne_InvalidNumber_InvalidIndex, ne_InvalidRange_InvalidVersion, ne_InvalidRange_InvalidIndex, ne_InvalidRange_InvalidNumber, ne_TooMany_InvalidVersion, ne_TooMany_InvalidIndex, ne_TooMany_InvalidNumber, ne_TooMany_InvalidRange]
/-- what an asked one tells -/
def told : Res D → Res D
  | .ok d _ ω => .ok (.lst [.str "told", d]) [] ω
  | .exc e _ ω => (match e.fs with
    | [(f, d)] => .ok (.lst [.str (ans e.cls f), d]) [] ω
    | _ => .bad)
  | .bad => .bad
def fine : Res D → Prop
  | .ok _ _ _ => True
  | .exc e _ _ => ∃ f d, e.fs = [(f, d)] ∧ known e.cls f
  | .bad => False
section
variable {C : Addr} {v : Nat} {ω : List OB}
theorem ask_set {d0 d1 d2 : D} {b : Bool} (hm : isI C ω (.obj v) "change" = true) (h : fine (F_Versions_change C [.obj v, d0, d1, d2] ω)) : F__law_asked C [.obj v, .str "set", .lst [d0, d1, d2], .bl b] ω = told (F_Versions_change C [.obj v, d0, d1, d2] ω) := by
  cases e : F_Versions_change C [.obj v, d0, d1, d2] ω with
  | bad => rw [e] at h; exact h.elim
  | ok d γ ω' =>
    cases b with
    | false => simp only [F__law_asked, m__law_asked, told, startD, List.map, List.length, Nat.sub_self, List.replicate, List.append_nil, List.cons_append, List.nil_append, Nat.reduceSub, Nat.reduceAdd, List.set, rb_ok, rb_exc, rb_bad, x_bind, x_pure, x_some, x_none, x_badM, x_c, x_e2, x_e1, x_tB, x_asB, chK_t, chK_f, x_eCh, pick_t, pick_f, x_andM, x_orM, x_notM, x_and, x_or, x_not, x_if, x_nil, x_cons, szL0, szL1, szL2, szL3, szL4, szL6, szL7, szL8, szL10, szT0, szT1, szT2, szT3, szT4, x_tup, x_nlst, x_call, x_ncall, x_oNone, x_oSome, x_asI, x_sl, x_flst, x_alloc, bk_ok, bk_exc, x_fun, x_funK, opt_some, x_fld, x_mt, x_meth, mkK_ok, mkK_exc, x_make, x_makeK, x_next, x_seq, th_nx, th_rt, th_bk, th_ct, th_exc, x_drop, x_sret, x_sif, x_set, asgK_some, x_asg, tg_tp, tg_nm, setAll_nil, setAll_cons, parK_ok, x_par, par3K_ok, x_par3, x_sub, x_sfld, x_for, x_iL, x_iT, x_asL, x_asT, x_iR1, x_iR2, x_nlc, raK_ok, x_raise, fin_rt, fin_nx, fin_exc, x_try, try_rt, ev0, ev1, ev2, ev3, ev4, ev5, ev6, ev7, ev8, ev9, ev10, ev11, ev12, ev13, ev14, DL.v_sub, DL.v_add, DL.v_lt, DL.v_le, DL.v_gt, DL.v_ge, DL.v_fdiv2, DL.v_neg, DL.v_abs, DL.v_int, DL.v_min2, DL.v_max2, DL.v_eqI, DL.v_neI, DL.v_eqB, DL.v_neB, DL.v_isN, DL.v_notN, DL.v_isB, DL.v_e0l, DL.vL_lst, DL.isS_some, DL.v_ixL, DL.v_ixS, DL.v_ixT, DL.atI_0, DL.atI_1, DL.atI_2, DL.atI_3, DL.atI_4, DL.atI_5, DL.v_lenL, DL.v_lenS, DL.v_lenT, DL.v_lenD, DL.v_sumL, DL.v_sumT, DL.v_tupL, DL.v_tupT, DL.v_listT, DL.v_listL, DL.v_slT, DL.v_slL, DL.v_slS, DL.i_ii, DL.i_ib, DL.i_is, DL.i_id, DL.i_il, DL.i_it, DL.i_bi, DL.i_bb, DL.i_bt, DL.i_ni, DL.i_nb, DL.i_nt, DL.i_si, DL.i_sb, DL.i_ss, DL.i_st, DL.i_li, DL.i_lb, DL.i_ls, DL.i_ld, DL.i_ll, DL.i_lt, DL.i_ti, DL.i_tb, DL.i_ts, DL.i_td, DL.i_tl, DL.i_tt, DL.i_di, DL.i_db, DL.i_ds, DL.i_dd, DL.i_dt, DL.x_rev, DL.isNonD, x_bind, pm1, pm2, pm3, w_set_set, hm, e]
    | true => simp only [F__law_asked, m__law_asked, told, startD, List.map, List.length, Nat.sub_self, List.replicate, List.append_nil, List.cons_append, List.nil_append, Nat.reduceSub, Nat.reduceAdd, List.set, rb_ok, rb_exc, rb_bad, x_bind, x_pure, x_some, x_none, x_badM, x_c, x_e2, x_e1, x_tB, x_asB, chK_t, chK_f, x_eCh, pick_t, pick_f, x_andM, x_orM, x_notM, x_and, x_or, x_not, x_if, x_nil, x_cons, szL0, szL1, szL2, szL3, szL4, szL6, szL7, szL8, szL10, szT0, szT1, szT2, szT3, szT4, x_tup, x_nlst, x_call, x_ncall, x_oNone, x_oSome, x_asI, x_sl, x_flst, x_alloc, bk_ok, bk_exc, x_fun, x_funK, opt_some, x_fld, x_mt, x_meth, mkK_ok, mkK_exc, x_make, x_makeK, x_next, x_seq, th_nx, th_rt, th_bk, th_ct, th_exc, x_drop, x_sret, x_sif, x_set, asgK_some, x_asg, tg_tp, tg_nm, setAll_nil, setAll_cons, parK_ok, x_par, par3K_ok, x_par3, x_sub, x_sfld, x_for, x_iL, x_iT, x_asL, x_asT, x_iR1, x_iR2, x_nlc, raK_ok, x_raise, fin_rt, fin_nx, fin_exc, x_try, try_rt, ev0, ev1, ev2, ev3, ev4, ev5, ev6, ev7, ev8, ev9, ev10, ev11, ev12, ev13, ev14, DL.v_sub, DL.v_add, DL.v_lt, DL.v_le, DL.v_gt, DL.v_ge, DL.v_fdiv2, DL.v_neg, DL.v_abs, DL.v_int, DL.v_min2, DL.v_max2, DL.v_eqI, DL.v_neI, DL.v_eqB, DL.v_neB, DL.v_isN, DL.v_notN, DL.v_isB, DL.v_e0l, DL.vL_lst, DL.isS_some, DL.v_ixL, DL.v_ixS, DL.v_ixT, DL.atI_0, DL.atI_1, DL.atI_2, DL.atI_3, DL.atI_4, DL.atI_5, DL.v_lenL, DL.v_lenS, DL.v_lenT, DL.v_lenD, DL.v_sumL, DL.v_sumT, DL.v_tupL, DL.v_tupT, DL.v_listT, DL.v_listL, DL.v_slT, DL.v_slL, DL.v_slS, DL.i_ii, DL.i_ib, DL.i_is, DL.i_id, DL.i_il, DL.i_it, DL.i_bi, DL.i_bb, DL.i_bt, DL.i_ni, DL.i_nb, DL.i_nt, DL.i_si, DL.i_sb, DL.i_ss, DL.i_st, DL.i_li, DL.i_lb, DL.i_ls, DL.i_ld, DL.i_ll, DL.i_lt, DL.i_ti, DL.i_tb, DL.i_ts, DL.i_td, DL.i_tl, DL.i_tt, DL.i_di, DL.i_db, DL.i_ds, DL.i_dd, DL.i_dt, DL.x_rev, DL.isNonD, x_bind, pm1, pm2, pm3, w_set_set, hm, e]
  | exc x γ ω' =>
    rw [e] at h
    obtain ⟨f, d, hf, hk⟩ := h
    obtain ⟨cl, fs⟩ := x
    have hf : fs = [(f, d)] := hf
    subst hf
    cases b with
    | false => simp only [F__law_asked, m__law_asked, told, startD, List.map, List.length, Nat.sub_self, List.replicate, List.append_nil, List.cons_append, List.nil_append, Nat.reduceSub, Nat.reduceAdd, List.set, rb_ok, rb_exc, rb_bad, x_bind, x_pure, x_some, x_none, x_badM, x_c, x_e2, x_e1, x_tB, x_asB, chK_t, chK_f, x_eCh, pick_t, pick_f, x_andM, x_orM, x_notM, x_and, x_or, x_not, x_if, x_nil, x_cons, szL0, szL1, szL2, szL3, szL4, szL6, szL7, szL8, szL10, szT0, szT1, szT2, szT3, szT4, x_tup, x_nlst, x_call, x_ncall, x_oNone, x_oSome, x_asI, x_sl, x_flst, x_alloc, bk_ok, bk_exc, x_fun, x_funK, opt_some, x_fld, x_mt, x_meth, mkK_ok, mkK_exc, x_make, x_makeK, x_next, x_seq, th_nx, th_rt, th_bk, th_ct, th_exc, x_drop, x_sret, x_sif, x_set, asgK_some, x_asg, tg_tp, tg_nm, setAll_nil, setAll_cons, parK_ok, x_par, par3K_ok, x_par3, x_sub, x_sfld, x_for, x_iL, x_iT, x_asL, x_asT, x_iR1, x_iR2, x_nlc, raK_ok, x_raise, fin_rt, fin_nx, fin_exc, x_try, try_rt, ev0, ev1, ev2, ev3, ev4, ev5, ev6, ev7, ev8, ev9, ev10, ev11, ev12, ev13, ev14, DL.v_sub, DL.v_add, DL.v_lt, DL.v_le, DL.v_gt, DL.v_ge, DL.v_fdiv2, DL.v_neg, DL.v_abs, DL.v_int, DL.v_min2, DL.v_max2, DL.v_eqI, DL.v_neI, DL.v_eqB, DL.v_neB, DL.v_isN, DL.v_notN, DL.v_isB, DL.v_e0l, DL.vL_lst, DL.isS_some, DL.v_ixL, DL.v_ixS, DL.v_ixT, DL.atI_0, DL.atI_1, DL.atI_2, DL.atI_3, DL.atI_4, DL.atI_5, DL.v_lenL, DL.v_lenS, DL.v_lenT, DL.v_lenD, DL.v_sumL, DL.v_sumT, DL.v_tupL, DL.v_tupT, DL.v_listT, DL.v_listL, DL.v_slT, DL.v_slL, DL.v_slS, DL.i_ii, DL.i_ib, DL.i_is, DL.i_id, DL.i_il, DL.i_it, DL.i_bi, DL.i_bb, DL.i_bt, DL.i_ni, DL.i_nb, DL.i_nt, DL.i_si, DL.i_sb, DL.i_ss, DL.i_st, DL.i_li, DL.i_lb, DL.i_ls, DL.i_ld, DL.i_ll, DL.i_lt, DL.i_ti, DL.i_tb, DL.i_ts, DL.i_td, DL.i_tl, DL.i_tt, DL.i_di, DL.i_db, DL.i_ds, DL.i_dd, DL.i_dt, DL.x_rev, DL.isNonD, x_bind, pm1, pm2, pm3, w_set_set, hm, e, try_x hk]
    | true => simp only [F__law_asked, m__law_asked, told, startD, List.map, List.length, Nat.sub_self, List.replicate, List.append_nil, List.cons_append, List.nil_append, Nat.reduceSub, Nat.reduceAdd, List.set, rb_ok, rb_exc, rb_bad, x_bind, x_pure, x_some, x_none, x_badM, x_c, x_e2, x_e1, x_tB, x_asB, chK_t, chK_f, x_eCh, pick_t, pick_f, x_andM, x_orM, x_notM, x_and, x_or, x_not, x_if, x_nil, x_cons, szL0, szL1, szL2, szL3, szL4, szL6, szL7, szL8, szL10, szT0, szT1, szT2, szT3, szT4, x_tup, x_nlst, x_call, x_ncall, x_oNone, x_oSome, x_asI, x_sl, x_flst, x_alloc, bk_ok, bk_exc, x_fun, x_funK, opt_some, x_fld, x_mt, x_meth, mkK_ok, mkK_exc, x_make, x_makeK, x_next, x_seq, th_nx, th_rt, th_bk, th_ct, th_exc, x_drop, x_sret, x_sif, x_set, asgK_some, x_asg, tg_tp, tg_nm, setAll_nil, setAll_cons, parK_ok, x_par, par3K_ok, x_par3, x_sub, x_sfld, x_for, x_iL, x_iT, x_asL, x_asT, x_iR1, x_iR2, x_nlc, raK_ok, x_raise, fin_rt, fin_nx, fin_exc, x_try, try_rt, ev0, ev1, ev2, ev3, ev4, ev5, ev6, ev7, ev8, ev9, ev10, ev11, ev12, ev13, ev14, DL.v_sub, DL.v_add, DL.v_lt, DL.v_le, DL.v_gt, DL.v_ge, DL.v_fdiv2, DL.v_neg, DL.v_abs, DL.v_int, DL.v_min2, DL.v_max2, DL.v_eqI, DL.v_neI, DL.v_eqB, DL.v_neB, DL.v_isN, DL.v_notN, DL.v_isB, DL.v_e0l, DL.vL_lst, DL.isS_some, DL.v_ixL, DL.v_ixS, DL.v_ixT, DL.atI_0, DL.atI_1, DL.atI_2, DL.atI_3, DL.atI_4, DL.atI_5, DL.v_lenL, DL.v_lenS, DL.v_lenT, DL.v_lenD, DL.v_sumL, DL.v_sumT, DL.v_tupL, DL.v_tupT, DL.v_listT, DL.v_listL, DL.v_slT, DL.v_slL, DL.v_slS, DL.i_ii, DL.i_ib, DL.i_is, DL.i_id, DL.i_il, DL.i_it, DL.i_bi, DL.i_bb, DL.i_bt, DL.i_ni, DL.i_nb, DL.i_nt, DL.i_si, DL.i_sb, DL.i_ss, DL.i_st, DL.i_li, DL.i_lb, DL.i_ls, DL.i_ld, DL.i_ll, DL.i_lt, DL.i_ti, DL.i_tb, DL.i_ts, DL.i_td, DL.i_tl, DL.i_tt, DL.i_di, DL.i_db, DL.i_ds, DL.i_dd, DL.i_dt, DL.x_rev, DL.isNonD, x_bind, pm1, pm2, pm3, w_set_set, hm, e, try_x hk]
theorem ask_row {d0 : D} {b : Bool} (hm : isI C ω (.obj v) "row" = true) (h : fine (F_Versions_row C [.obj v, d0] ω)) : F__law_asked C [.obj v, .str "row", .lst [d0], .bl b] ω = told (F_Versions_row C [.obj v, d0] ω) := by
  cases e : F_Versions_row C [.obj v, d0] ω with
  | bad => rw [e] at h; exact h.elim
  | ok d γ ω' =>
    cases b with
    | false => simp only [F__law_asked, m__law_asked, told, startD, List.map, List.length, Nat.sub_self, List.replicate, List.append_nil, List.cons_append, List.nil_append, Nat.reduceSub, Nat.reduceAdd, List.set, rb_ok, rb_exc, rb_bad, x_bind, x_pure, x_some, x_none, x_badM, x_c, x_e2, x_e1, x_tB, x_asB, chK_t, chK_f, x_eCh, pick_t, pick_f, x_andM, x_orM, x_notM, x_and, x_or, x_not, x_if, x_nil, x_cons, szL0, szL1, szL2, szL3, szL4, szL6, szL7, szL8, szL10, szT0, szT1, szT2, szT3, szT4, x_tup, x_nlst, x_call, x_ncall, x_oNone, x_oSome, x_asI, x_sl, x_flst, x_alloc, bk_ok, bk_exc, x_fun, x_funK, opt_some, x_fld, x_mt, x_meth, mkK_ok, mkK_exc, x_make, x_makeK, x_next, x_seq, th_nx, th_rt, th_bk, th_ct, th_exc, x_drop, x_sret, x_sif, x_set, asgK_some, x_asg, tg_tp, tg_nm, setAll_nil, setAll_cons, parK_ok, x_par, par3K_ok, x_par3, x_sub, x_sfld, x_for, x_iL, x_iT, x_asL, x_asT, x_iR1, x_iR2, x_nlc, raK_ok, x_raise, fin_rt, fin_nx, fin_exc, x_try, try_rt, ev0, ev1, ev2, ev3, ev4, ev5, ev6, ev7, ev8, ev9, ev10, ev11, ev12, ev13, ev14, DL.v_sub, DL.v_add, DL.v_lt, DL.v_le, DL.v_gt, DL.v_ge, DL.v_fdiv2, DL.v_neg, DL.v_abs, DL.v_int, DL.v_min2, DL.v_max2, DL.v_eqI, DL.v_neI, DL.v_eqB, DL.v_neB, DL.v_isN, DL.v_notN, DL.v_isB, DL.v_e0l, DL.vL_lst, DL.isS_some, DL.v_ixL, DL.v_ixS, DL.v_ixT, DL.atI_0, DL.atI_1, DL.atI_2, DL.atI_3, DL.atI_4, DL.atI_5, DL.v_lenL, DL.v_lenS, DL.v_lenT, DL.v_lenD, DL.v_sumL, DL.v_sumT, DL.v_tupL, DL.v_tupT, DL.v_listT, DL.v_listL, DL.v_slT, DL.v_slL, DL.v_slS, DL.i_ii, DL.i_ib, DL.i_is, DL.i_id, DL.i_il, DL.i_it, DL.i_bi, DL.i_bb, DL.i_bt, DL.i_ni, DL.i_nb, DL.i_nt, DL.i_si, DL.i_sb, DL.i_ss, DL.i_st, DL.i_li, DL.i_lb, DL.i_ls, DL.i_ld, DL.i_ll, DL.i_lt, DL.i_ti, DL.i_tb, DL.i_ts, DL.i_td, DL.i_tl, DL.i_tt, DL.i_di, DL.i_db, DL.i_ds, DL.i_dd, DL.i_dt, DL.x_rev, DL.isNonD, x_bind, pm1, pm2, pm3, w_row_set, w_row_row, hm, e]
    | true => simp only [F__law_asked, m__law_asked, told, startD, List.map, List.length, Nat.sub_self, List.replicate, List.append_nil, List.cons_append, List.nil_append, Nat.reduceSub, Nat.reduceAdd, List.set, rb_ok, rb_exc, rb_bad, x_bind, x_pure, x_some, x_none, x_badM, x_c, x_e2, x_e1, x_tB, x_asB, chK_t, chK_f, x_eCh, pick_t, pick_f, x_andM, x_orM, x_notM, x_and, x_or, x_not, x_if, x_nil, x_cons, szL0, szL1, szL2, szL3, szL4, szL6, szL7, szL8, szL10, szT0, szT1, szT2, szT3, szT4, x_tup, x_nlst, x_call, x_ncall, x_oNone, x_oSome, x_asI, x_sl, x_flst, x_alloc, bk_ok, bk_exc, x_fun, x_funK, opt_some, x_fld, x_mt, x_meth, mkK_ok, mkK_exc, x_make, x_makeK, x_next, x_seq, th_nx, th_rt, th_bk, th_ct, th_exc, x_drop, x_sret, x_sif, x_set, asgK_some, x_asg, tg_tp, tg_nm, setAll_nil, setAll_cons, parK_ok, x_par, par3K_ok, x_par3, x_sub, x_sfld, x_for, x_iL, x_iT, x_asL, x_asT, x_iR1, x_iR2, x_nlc, raK_ok, x_raise, fin_rt, fin_nx, fin_exc, x_try, try_rt, ev0, ev1, ev2, ev3, ev4, ev5, ev6, ev7, ev8, ev9, ev10, ev11, ev12, ev13, ev14, DL.v_sub, DL.v_add, DL.v_lt, DL.v_le, DL.v_gt, DL.v_ge, DL.v_fdiv2, DL.v_neg, DL.v_abs, DL.v_int, DL.v_min2, DL.v_max2, DL.v_eqI, DL.v_neI, DL.v_eqB, DL.v_neB, DL.v_isN, DL.v_notN, DL.v_isB, DL.v_e0l, DL.vL_lst, DL.isS_some, DL.v_ixL, DL.v_ixS, DL.v_ixT, DL.atI_0, DL.atI_1, DL.atI_2, DL.atI_3, DL.atI_4, DL.atI_5, DL.v_lenL, DL.v_lenS, DL.v_lenT, DL.v_lenD, DL.v_sumL, DL.v_sumT, DL.v_tupL, DL.v_tupT, DL.v_listT, DL.v_listL, DL.v_slT, DL.v_slL, DL.v_slS, DL.i_ii, DL.i_ib, DL.i_is, DL.i_id, DL.i_il, DL.i_it, DL.i_bi, DL.i_bb, DL.i_bt, DL.i_ni, DL.i_nb, DL.i_nt, DL.i_si, DL.i_sb, DL.i_ss, DL.i_st, DL.i_li, DL.i_lb, DL.i_ls, DL.i_ld, DL.i_ll, DL.i_lt, DL.i_ti, DL.i_tb, DL.i_ts, DL.i_td, DL.i_tl, DL.i_tt, DL.i_di, DL.i_db, DL.i_ds, DL.i_dd, DL.i_dt, DL.x_rev, DL.isNonD, x_bind, pm1, pm2, pm3, w_row_set, w_row_row, hm, e]
  | exc x γ ω' =>
    rw [e] at h
    obtain ⟨f, d, hf, hk⟩ := h
    obtain ⟨cl, fs⟩ := x
    have hf : fs = [(f, d)] := hf
    subst hf
    cases b with
    | false => simp only [F__law_asked, m__law_asked, told, startD, List.map, List.length, Nat.sub_self, List.replicate, List.append_nil, List.cons_append, List.nil_append, Nat.reduceSub, Nat.reduceAdd, List.set, rb_ok, rb_exc, rb_bad, x_bind, x_pure, x_some, x_none, x_badM, x_c, x_e2, x_e1, x_tB, x_asB, chK_t, chK_f, x_eCh, pick_t, pick_f, x_andM, x_orM, x_notM, x_and, x_or, x_not, x_if, x_nil, x_cons, szL0, szL1, szL2, szL3, szL4, szL6, szL7, szL8, szL10, szT0, szT1, szT2, szT3, szT4, x_tup, x_nlst, x_call, x_ncall, x_oNone, x_oSome, x_asI, x_sl, x_flst, x_alloc, bk_ok, bk_exc, x_fun, x_funK, opt_some, x_fld, x_mt, x_meth, mkK_ok, mkK_exc, x_make, x_makeK, x_next, x_seq, th_nx, th_rt, th_bk, th_ct, th_exc, x_drop, x_sret, x_sif, x_set, asgK_some, x_asg, tg_tp, tg_nm, setAll_nil, setAll_cons, parK_ok, x_par, par3K_ok, x_par3, x_sub, x_sfld, x_for, x_iL, x_iT, x_asL, x_asT, x_iR1, x_iR2, x_nlc, raK_ok, x_raise, fin_rt, fin_nx, fin_exc, x_try, try_rt, ev0, ev1, ev2, ev3, ev4, ev5, ev6, ev7, ev8, ev9, ev10, ev11, ev12, ev13, ev14, DL.v_sub, DL.v_add, DL.v_lt, DL.v_le, DL.v_gt, DL.v_ge, DL.v_fdiv2, DL.v_neg, DL.v_abs, DL.v_int, DL.v_min2, DL.v_max2, DL.v_eqI, DL.v_neI, DL.v_eqB, DL.v_neB, DL.v_isN, DL.v_notN, DL.v_isB, DL.v_e0l, DL.vL_lst, DL.isS_some, DL.v_ixL, DL.v_ixS, DL.v_ixT, DL.atI_0, DL.atI_1, DL.atI_2, DL.atI_3, DL.atI_4, DL.atI_5, DL.v_lenL, DL.v_lenS, DL.v_lenT, DL.v_lenD, DL.v_sumL, DL.v_sumT, DL.v_tupL, DL.v_tupT, DL.v_listT, DL.v_listL, DL.v_slT, DL.v_slL, DL.v_slS, DL.i_ii, DL.i_ib, DL.i_is, DL.i_id, DL.i_il, DL.i_it, DL.i_bi, DL.i_bb, DL.i_bt, DL.i_ni, DL.i_nb, DL.i_nt, DL.i_si, DL.i_sb, DL.i_ss, DL.i_st, DL.i_li, DL.i_lb, DL.i_ls, DL.i_ld, DL.i_ll, DL.i_lt, DL.i_ti, DL.i_tb, DL.i_ts, DL.i_td, DL.i_tl, DL.i_tt, DL.i_di, DL.i_db, DL.i_ds, DL.i_dd, DL.i_dt, DL.x_rev, DL.isNonD, x_bind, pm1, pm2, pm3, w_row_set, w_row_row, hm, e, try_x hk]
    | true => simp only [F__law_asked, m__law_asked, told, startD, List.map, List.length, Nat.sub_self, List.replicate, List.append_nil, List.cons_append, List.nil_append, Nat.reduceSub, Nat.reduceAdd, List.set, rb_ok, rb_exc, rb_bad, x_bind, x_pure, x_some, x_none, x_badM, x_c, x_e2, x_e1, x_tB, x_asB, chK_t, chK_f, x_eCh, pick_t, pick_f, x_andM, x_orM, x_notM, x_and, x_or, x_not, x_if, x_nil, x_cons, szL0, szL1, szL2, szL3, szL4, szL6, szL7, szL8, szL10, szT0, szT1, szT2, szT3, szT4, x_tup, x_nlst, x_call, x_ncall, x_oNone, x_oSome, x_asI, x_sl, x_flst, x_alloc, bk_ok, bk_exc, x_fun, x_funK, opt_some, x_fld, x_mt, x_meth, mkK_ok, mkK_exc, x_make, x_makeK, x_next, x_seq, th_nx, th_rt, th_bk, th_ct, th_exc, x_drop, x_sret, x_sif, x_set, asgK_some, x_asg, tg_tp, tg_nm, setAll_nil, setAll_cons, parK_ok, x_par, par3K_ok, x_par3, x_sub, x_sfld, x_for, x_iL, x_iT, x_asL, x_asT, x_iR1, x_iR2, x_nlc, raK_ok, x_raise, fin_rt, fin_nx, fin_exc, x_try, try_rt, ev0, ev1, ev2, ev3, ev4, ev5, ev6, ev7, ev8, ev9, ev10, ev11, ev12, ev13, ev14, DL.v_sub, DL.v_add, DL.v_lt, DL.v_le, DL.v_gt, DL.v_ge, DL.v_fdiv2, DL.v_neg, DL.v_abs, DL.v_int, DL.v_min2, DL.v_max2, DL.v_eqI, DL.v_neI, DL.v_eqB, DL.v_neB, DL.v_isN, DL.v_notN, DL.v_isB, DL.v_e0l, DL.vL_lst, DL.isS_some, DL.v_ixL, DL.v_ixS, DL.v_ixT, DL.atI_0, DL.atI_1, DL.atI_2, DL.atI_3, DL.atI_4, DL.atI_5, DL.v_lenL, DL.v_lenS, DL.v_lenT, DL.v_lenD, DL.v_sumL, DL.v_sumT, DL.v_tupL, DL.v_tupT, DL.v_listT, DL.v_listL, DL.v_slT, DL.v_slL, DL.v_slS, DL.i_ii, DL.i_ib, DL.i_is, DL.i_id, DL.i_il, DL.i_it, DL.i_bi, DL.i_bb, DL.i_bt, DL.i_ni, DL.i_nb, DL.i_nt, DL.i_si, DL.i_sb, DL.i_ss, DL.i_st, DL.i_li, DL.i_lb, DL.i_ls, DL.i_ld, DL.i_ll, DL.i_lt, DL.i_ti, DL.i_tb, DL.i_ts, DL.i_td, DL.i_tl, DL.i_tt, DL.i_di, DL.i_db, DL.i_ds, DL.i_dd, DL.i_dt, DL.x_rev, DL.isNonD, x_bind, pm1, pm2, pm3, w_row_set, w_row_row, hm, e, try_x hk]
theorem ask_sum {d0 d1 d2 : D} {b : Bool} (hm : isI C ω (.obj v) "total" = true) (h : fine (F_Versions_total C [.obj v, d0, d1, d2] ω)) : F__law_asked C [.obj v, .str "sum", .lst [d0, d1, d2], .bl b] ω = told (F_Versions_total C [.obj v, d0, d1, d2] ω) := by
  cases e : F_Versions_total C [.obj v, d0, d1, d2] ω with
  | bad => rw [e] at h; exact h.elim
  | ok d γ ω' =>
    cases b with
    | false => simp only [F__law_asked, m__law_asked, told, startD, List.map, List.length, Nat.sub_self, List.replicate, List.append_nil, List.cons_append, List.nil_append, Nat.reduceSub, Nat.reduceAdd, List.set, rb_ok, rb_exc, rb_bad, x_bind, x_pure, x_some, x_none, x_badM, x_c, x_e2, x_e1, x_tB, x_asB, chK_t, chK_f, x_eCh, pick_t, pick_f, x_andM, x_orM, x_notM, x_and, x_or, x_not, x_if, x_nil, x_cons, szL0, szL1, szL2, szL3, szL4, szL6, szL7, szL8, szL10, szT0, szT1, szT2, szT3, szT4, x_tup, x_nlst, x_call, x_ncall, x_oNone, x_oSome, x_asI, x_sl, x_flst, x_alloc, bk_ok, bk_exc, x_fun, x_funK, opt_some, x_fld, x_mt, x_meth, mkK_ok, mkK_exc, x_make, x_makeK, x_next, x_seq, th_nx, th_rt, th_bk, th_ct, th_exc, x_drop, x_sret, x_sif, x_set, asgK_some, x_asg, tg_tp, tg_nm, setAll_nil, setAll_cons, parK_ok, x_par, par3K_ok, x_par3, x_sub, x_sfld, x_for, x_iL, x_iT, x_asL, x_asT, x_iR1, x_iR2, x_nlc, raK_ok, x_raise, fin_rt, fin_nx, fin_exc, x_try, try_rt, ev0, ev1, ev2, ev3, ev4, ev5, ev6, ev7, ev8, ev9, ev10, ev11, ev12, ev13, ev14, DL.v_sub, DL.v_add, DL.v_lt, DL.v_le, DL.v_gt, DL.v_ge, DL.v_fdiv2, DL.v_neg, DL.v_abs, DL.v_int, DL.v_min2, DL.v_max2, DL.v_eqI, DL.v_neI, DL.v_eqB, DL.v_neB, DL.v_isN, DL.v_notN, DL.v_isB, DL.v_e0l, DL.vL_lst, DL.isS_some, DL.v_ixL, DL.v_ixS, DL.v_ixT, DL.atI_0, DL.atI_1, DL.atI_2, DL.atI_3, DL.atI_4, DL.atI_5, DL.v_lenL, DL.v_lenS, DL.v_lenT, DL.v_lenD, DL.v_sumL, DL.v_sumT, DL.v_tupL, DL.v_tupT, DL.v_listT, DL.v_listL, DL.v_slT, DL.v_slL, DL.v_slS, DL.i_ii, DL.i_ib, DL.i_is, DL.i_id, DL.i_il, DL.i_it, DL.i_bi, DL.i_bb, DL.i_bt, DL.i_ni, DL.i_nb, DL.i_nt, DL.i_si, DL.i_sb, DL.i_ss, DL.i_st, DL.i_li, DL.i_lb, DL.i_ls, DL.i_ld, DL.i_ll, DL.i_lt, DL.i_ti, DL.i_tb, DL.i_ts, DL.i_td, DL.i_tl, DL.i_tt, DL.i_di, DL.i_db, DL.i_ds, DL.i_dd, DL.i_dt, DL.x_rev, DL.isNonD, x_bind, pm1, pm2, pm3, w_sum_set, w_sum_row, w_sum_sum, hm, e]
    | true => simp only [F__law_asked, m__law_asked, told, startD, List.map, List.length, Nat.sub_self, List.replicate, List.append_nil, List.cons_append, List.nil_append, Nat.reduceSub, Nat.reduceAdd, List.set, rb_ok, rb_exc, rb_bad, x_bind, x_pure, x_some, x_none, x_badM, x_c, x_e2, x_e1, x_tB, x_asB, chK_t, chK_f, x_eCh, pick_t, pick_f, x_andM, x_orM, x_notM, x_and, x_or, x_not, x_if, x_nil, x_cons, szL0, szL1, szL2, szL3, szL4, szL6, szL7, szL8, szL10, szT0, szT1, szT2, szT3, szT4, x_tup, x_nlst, x_call, x_ncall, x_oNone, x_oSome, x_asI, x_sl, x_flst, x_alloc, bk_ok, bk_exc, x_fun, x_funK, opt_some, x_fld, x_mt, x_meth, mkK_ok, mkK_exc, x_make, x_makeK, x_next, x_seq, th_nx, th_rt, th_bk, th_ct, th_exc, x_drop, x_sret, x_sif, x_set, asgK_some, x_asg, tg_tp, tg_nm, setAll_nil, setAll_cons, parK_ok, x_par, par3K_ok, x_par3, x_sub, x_sfld, x_for, x_iL, x_iT, x_asL, x_asT, x_iR1, x_iR2, x_nlc, raK_ok, x_raise, fin_rt, fin_nx, fin_exc, x_try, try_rt, ev0, ev1, ev2, ev3, ev4, ev5, ev6, ev7, ev8, ev9, ev10, ev11, ev12, ev13, ev14, DL.v_sub, DL.v_add, DL.v_lt, DL.v_le, DL.v_gt, DL.v_ge, DL.v_fdiv2, DL.v_neg, DL.v_abs, DL.v_int, DL.v_min2, DL.v_max2, DL.v_eqI, DL.v_neI, DL.v_eqB, DL.v_neB, DL.v_isN, DL.v_notN, DL.v_isB, DL.v_e0l, DL.vL_lst, DL.isS_some, DL.v_ixL, DL.v_ixS, DL.v_ixT, DL.atI_0, DL.atI_1, DL.atI_2, DL.atI_3, DL.atI_4, DL.atI_5, DL.v_lenL, DL.v_lenS, DL.v_lenT, DL.v_lenD, DL.v_sumL, DL.v_sumT, DL.v_tupL, DL.v_tupT, DL.v_listT, DL.v_listL, DL.v_slT, DL.v_slL, DL.v_slS, DL.i_ii, DL.i_ib, DL.i_is, DL.i_id, DL.i_il, DL.i_it, DL.i_bi, DL.i_bb, DL.i_bt, DL.i_ni, DL.i_nb, DL.i_nt, DL.i_si, DL.i_sb, DL.i_ss, DL.i_st, DL.i_li, DL.i_lb, DL.i_ls, DL.i_ld, DL.i_ll, DL.i_lt, DL.i_ti, DL.i_tb, DL.i_ts, DL.i_td, DL.i_tl, DL.i_tt, DL.i_di, DL.i_db, DL.i_ds, DL.i_dd, DL.i_dt, DL.x_rev, DL.isNonD, x_bind, pm1, pm2, pm3, w_sum_set, w_sum_row, w_sum_sum, hm, e]
  | exc x γ ω' =>
    rw [e] at h
    obtain ⟨f, d, hf, hk⟩ := h
    obtain ⟨cl, fs⟩ := x
    have hf : fs = [(f, d)] := hf
    subst hf
    cases b with
    | false => simp only [F__law_asked, m__law_asked, told, startD, List.map, List.length, Nat.sub_self, List.replicate, List.append_nil, List.cons_append, List.nil_append, Nat.reduceSub, Nat.reduceAdd, List.set, rb_ok, rb_exc, rb_bad, x_bind, x_pure, x_some, x_none, x_badM, x_c, x_e2, x_e1, x_tB, x_asB, chK_t, chK_f, x_eCh, pick_t, pick_f, x_andM, x_orM, x_notM, x_and, x_or, x_not, x_if, x_nil, x_cons, szL0, szL1, szL2, szL3, szL4, szL6, szL7, szL8, szL10, szT0, szT1, szT2, szT3, szT4, x_tup, x_nlst, x_call, x_ncall, x_oNone, x_oSome, x_asI, x_sl, x_flst, x_alloc, bk_ok, bk_exc, x_fun, x_funK, opt_some, x_fld, x_mt, x_meth, mkK_ok, mkK_exc, x_make, x_makeK, x_next, x_seq, th_nx, th_rt, th_bk, th_ct, th_exc, x_drop, x_sret, x_sif, x_set, asgK_some, x_asg, tg_tp, tg_nm, setAll_nil, setAll_cons, parK_ok, x_par, par3K_ok, x_par3, x_sub, x_sfld, x_for, x_iL, x_iT, x_asL, x_asT, x_iR1, x_iR2, x_nlc, raK_ok, x_raise, fin_rt, fin_nx, fin_exc, x_try, try_rt, ev0, ev1, ev2, ev3, ev4, ev5, ev6, ev7, ev8, ev9, ev10, ev11, ev12, ev13, ev14, DL.v_sub, DL.v_add, DL.v_lt, DL.v_le, DL.v_gt, DL.v_ge, DL.v_fdiv2, DL.v_neg, DL.v_abs, DL.v_int, DL.v_min2, DL.v_max2, DL.v_eqI, DL.v_neI, DL.v_eqB, DL.v_neB, DL.v_isN, DL.v_notN, DL.v_isB, DL.v_e0l, DL.vL_lst, DL.isS_some, DL.v_ixL, DL.v_ixS, DL.v_ixT, DL.atI_0, DL.atI_1, DL.atI_2, DL.atI_3, DL.atI_4, DL.atI_5, DL.v_lenL, DL.v_lenS, DL.v_lenT, DL.v_lenD, DL.v_sumL, DL.v_sumT, DL.v_tupL, DL.v_tupT, DL.v_listT, DL.v_listL, DL.v_slT, DL.v_slL, DL.v_slS, DL.i_ii, DL.i_ib, DL.i_is, DL.i_id, DL.i_il, DL.i_it, DL.i_bi, DL.i_bb, DL.i_bt, DL.i_ni, DL.i_nb, DL.i_nt, DL.i_si, DL.i_sb, DL.i_ss, DL.i_st, DL.i_li, DL.i_lb, DL.i_ls, DL.i_ld, DL.i_ll, DL.i_lt, DL.i_ti, DL.i_tb, DL.i_ts, DL.i_td, DL.i_tl, DL.i_tt, DL.i_di, DL.i_db, DL.i_ds, DL.i_dd, DL.i_dt, DL.x_rev, DL.isNonD, x_bind, pm1, pm2, pm3, w_sum_set, w_sum_row, w_sum_sum, hm, e, try_x hk]
    | true => simp only [F__law_asked, m__law_asked, told, startD, List.map, List.length, Nat.sub_self, List.replicate, List.append_nil, List.cons_append, List.nil_append, Nat.reduceSub, Nat.reduceAdd, List.set, rb_ok, rb_exc, rb_bad, x_bind, x_pure, x_some, x_none, x_badM, x_c, x_e2, x_e1, x_tB, x_asB, chK_t, chK_f, x_eCh, pick_t, pick_f, x_andM, x_orM, x_notM, x_and, x_or, x_not, x_if, x_nil, x_cons, szL0, szL1, szL2, szL3, szL4, szL6, szL7, szL8, szL10, szT0, szT1, szT2, szT3, szT4, x_tup, x_nlst, x_call, x_ncall, x_oNone, x_oSome, x_asI, x_sl, x_flst, x_alloc, bk_ok, bk_exc, x_fun, x_funK, opt_some, x_fld, x_mt, x_meth, mkK_ok, mkK_exc, x_make, x_makeK, x_next, x_seq, th_nx, th_rt, th_bk, th_ct, th_exc, x_drop, x_sret, x_sif, x_set, asgK_some, x_asg, tg_tp, tg_nm, setAll_nil, setAll_cons, parK_ok, x_par, par3K_ok, x_par3, x_sub, x_sfld, x_for, x_iL, x_iT, x_asL, x_asT, x_iR1, x_iR2, x_nlc, raK_ok, x_raise, fin_rt, fin_nx, fin_exc, x_try, try_rt, ev0, ev1, ev2, ev3, ev4, ev5, ev6, ev7, ev8, ev9, ev10, ev11, ev12, ev13, ev14, DL.v_sub, DL.v_add, DL.v_lt, DL.v_le, DL.v_gt, DL.v_ge, DL.v_fdiv2, DL.v_neg, DL.v_abs, DL.v_int, DL.v_min2, DL.v_max2, DL.v_eqI, DL.v_neI, DL.v_eqB, DL.v_neB, DL.v_isN, DL.v_notN, DL.v_isB, DL.v_e0l, DL.vL_lst, DL.isS_some, DL.v_ixL, DL.v_ixS, DL.v_ixT, DL.atI_0, DL.atI_1, DL.atI_2, DL.atI_3, DL.atI_4, DL.atI_5, DL.v_lenL, DL.v_lenS, DL.v_lenT, DL.v_lenD, DL.v_sumL, DL.v_sumT, DL.v_tupL, DL.v_tupT, DL.v_listT, DL.v_listL, DL.v_slT, DL.v_slL, DL.v_slS, DL.i_ii, DL.i_ib, DL.i_is, DL.i_id, DL.i_il, DL.i_it, DL.i_bi, DL.i_bb, DL.i_bt, DL.i_ni, DL.i_nb, DL.i_nt, DL.i_si, DL.i_sb, DL.i_ss, DL.i_st, DL.i_li, DL.i_lb, DL.i_ls, DL.i_ld, DL.i_ll, DL.i_lt, DL.i_ti, DL.i_tb, DL.i_ts, DL.i_td, DL.i_tl, DL.i_tt, DL.i_di, DL.i_db, DL.i_ds, DL.i_dd, DL.i_dt, DL.x_rev, DL.isNonD, x_bind, pm1, pm2, pm3, w_sum_set, w_sum_row, w_sum_sum, hm, e, try_x hk]
theorem ask_parent {d0 : D} {b : Bool} (hm : isI C ω (.obj v) "parent" = true) (h : fine (F_Versions_parent C [.obj v, d0] ω)) : F__law_asked C [.obj v, .str "parent", .lst [d0], .bl b] ω = told (F_Versions_parent C [.obj v, d0] ω) := by
  cases e : F_Versions_parent C [.obj v, d0] ω with
  | bad => rw [e] at h; exact h.elim
  | ok d γ ω' =>
    cases b with
    | false => simp only [F__law_asked, m__law_asked, told, startD, List.map, List.length, Nat.sub_self, List.replicate, List.append_nil, List.cons_append, List.nil_append, Nat.reduceSub, Nat.reduceAdd, List.set, rb_ok, rb_exc, rb_bad, x_bind, x_pure, x_some, x_none, x_badM, x_c, x_e2, x_e1, x_tB, x_asB, chK_t, chK_f, x_eCh, pick_t, pick_f, x_andM, x_orM, x_notM, x_and, x_or, x_not, x_if, x_nil, x_cons, szL0, szL1, szL2, szL3, szL4, szL6, szL7, szL8, szL10, szT0, szT1, szT2, szT3, szT4, x_tup, x_nlst, x_call, x_ncall, x_oNone, x_oSome, x_asI, x_sl, x_flst, x_alloc, bk_ok, bk_exc, x_fun, x_funK, opt_some, x_fld, x_mt, x_meth, mkK_ok, mkK_exc, x_make, x_makeK, x_next, x_seq, th_nx, th_rt, th_bk, th_ct, th_exc, x_drop, x_sret, x_sif, x_set, asgK_some, x_asg, tg_tp, tg_nm, setAll_nil, setAll_cons, parK_ok, x_par, par3K_ok, x_par3, x_sub, x_sfld, x_for, x_iL, x_iT, x_asL, x_asT, x_iR1, x_iR2, x_nlc, raK_ok, x_raise, fin_rt, fin_nx, fin_exc, x_try, try_rt, ev0, ev1, ev2, ev3, ev4, ev5, ev6, ev7, ev8, ev9, ev10, ev11, ev12, ev13, ev14, DL.v_sub, DL.v_add, DL.v_lt, DL.v_le, DL.v_gt, DL.v_ge, DL.v_fdiv2, DL.v_neg, DL.v_abs, DL.v_int, DL.v_min2, DL.v_max2, DL.v_eqI, DL.v_neI, DL.v_eqB, DL.v_neB, DL.v_isN, DL.v_notN, DL.v_isB, DL.v_e0l, DL.vL_lst, DL.isS_some, DL.v_ixL, DL.v_ixS, DL.v_ixT, DL.atI_0, DL.atI_1, DL.atI_2, DL.atI_3, DL.atI_4, DL.atI_5, DL.v_lenL, DL.v_lenS, DL.v_lenT, DL.v_lenD, DL.v_sumL, DL.v_sumT, DL.v_tupL, DL.v_tupT, DL.v_listT, DL.v_listL, DL.v_slT, DL.v_slL, DL.v_slS, DL.i_ii, DL.i_ib, DL.i_is, DL.i_id, DL.i_il, DL.i_it, DL.i_bi, DL.i_bb, DL.i_bt, DL.i_ni, DL.i_nb, DL.i_nt, DL.i_si, DL.i_sb, DL.i_ss, DL.i_st, DL.i_li, DL.i_lb, DL.i_ls, DL.i_ld, DL.i_ll, DL.i_lt, DL.i_ti, DL.i_tb, DL.i_ts, DL.i_td, DL.i_tl, DL.i_tt, DL.i_di, DL.i_db, DL.i_ds, DL.i_dd, DL.i_dt, DL.x_rev, DL.isNonD, x_bind, pm1, pm2, pm3, w_parent_set, w_parent_row, w_parent_sum, w_parent_parent, hm, e]
    | true => simp only [F__law_asked, m__law_asked, told, startD, List.map, List.length, Nat.sub_self, List.replicate, List.append_nil, List.cons_append, List.nil_append, Nat.reduceSub, Nat.reduceAdd, List.set, rb_ok, rb_exc, rb_bad, x_bind, x_pure, x_some, x_none, x_badM, x_c, x_e2, x_e1, x_tB, x_asB, chK_t, chK_f, x_eCh, pick_t, pick_f, x_andM, x_orM, x_notM, x_and, x_or, x_not, x_if, x_nil, x_cons, szL0, szL1, szL2, szL3, szL4, szL6, szL7, szL8, szL10, szT0, szT1, szT2, szT3, szT4, x_tup, x_nlst, x_call, x_ncall, x_oNone, x_oSome, x_asI, x_sl, x_flst, x_alloc, bk_ok, bk_exc, x_fun, x_funK, opt_some, x_fld, x_mt, x_meth, mkK_ok, mkK_exc, x_make, x_makeK, x_next, x_seq, th_nx, th_rt, th_bk, th_ct, th_exc, x_drop, x_sret, x_sif, x_set, asgK_some, x_asg, tg_tp, tg_nm, setAll_nil, setAll_cons, parK_ok, x_par, par3K_ok, x_par3, x_sub, x_sfld, x_for, x_iL, x_iT, x_asL, x_asT, x_iR1, x_iR2, x_nlc, raK_ok, x_raise, fin_rt, fin_nx, fin_exc, x_try, try_rt, ev0, ev1, ev2, ev3, ev4, ev5, ev6, ev7, ev8, ev9, ev10, ev11, ev12, ev13, ev14, DL.v_sub, DL.v_add, DL.v_lt, DL.v_le, DL.v_gt, DL.v_ge, DL.v_fdiv2, DL.v_neg, DL.v_abs, DL.v_int, DL.v_min2, DL.v_max2, DL.v_eqI, DL.v_neI, DL.v_eqB, DL.v_neB, DL.v_isN, DL.v_notN, DL.v_isB, DL.v_e0l, DL.vL_lst, DL.isS_some, DL.v_ixL, DL.v_ixS, DL.v_ixT, DL.atI_0, DL.atI_1, DL.atI_2, DL.atI_3, DL.atI_4, DL.atI_5, DL.v_lenL, DL.v_lenS, DL.v_lenT, DL.v_lenD, DL.v_sumL, DL.v_sumT, DL.v_tupL, DL.v_tupT, DL.v_listT, DL.v_listL, DL.v_slT, DL.v_slL, DL.v_slS, DL.i_ii, DL.i_ib, DL.i_is, DL.i_id, DL.i_il, DL.i_it, DL.i_bi, DL.i_bb, DL.i_bt, DL.i_ni, DL.i_nb, DL.i_nt, DL.i_si, DL.i_sb, DL.i_ss, DL.i_st, DL.i_li, DL.i_lb, DL.i_ls, DL.i_ld, DL.i_ll, DL.i_lt, DL.i_ti, DL.i_tb, DL.i_ts, DL.i_td, DL.i_tl, DL.i_tt, DL.i_di, DL.i_db, DL.i_ds, DL.i_dd, DL.i_dt, DL.x_rev, DL.isNonD, x_bind, pm1, pm2, pm3, w_parent_set, w_parent_row, w_parent_sum, w_parent_parent, hm, e]
  | exc x γ ω' =>
    rw [e] at h
    obtain ⟨f, d, hf, hk⟩ := h
    obtain ⟨cl, fs⟩ := x
    have hf : fs = [(f, d)] := hf
    subst hf
    cases b with
    | false => simp only [F__law_asked, m__law_asked, told, startD, List.map, List.length, Nat.sub_self, List.replicate, List.append_nil, List.cons_append, List.nil_append, Nat.reduceSub, Nat.reduceAdd, List.set, rb_ok, rb_exc, rb_bad, x_bind, x_pure, x_some, x_none, x_badM, x_c, x_e2, x_e1, x_tB, x_asB, chK_t, chK_f, x_eCh, pick_t, pick_f, x_andM, x_orM, x_notM, x_and, x_or, x_not, x_if, x_nil, x_cons, szL0, szL1, szL2, szL3, szL4, szL6, szL7, szL8, szL10, szT0, szT1, szT2, szT3, szT4, x_tup, x_nlst, x_call, x_ncall, x_oNone, x_oSome, x_asI, x_sl, x_flst, x_alloc, bk_ok, bk_exc, x_fun, x_funK, opt_some, x_fld, x_mt, x_meth, mkK_ok, mkK_exc, x_make, x_makeK, x_next, x_seq, th_nx, th_rt, th_bk, th_ct, th_exc, x_drop, x_sret, x_sif, x_set, asgK_some, x_asg, tg_tp, tg_nm, setAll_nil, setAll_cons, parK_ok, x_par, par3K_ok, x_par3, x_sub, x_sfld, x_for, x_iL, x_iT, x_asL, x_asT, x_iR1, x_iR2, x_nlc, raK_ok, x_raise, fin_rt, fin_nx, fin_exc, x_try, try_rt, ev0, ev1, ev2, ev3, ev4, ev5, ev6, ev7, ev8, ev9, ev10, ev11, ev12, ev13, ev14, DL.v_sub, DL.v_add, DL.v_lt, DL.v_le, DL.v_gt, DL.v_ge, DL.v_fdiv2, DL.v_neg, DL.v_abs, DL.v_int, DL.v_min2, DL.v_max2, DL.v_eqI, DL.v_neI, DL.v_eqB, DL.v_neB, DL.v_isN, DL.v_notN, DL.v_isB, DL.v_e0l, DL.vL_lst, DL.isS_some, DL.v_ixL, DL.v_ixS, DL.v_ixT, DL.atI_0, DL.atI_1, DL.atI_2, DL.atI_3, DL.atI_4, DL.atI_5, DL.v_lenL, DL.v_lenS, DL.v_lenT, DL.v_lenD, DL.v_sumL, DL.v_sumT, DL.v_tupL, DL.v_tupT, DL.v_listT, DL.v_listL, DL.v_slT, DL.v_slL, DL.v_slS, DL.i_ii, DL.i_ib, DL.i_is, DL.i_id, DL.i_il, DL.i_it, DL.i_bi, DL.i_bb, DL.i_bt, DL.i_ni, DL.i_nb, DL.i_nt, DL.i_si, DL.i_sb, DL.i_ss, DL.i_st, DL.i_li, DL.i_lb, DL.i_ls, DL.i_ld, DL.i_ll, DL.i_lt, DL.i_ti, DL.i_tb, DL.i_ts, DL.i_td, DL.i_tl, DL.i_tt, DL.i_di, DL.i_db, DL.i_ds, DL.i_dd, DL.i_dt, DL.x_rev, DL.isNonD, x_bind, pm1, pm2, pm3, w_parent_set, w_parent_row, w_parent_sum, w_parent_parent, hm, e, try_x hk]
    | true => simp only [F__law_asked, m__law_asked, told, startD, List.map, List.length, Nat.sub_self, List.replicate, List.append_nil, List.cons_append, List.nil_append, Nat.reduceSub, Nat.reduceAdd, List.set, rb_ok, rb_exc, rb_bad, x_bind, x_pure, x_some, x_none, x_badM, x_c, x_e2, x_e1, x_tB, x_asB, chK_t, chK_f, x_eCh, pick_t, pick_f, x_andM, x_orM, x_notM, x_and, x_or, x_not, x_if, x_nil, x_cons, szL0, szL1, szL2, szL3, szL4, szL6, szL7, szL8, szL10, szT0, szT1, szT2, szT3, szT4, x_tup, x_nlst, x_call, x_ncall, x_oNone, x_oSome, x_asI, x_sl, x_flst, x_alloc, bk_ok, bk_exc, x_fun, x_funK, opt_some, x_fld, x_mt, x_meth, mkK_ok, mkK_exc, x_make, x_makeK, x_next, x_seq, th_nx, th_rt, th_bk, th_ct, th_exc, x_drop, x_sret, x_sif, x_set, asgK_some, x_asg, tg_tp, tg_nm, setAll_nil, setAll_cons, parK_ok, x_par, par3K_ok, x_par3, x_sub, x_sfld, x_for, x_iL, x_iT, x_asL, x_asT, x_iR1, x_iR2, x_nlc, raK_ok, x_raise, fin_rt, fin_nx, fin_exc, x_try, try_rt, ev0, ev1, ev2, ev3, ev4, ev5, ev6, ev7, ev8, ev9, ev10, ev11, ev12, ev13, ev14, DL.v_sub, DL.v_add, DL.v_lt, DL.v_le, DL.v_gt, DL.v_ge, DL.v_fdiv2, DL.v_neg, DL.v_abs, DL.v_int, DL.v_min2, DL.v_max2, DL.v_eqI, DL.v_neI, DL.v_eqB, DL.v_neB, DL.v_isN, DL.v_notN, DL.v_isB, DL.v_e0l, DL.vL_lst, DL.isS_some, DL.v_ixL, DL.v_ixS, DL.v_ixT, DL.atI_0, DL.atI_1, DL.atI_2, DL.atI_3, DL.atI_4, DL.atI_5, DL.v_lenL, DL.v_lenS, DL.v_lenT, DL.v_lenD, DL.v_sumL, DL.v_sumT, DL.v_tupL, DL.v_tupT, DL.v_listT, DL.v_listL, DL.v_slT, DL.v_slL, DL.v_slS, DL.i_ii, DL.i_ib, DL.i_is, DL.i_id, DL.i_il, DL.i_it, DL.i_bi, DL.i_bb, DL.i_bt, DL.i_ni, DL.i_nb, DL.i_nt, DL.i_si, DL.i_sb, DL.i_ss, DL.i_st, DL.i_li, DL.i_lb, DL.i_ls, DL.i_ld, DL.i_ll, DL.i_lt, DL.i_ti, DL.i_tb, DL.i_ts, DL.i_td, DL.i_tl, DL.i_tt, DL.i_di, DL.i_db, DL.i_ds, DL.i_dd, DL.i_dt, DL.x_rev, DL.isNonD, x_bind, pm1, pm2, pm3, w_parent_set, w_parent_row, w_parent_sum, w_parent_parent, hm, e, try_x hk]
theorem ask_unlike {d0 d1 : D} {b : Bool} (hm : isI C ω (.obj v) "unlike" = true) (h : fine (F_Versions_unlike C [.obj v, d0, d1] ω)) : F__law_asked C [.obj v, .str "unlike", .lst [d0, d1], .bl b] ω = told (F_Versions_unlike C [.obj v, d0, d1] ω) := by
  cases e : F_Versions_unlike C [.obj v, d0, d1] ω with
  | bad => rw [e] at h; exact h.elim
  | ok d γ ω' =>
    cases b with
    | false => simp only [F__law_asked, m__law_asked, told, startD, List.map, List.length, Nat.sub_self, List.replicate, List.append_nil, List.cons_append, List.nil_append, Nat.reduceSub, Nat.reduceAdd, List.set, rb_ok, rb_exc, rb_bad, x_bind, x_pure, x_some, x_none, x_badM, x_c, x_e2, x_e1, x_tB, x_asB, chK_t, chK_f, x_eCh, pick_t, pick_f, x_andM, x_orM, x_notM, x_and, x_or, x_not, x_if, x_nil, x_cons, szL0, szL1, szL2, szL3, szL4, szL6, szL7, szL8, szL10, szT0, szT1, szT2, szT3, szT4, x_tup, x_nlst, x_call, x_ncall, x_oNone, x_oSome, x_asI, x_sl, x_flst, x_alloc, bk_ok, bk_exc, x_fun, x_funK, opt_some, x_fld, x_mt, x_meth, mkK_ok, mkK_exc, x_make, x_makeK, x_next, x_seq, th_nx, th_rt, th_bk, th_ct, th_exc, x_drop, x_sret, x_sif, x_set, asgK_some, x_asg, tg_tp, tg_nm, setAll_nil, setAll_cons, parK_ok, x_par, par3K_ok, x_par3, x_sub, x_sfld, x_for, x_iL, x_iT, x_asL, x_asT, x_iR1, x_iR2, x_nlc, raK_ok, x_raise, fin_rt, fin_nx, fin_exc, x_try, try_rt, ev0, ev1, ev2, ev3, ev4, ev5, ev6, ev7, ev8, ev9, ev10, ev11, ev12, ev13, ev14, DL.v_sub, DL.v_add, DL.v_lt, DL.v_le, DL.v_gt, DL.v_ge, DL.v_fdiv2, DL.v_neg, DL.v_abs, DL.v_int, DL.v_min2, DL.v_max2, DL.v_eqI, DL.v_neI, DL.v_eqB, DL.v_neB, DL.v_isN, DL.v_notN, DL.v_isB, DL.v_e0l, DL.vL_lst, DL.isS_some, DL.v_ixL, DL.v_ixS, DL.v_ixT, DL.atI_0, DL.atI_1, DL.atI_2, DL.atI_3, DL.atI_4, DL.atI_5, DL.v_lenL, DL.v_lenS, DL.v_lenT, DL.v_lenD, DL.v_sumL, DL.v_sumT, DL.v_tupL, DL.v_tupT, DL.v_listT, DL.v_listL, DL.v_slT, DL.v_slL, DL.v_slS, DL.i_ii, DL.i_ib, DL.i_is, DL.i_id, DL.i_il, DL.i_it, DL.i_bi, DL.i_bb, DL.i_bt, DL.i_ni, DL.i_nb, DL.i_nt, DL.i_si, DL.i_sb, DL.i_ss, DL.i_st, DL.i_li, DL.i_lb, DL.i_ls, DL.i_ld, DL.i_ll, DL.i_lt, DL.i_ti, DL.i_tb, DL.i_ts, DL.i_td, DL.i_tl, DL.i_tt, DL.i_di, DL.i_db, DL.i_ds, DL.i_dd, DL.i_dt, DL.x_rev, DL.isNonD, x_bind, pm1, pm2, pm3, w_unlike_set, w_unlike_row, w_unlike_sum, w_unlike_parent, hm, e]
    | true => simp only [F__law_asked, m__law_asked, told, startD, List.map, List.length, Nat.sub_self, List.replicate, List.append_nil, List.cons_append, List.nil_append, Nat.reduceSub, Nat.reduceAdd, List.set, rb_ok, rb_exc, rb_bad, x_bind, x_pure, x_some, x_none, x_badM, x_c, x_e2, x_e1, x_tB, x_asB, chK_t, chK_f, x_eCh, pick_t, pick_f, x_andM, x_orM, x_notM, x_and, x_or, x_not, x_if, x_nil, x_cons, szL0, szL1, szL2, szL3, szL4, szL6, szL7, szL8, szL10, szT0, szT1, szT2, szT3, szT4, x_tup, x_nlst, x_call, x_ncall, x_oNone, x_oSome, x_asI, x_sl, x_flst, x_alloc, bk_ok, bk_exc, x_fun, x_funK, opt_some, x_fld, x_mt, x_meth, mkK_ok, mkK_exc, x_make, x_makeK, x_next, x_seq, th_nx, th_rt, th_bk, th_ct, th_exc, x_drop, x_sret, x_sif, x_set, asgK_some, x_asg, tg_tp, tg_nm, setAll_nil, setAll_cons, parK_ok, x_par, par3K_ok, x_par3, x_sub, x_sfld, x_for, x_iL, x_iT, x_asL, x_asT, x_iR1, x_iR2, x_nlc, raK_ok, x_raise, fin_rt, fin_nx, fin_exc, x_try, try_rt, ev0, ev1, ev2, ev3, ev4, ev5, ev6, ev7, ev8, ev9, ev10, ev11, ev12, ev13, ev14, DL.v_sub, DL.v_add, DL.v_lt, DL.v_le, DL.v_gt, DL.v_ge, DL.v_fdiv2, DL.v_neg, DL.v_abs, DL.v_int, DL.v_min2, DL.v_max2, DL.v_eqI, DL.v_neI, DL.v_eqB, DL.v_neB, DL.v_isN, DL.v_notN, DL.v_isB, DL.v_e0l, DL.vL_lst, DL.isS_some, DL.v_ixL, DL.v_ixS, DL.v_ixT, DL.atI_0, DL.atI_1, DL.atI_2, DL.atI_3, DL.atI_4, DL.atI_5, DL.v_lenL, DL.v_lenS, DL.v_lenT, DL.v_lenD, DL.v_sumL, DL.v_sumT, DL.v_tupL, DL.v_tupT, DL.v_listT, DL.v_listL, DL.v_slT, DL.v_slL, DL.v_slS, DL.i_ii, DL.i_ib, DL.i_is, DL.i_id, DL.i_il, DL.i_it, DL.i_bi, DL.i_bb, DL.i_bt, DL.i_ni, DL.i_nb, DL.i_nt, DL.i_si, DL.i_sb, DL.i_ss, DL.i_st, DL.i_li, DL.i_lb, DL.i_ls, DL.i_ld, DL.i_ll, DL.i_lt, DL.i_ti, DL.i_tb, DL.i_ts, DL.i_td, DL.i_tl, DL.i_tt, DL.i_di, DL.i_db, DL.i_ds, DL.i_dd, DL.i_dt, DL.x_rev, DL.isNonD, x_bind, pm1, pm2, pm3, w_unlike_set, w_unlike_row, w_unlike_sum, w_unlike_parent, hm, e]
  | exc x γ ω' =>
    rw [e] at h
    obtain ⟨f, d, hf, hk⟩ := h
    obtain ⟨cl, fs⟩ := x
    have hf : fs = [(f, d)] := hf
    subst hf
    cases b with
    | false => simp only [F__law_asked, m__law_asked, told, startD, List.map, List.length, Nat.sub_self, List.replicate, List.append_nil, List.cons_append, List.nil_append, Nat.reduceSub, Nat.reduceAdd, List.set, rb_ok, rb_exc, rb_bad, x_bind, x_pure, x_some, x_none, x_badM, x_c, x_e2, x_e1, x_tB, x_asB, chK_t, chK_f, x_eCh, pick_t, pick_f, x_andM, x_orM, x_notM, x_and, x_or, x_not, x_if, x_nil, x_cons, szL0, szL1, szL2, szL3, szL4, szL6, szL7, szL8, szL10, szT0, szT1, szT2, szT3, szT4, x_tup, x_nlst, x_call, x_ncall, x_oNone, x_oSome, x_asI, x_sl, x_flst, x_alloc, bk_ok, bk_exc, x_fun, x_funK, opt_some, x_fld, x_mt, x_meth, mkK_ok, mkK_exc, x_make, x_makeK, x_next, x_seq, th_nx, th_rt, th_bk, th_ct, th_exc, x_drop, x_sret, x_sif, x_set, asgK_some, x_asg, tg_tp, tg_nm, setAll_nil, setAll_cons, parK_ok, x_par, par3K_ok, x_par3, x_sub, x_sfld, x_for, x_iL, x_iT, x_asL, x_asT, x_iR1, x_iR2, x_nlc, raK_ok, x_raise, fin_rt, fin_nx, fin_exc, x_try, try_rt, ev0, ev1, ev2, ev3, ev4, ev5, ev6, ev7, ev8, ev9, ev10, ev11, ev12, ev13, ev14, DL.v_sub, DL.v_add, DL.v_lt, DL.v_le, DL.v_gt, DL.v_ge, DL.v_fdiv2, DL.v_neg, DL.v_abs, DL.v_int, DL.v_min2, DL.v_max2, DL.v_eqI, DL.v_neI, DL.v_eqB, DL.v_neB, DL.v_isN, DL.v_notN, DL.v_isB, DL.v_e0l, DL.vL_lst, DL.isS_some, DL.v_ixL, DL.v_ixS, DL.v_ixT, DL.atI_0, DL.atI_1, DL.atI_2, DL.atI_3, DL.atI_4, DL.atI_5, DL.v_lenL, DL.v_lenS, DL.v_lenT, DL.v_lenD, DL.v_sumL, DL.v_sumT, DL.v_tupL, DL.v_tupT, DL.v_listT, DL.v_listL, DL.v_slT, DL.v_slL, DL.v_slS, DL.i_ii, DL.i_ib, DL.i_is, DL.i_id, DL.i_il, DL.i_it, DL.i_bi, DL.i_bb, DL.i_bt, DL.i_ni, DL.i_nb, DL.i_nt, DL.i_si, DL.i_sb, DL.i_ss, DL.i_st, DL.i_li, DL.i_lb, DL.i_ls, DL.i_ld, DL.i_ll, DL.i_lt, DL.i_ti, DL.i_tb, DL.i_ts, DL.i_td, DL.i_tl, DL.i_tt, DL.i_di, DL.i_db, DL.i_ds, DL.i_dd, DL.i_dt, DL.x_rev, DL.isNonD, x_bind, pm1, pm2, pm3, w_unlike_set, w_unlike_row, w_unlike_sum, w_unlike_parent, hm, e, try_x hk]
    | true => simp only [F__law_asked, m__law_asked, told, startD, List.map, List.length, Nat.sub_self, List.replicate, List.append_nil, List.cons_append, List.nil_append, Nat.reduceSub, Nat.reduceAdd, List.set, rb_ok, rb_exc, rb_bad, x_bind, x_pure, x_some, x_none, x_badM, x_c, x_e2, x_e1, x_tB, x_asB, chK_t, chK_f, x_eCh, pick_t, pick_f, x_andM, x_orM, x_notM, x_and, x_or, x_not, x_if, x_nil, x_cons, szL0, szL1, szL2, szL3, szL4, szL6, szL7, szL8, szL10, szT0, szT1, szT2, szT3, szT4, x_tup, x_nlst, x_call, x_ncall, x_oNone, x_oSome, x_asI, x_sl, x_flst, x_alloc, bk_ok, bk_exc, x_fun, x_funK, opt_some, x_fld, x_mt, x_meth, mkK_ok, mkK_exc, x_make, x_makeK, x_next, x_seq, th_nx, th_rt, th_bk, th_ct, th_exc, x_drop, x_sret, x_sif, x_set, asgK_some, x_asg, tg_tp, tg_nm, setAll_nil, setAll_cons, parK_ok, x_par, par3K_ok, x_par3, x_sub, x_sfld, x_for, x_iL, x_iT, x_asL, x_asT, x_iR1, x_iR2, x_nlc, raK_ok, x_raise, fin_rt, fin_nx, fin_exc, x_try, try_rt, ev0, ev1, ev2, ev3, ev4, ev5, ev6, ev7, ev8, ev9, ev10, ev11, ev12, ev13, ev14, DL.v_sub, DL.v_add, DL.v_lt, DL.v_le, DL.v_gt, DL.v_ge, DL.v_fdiv2, DL.v_neg, DL.v_abs, DL.v_int, DL.v_min2, DL.v_max2, DL.v_eqI, DL.v_neI, DL.v_eqB, DL.v_neB, DL.v_isN, DL.v_notN, DL.v_isB, DL.v_e0l, DL.vL_lst, DL.isS_some, DL.v_ixL, DL.v_ixS, DL.v_ixT, DL.atI_0, DL.atI_1, DL.atI_2, DL.atI_3, DL.atI_4, DL.atI_5, DL.v_lenL, DL.v_lenS, DL.v_lenT, DL.v_lenD, DL.v_sumL, DL.v_sumT, DL.v_tupL, DL.v_tupT, DL.v_listT, DL.v_listL, DL.v_slT, DL.v_slL, DL.v_slS, DL.i_ii, DL.i_ib, DL.i_is, DL.i_id, DL.i_il, DL.i_it, DL.i_bi, DL.i_bb, DL.i_bt, DL.i_ni, DL.i_nb, DL.i_nt, DL.i_si, DL.i_sb, DL.i_ss, DL.i_st, DL.i_li, DL.i_lb, DL.i_ls, DL.i_ld, DL.i_ll, DL.i_lt, DL.i_ti, DL.i_tb, DL.i_ts, DL.i_td, DL.i_tl, DL.i_tt, DL.i_di, DL.i_db, DL.i_ds, DL.i_dd, DL.i_dt, DL.x_rev, DL.isNonD, x_bind, pm1, pm2, pm3, w_unlike_set, w_unlike_row, w_unlike_sum, w_unlike_parent, hm, e, try_x hk]
end
section
variable {C : Addr} {v kt tp pa n : Nat} {N : List Nd} {T : List Nat} {P : List D} {ω : List OB}
/-! ### refusals -/
theorem change_noV (s : VS C v kt tp pa n N T P ω) {d a b : D} {t : String} (h : tyN ω d = some t) (q : btw d 0 ((T.length : Int) - 1) = false) : F_Versions_change C [.obj v, d, a, b] ω = .exc ⟨"InvalidVersion", [("given", d)]⟩ [] ω := by
  simp only [F_Versions_change, m_Versions_change, startD, List.map, List.length, Nat.sub_self, List.replicate, List.append_nil, List.cons_append, List.nil_append, Nat.reduceSub, Nat.reduceAdd, List.set, rb_ok, rb_exc, rb_bad, x_bind, x_pure, x_some, x_none, x_badM, x_c, x_e2, x_e1, x_tB, x_asB, chK_t, chK_f, x_eCh, pick_t, pick_f, x_andM, x_orM, x_notM, x_and, x_or, x_not, x_if, x_nil, x_cons, szL0, szL1, szL2, szL3, szL4, szL6, szL7, szL8, szL10, szT0, szT1, szT2, szT3, szT4, x_tup, x_nlst, x_call, x_ncall, x_oNone, x_oSome, x_asI, x_sl, x_flst, x_alloc, bk_ok, bk_exc, x_fun, x_funK, opt_some, x_fld, x_mt, x_meth, mkK_ok, mkK_exc, x_make, x_makeK, x_next, x_seq, th_nx, th_rt, th_bk, th_ct, th_exc, x_drop, x_sret, x_sif, x_set, asgK_some, x_asg, tg_tp, tg_nm, setAll_nil, setAll_cons, parK_ok, x_par, par3K_ok, x_par3, x_sub, x_sfld, x_for, x_iL, x_iT, x_asL, x_asT, x_iR1, x_iR2, x_nlc, raK_ok, x_raise, fin_rt, fin_nx, fin_exc, x_try, try_rt, ev0, ev1, ev2, ev3, ev4, ev5, ev6, ev7, ev8, ev9, ev10, ev11, ev12, ev13, ev14, DL.v_sub, DL.v_add, DL.v_lt, DL.v_le, DL.v_gt, DL.v_ge, DL.v_fdiv2, DL.v_neg, DL.v_abs, DL.v_int, DL.v_min2, DL.v_max2, DL.v_eqI, DL.v_neI, DL.v_eqB, DL.v_neB, DL.v_isN, DL.v_notN, DL.v_isB, DL.v_e0l, DL.vL_lst, DL.isS_some, DL.v_ixL, DL.v_ixS, DL.v_ixT, DL.atI_0, DL.atI_1, DL.atI_2, DL.atI_3, DL.atI_4, DL.atI_5, DL.v_lenL, DL.v_lenS, DL.v_lenT, DL.v_lenD, DL.v_sumL, DL.v_sumT, DL.v_tupL, DL.v_tupT, DL.v_listT, DL.v_listL, DL.v_slT, DL.v_slL, DL.v_slS, DL.i_ii, DL.i_ib, DL.i_is, DL.i_id, DL.i_il, DL.i_it, DL.i_bi, DL.i_bb, DL.i_bt, DL.i_ni, DL.i_nb, DL.i_nt, DL.i_si, DL.i_sb, DL.i_ss, DL.i_st, DL.i_li, DL.i_lb, DL.i_ls, DL.i_ld, DL.i_ll, DL.i_lt, DL.i_ti, DL.i_tb, DL.i_ts, DL.i_td, DL.i_tl, DL.i_tt, DL.i_di, DL.i_db, DL.i_ds, DL.i_dd, DL.i_dt, DL.x_rev, DL.isNonD, isI_ok s.hv (vf_no (m := "check_version") (by decide +kernel)), check_no s h q]
theorem row_noV (s : VS C v kt tp pa n N T P ω) {d : D} {t : String} (h : tyN ω d = some t) (q : btw d 0 ((T.length : Int) - 1) = false) : F_Versions_row C [.obj v, d] ω = .exc ⟨"InvalidVersion", [("given", d)]⟩ [] ω := by
  simp only [F_Versions_row, m_Versions_row, startD, List.map, List.length, Nat.sub_self, List.replicate, List.append_nil, List.cons_append, List.nil_append, Nat.reduceSub, Nat.reduceAdd, List.set, rb_ok, rb_exc, rb_bad, x_bind, x_pure, x_some, x_none, x_badM, x_c, x_e2, x_e1, x_tB, x_asB, chK_t, chK_f, x_eCh, pick_t, pick_f, x_andM, x_orM, x_notM, x_and, x_or, x_not, x_if, x_nil, x_cons, szL0, szL1, szL2, szL3, szL4, szL6, szL7, szL8, szL10, szT0, szT1, szT2, szT3, szT4, x_tup, x_nlst, x_call, x_ncall, x_oNone, x_oSome, x_asI, x_sl, x_flst, x_alloc, bk_ok, bk_exc, x_fun, x_funK, opt_some, x_fld, x_mt, x_meth, mkK_ok, mkK_exc, x_make, x_makeK, x_next, x_seq, th_nx, th_rt, th_bk, th_ct, th_exc, x_drop, x_sret, x_sif, x_set, asgK_some, x_asg, tg_tp, tg_nm, setAll_nil, setAll_cons, parK_ok, x_par, par3K_ok, x_par3, x_sub, x_sfld, x_for, x_iL, x_iT, x_asL, x_asT, x_iR1, x_iR2, x_nlc, raK_ok, x_raise, fin_rt, fin_nx, fin_exc, x_try, try_rt, ev0, ev1, ev2, ev3, ev4, ev5, ev6, ev7, ev8, ev9, ev10, ev11, ev12, ev13, ev14, DL.v_sub, DL.v_add, DL.v_lt, DL.v_le, DL.v_gt, DL.v_ge, DL.v_fdiv2, DL.v_neg, DL.v_abs, DL.v_int, DL.v_min2, DL.v_max2, DL.v_eqI, DL.v_neI, DL.v_eqB, DL.v_neB, DL.v_isN, DL.v_notN, DL.v_isB, DL.v_e0l, DL.vL_lst, DL.isS_some, DL.v_ixL, DL.v_ixS, DL.v_ixT, DL.atI_0, DL.atI_1, DL.atI_2, DL.atI_3, DL.atI_4, DL.atI_5, DL.v_lenL, DL.v_lenS, DL.v_lenT, DL.v_lenD, DL.v_sumL, DL.v_sumT, DL.v_tupL, DL.v_tupT, DL.v_listT, DL.v_listL, DL.v_slT, DL.v_slL, DL.v_slS, DL.i_ii, DL.i_ib, DL.i_is, DL.i_id, DL.i_il, DL.i_it, DL.i_bi, DL.i_bb, DL.i_bt, DL.i_ni, DL.i_nb, DL.i_nt, DL.i_si, DL.i_sb, DL.i_ss, DL.i_st, DL.i_li, DL.i_lb, DL.i_ls, DL.i_ld, DL.i_ll, DL.i_lt, DL.i_ti, DL.i_tb, DL.i_ts, DL.i_td, DL.i_tl, DL.i_tt, DL.i_di, DL.i_db, DL.i_ds, DL.i_dd, DL.i_dt, DL.x_rev, DL.isNonD, isI_ok s.hv (vf_no (m := "check_version") (by decide +kernel)), check_no s h q]
theorem total_noV (s : VS C v kt tp pa n N T P ω) {d a b : D} {t : String} (h : tyN ω d = some t) (q : btw d 0 ((T.length : Int) - 1) = false) : F_Versions_total C [.obj v, d, a, b] ω = .exc ⟨"InvalidVersion", [("given", d)]⟩ [] ω := by
  simp only [F_Versions_total, m_Versions_total, startD, List.map, List.length, Nat.sub_self, List.replicate, List.append_nil, List.cons_append, List.nil_append, Nat.reduceSub, Nat.reduceAdd, List.set, rb_ok, rb_exc, rb_bad, x_bind, x_pure, x_some, x_none, x_badM, x_c, x_e2, x_e1, x_tB, x_asB, chK_t, chK_f, x_eCh, pick_t, pick_f, x_andM, x_orM, x_notM, x_and, x_or, x_not, x_if, x_nil, x_cons, szL0, szL1, szL2, szL3, szL4, szL6, szL7, szL8, szL10, szT0, szT1, szT2, szT3, szT4, x_tup, x_nlst, x_call, x_ncall, x_oNone, x_oSome, x_asI, x_sl, x_flst, x_alloc, bk_ok, bk_exc, x_fun, x_funK, opt_some, x_fld, x_mt, x_meth, mkK_ok, mkK_exc, x_make, x_makeK, x_next, x_seq, th_nx, th_rt, th_bk, th_ct, th_exc, x_drop, x_sret, x_sif, x_set, asgK_some, x_asg, tg_tp, tg_nm, setAll_nil, setAll_cons, parK_ok, x_par, par3K_ok, x_par3, x_sub, x_sfld, x_for, x_iL, x_iT, x_asL, x_asT, x_iR1, x_iR2, x_nlc, raK_ok, x_raise, fin_rt, fin_nx, fin_exc, x_try, try_rt, ev0, ev1, ev2, ev3, ev4, ev5, ev6, ev7, ev8, ev9, ev10, ev11, ev12, ev13, ev14, DL.v_sub, DL.v_add, DL.v_lt, DL.v_le, DL.v_gt, DL.v_ge, DL.v_fdiv2, DL.v_neg, DL.v_abs, DL.v_int, DL.v_min2, DL.v_max2, DL.v_eqI, DL.v_neI, DL.v_eqB, DL.v_neB, DL.v_isN, DL.v_notN, DL.v_isB, DL.v_e0l, DL.vL_lst, DL.isS_some, DL.v_ixL, DL.v_ixS, DL.v_ixT, DL.atI_0, DL.atI_1, DL.atI_2, DL.atI_3, DL.atI_4, DL.atI_5, DL.v_lenL, DL.v_lenS, DL.v_lenT, DL.v_lenD, DL.v_sumL, DL.v_sumT, DL.v_tupL, DL.v_tupT, DL.v_listT, DL.v_listL, DL.v_slT, DL.v_slL, DL.v_slS, DL.i_ii, DL.i_ib, DL.i_is, DL.i_id, DL.i_il, DL.i_it, DL.i_bi, DL.i_bb, DL.i_bt, DL.i_ni, DL.i_nb, DL.i_nt, DL.i_si, DL.i_sb, DL.i_ss, DL.i_st, DL.i_li, DL.i_lb, DL.i_ls, DL.i_ld, DL.i_ll, DL.i_lt, DL.i_ti, DL.i_tb, DL.i_ts, DL.i_td, DL.i_tl, DL.i_tt, DL.i_di, DL.i_db, DL.i_ds, DL.i_dd, DL.i_dt, DL.x_rev, DL.isNonD, isI_ok s.hv (vf_no (m := "check_version") (by decide +kernel)), check_no s h q]
theorem parent_noV (s : VS C v kt tp pa n N T P ω) {d : D} {t : String} (h : tyN ω d = some t) (q : btw d 0 ((T.length : Int) - 1) = false) : F_Versions_parent C [.obj v, d] ω = .exc ⟨"InvalidVersion", [("given", d)]⟩ [] ω := by
  simp only [F_Versions_parent, m_Versions_parent, startD, List.map, List.length, Nat.sub_self, List.replicate, List.append_nil, List.cons_append, List.nil_append, Nat.reduceSub, Nat.reduceAdd, List.set, rb_ok, rb_exc, rb_bad, x_bind, x_pure, x_some, x_none, x_badM, x_c, x_e2, x_e1, x_tB, x_asB, chK_t, chK_f, x_eCh, pick_t, pick_f, x_andM, x_orM, x_notM, x_and, x_or, x_not, x_if, x_nil, x_cons, szL0, szL1, szL2, szL3, szL4, szL6, szL7, szL8, szL10, szT0, szT1, szT2, szT3, szT4, x_tup, x_nlst, x_call, x_ncall, x_oNone, x_oSome, x_asI, x_sl, x_flst, x_alloc, bk_ok, bk_exc, x_fun, x_funK, opt_some, x_fld, x_mt, x_meth, mkK_ok, mkK_exc, x_make, x_makeK, x_next, x_seq, th_nx, th_rt, th_bk, th_ct, th_exc, x_drop, x_sret, x_sif, x_set, asgK_some, x_asg, tg_tp, tg_nm, setAll_nil, setAll_cons, parK_ok, x_par, par3K_ok, x_par3, x_sub, x_sfld, x_for, x_iL, x_iT, x_asL, x_asT, x_iR1, x_iR2, x_nlc, raK_ok, x_raise, fin_rt, fin_nx, fin_exc, x_try, try_rt, ev0, ev1, ev2, ev3, ev4, ev5, ev6, ev7, ev8, ev9, ev10, ev11, ev12, ev13, ev14, DL.v_sub, DL.v_add, DL.v_lt, DL.v_le, DL.v_gt, DL.v_ge, DL.v_fdiv2, DL.v_neg, DL.v_abs, DL.v_int, DL.v_min2, DL.v_max2, DL.v_eqI, DL.v_neI, DL.v_eqB, DL.v_neB, DL.v_isN, DL.v_notN, DL.v_isB, DL.v_e0l, DL.vL_lst, DL.isS_some, DL.v_ixL, DL.v_ixS, DL.v_ixT, DL.atI_0, DL.atI_1, DL.atI_2, DL.atI_3, DL.atI_4, DL.atI_5, DL.v_lenL, DL.v_lenS, DL.v_lenT, DL.v_lenD, DL.v_sumL, DL.v_sumT, DL.v_tupL, DL.v_tupT, DL.v_listT, DL.v_listL, DL.v_slT, DL.v_slL, DL.v_slS, DL.i_ii, DL.i_ib, DL.i_is, DL.i_id, DL.i_il, DL.i_it, DL.i_bi, DL.i_bb, DL.i_bt, DL.i_ni, DL.i_nb, DL.i_nt, DL.i_si, DL.i_sb, DL.i_ss, DL.i_st, DL.i_li, DL.i_lb, DL.i_ls, DL.i_ld, DL.i_ll, DL.i_lt, DL.i_ti, DL.i_tb, DL.i_ts, DL.i_td, DL.i_tl, DL.i_tt, DL.i_di, DL.i_db, DL.i_ds, DL.i_dd, DL.i_dt, DL.x_rev, DL.isNonD, isI_ok s.hv (vf_no (m := "check_version") (by decide +kernel)), check_no s h q]
theorem unlike_noV (s : VS C v kt tp pa n N T P ω) {d a : D} {t : String} (h : tyN ω d = some t) (q : btw d 0 ((T.length : Int) - 1) = false) : F_Versions_unlike C [.obj v, d, a] ω = .exc ⟨"InvalidVersion", [("given", d)]⟩ [] ω := by
  simp only [F_Versions_unlike, m_Versions_unlike, startD, List.map, List.length, Nat.sub_self, List.replicate, List.append_nil, List.cons_append, List.nil_append, Nat.reduceSub, Nat.reduceAdd, List.set, rb_ok, rb_exc, rb_bad, x_bind, x_pure, x_some, x_none, x_badM, x_c, x_e2, x_e1, x_tB, x_asB, chK_t, chK_f, x_eCh, pick_t, pick_f, x_andM, x_orM, x_notM, x_and, x_or, x_not, x_if, x_nil, x_cons, szL0, szL1, szL2, szL3, szL4, szL6, szL7, szL8, szL10, szT0, szT1, szT2, szT3, szT4, x_tup, x_nlst, x_call, x_ncall, x_oNone, x_oSome, x_asI, x_sl, x_flst, x_alloc, bk_ok, bk_exc, x_fun, x_funK, opt_some, x_fld, x_mt, x_meth, mkK_ok, mkK_exc, x_make, x_makeK, x_next, x_seq, th_nx, th_rt, th_bk, th_ct, th_exc, x_drop, x_sret, x_sif, x_set, asgK_some, x_asg, tg_tp, tg_nm, setAll_nil, setAll_cons, parK_ok, x_par, par3K_ok, x_par3, x_sub, x_sfld, x_for, x_iL, x_iT, x_asL, x_asT, x_iR1, x_iR2, x_nlc, raK_ok, x_raise, fin_rt, fin_nx, fin_exc, x_try, try_rt, ev0, ev1, ev2, ev3, ev4, ev5, ev6, ev7, ev8, ev9, ev10, ev11, ev12, ev13, ev14, DL.v_sub, DL.v_add, DL.v_lt, DL.v_le, DL.v_gt, DL.v_ge, DL.v_fdiv2, DL.v_neg, DL.v_abs, DL.v_int, DL.v_min2, DL.v_max2, DL.v_eqI, DL.v_neI, DL.v_eqB, DL.v_neB, DL.v_isN, DL.v_notN, DL.v_isB, DL.v_e0l, DL.vL_lst, DL.isS_some, DL.v_ixL, DL.v_ixS, DL.v_ixT, DL.atI_0, DL.atI_1, DL.atI_2, DL.atI_3, DL.atI_4, DL.atI_5, DL.v_lenL, DL.v_lenS, DL.v_lenT, DL.v_lenD, DL.v_sumL, DL.v_sumT, DL.v_tupL, DL.v_tupT, DL.v_listT, DL.v_listL, DL.v_slT, DL.v_slL, DL.v_slS, DL.i_ii, DL.i_ib, DL.i_is, DL.i_id, DL.i_il, DL.i_it, DL.i_bi, DL.i_bb, DL.i_bt, DL.i_ni, DL.i_nb, DL.i_nt, DL.i_si, DL.i_sb, DL.i_ss, DL.i_st, DL.i_li, DL.i_lb, DL.i_ls, DL.i_ld, DL.i_ll, DL.i_lt, DL.i_ti, DL.i_tb, DL.i_ts, DL.i_td, DL.i_tl, DL.i_tt, DL.i_di, DL.i_db, DL.i_ds, DL.i_dd, DL.i_dt, DL.x_rev, DL.isNonD, isI_ok s.hv (vf_no (m := "check_version") (by decide +kernel)), check_no s h q]
theorem unlike_noW (s : VS C v kt tp pa n N T P ω) {d : D} {i : Nat} {t : String} (hi : i < T.length) (h : tyN ω d = some t) (q : btw d 0 ((T.length : Int) - 1) = false) : F_Versions_unlike C [.obj v, .int i, d] ω = .exc ⟨"InvalidVersion", [("given", d)]⟩ [] ω := by
  simp only [F_Versions_unlike, m_Versions_unlike, startD, List.map, List.length, Nat.sub_self, List.replicate, List.append_nil, List.cons_append, List.nil_append, Nat.reduceSub, Nat.reduceAdd, List.set, rb_ok, rb_exc, rb_bad, x_bind, x_pure, x_some, x_none, x_badM, x_c, x_e2, x_e1, x_tB, x_asB, chK_t, chK_f, x_eCh, pick_t, pick_f, x_andM, x_orM, x_notM, x_and, x_or, x_not, x_if, x_nil, x_cons, szL0, szL1, szL2, szL3, szL4, szL6, szL7, szL8, szL10, szT0, szT1, szT2, szT3, szT4, x_tup, x_nlst, x_call, x_ncall, x_oNone, x_oSome, x_asI, x_sl, x_flst, x_alloc, bk_ok, bk_exc, x_fun, x_funK, opt_some, x_fld, x_mt, x_meth, mkK_ok, mkK_exc, x_make, x_makeK, x_next, x_seq, th_nx, th_rt, th_bk, th_ct, th_exc, x_drop, x_sret, x_sif, x_set, asgK_some, x_asg, tg_tp, tg_nm, setAll_nil, setAll_cons, parK_ok, x_par, par3K_ok, x_par3, x_sub, x_sfld, x_for, x_iL, x_iT, x_asL, x_asT, x_iR1, x_iR2, x_nlc, raK_ok, x_raise, fin_rt, fin_nx, fin_exc, x_try, try_rt, ev0, ev1, ev2, ev3, ev4, ev5, ev6, ev7, ev8, ev9, ev10, ev11, ev12, ev13, ev14, DL.v_sub, DL.v_add, DL.v_lt, DL.v_le, DL.v_gt, DL.v_ge, DL.v_fdiv2, DL.v_neg, DL.v_abs, DL.v_int, DL.v_min2, DL.v_max2, DL.v_eqI, DL.v_neI, DL.v_eqB, DL.v_neB, DL.v_isN, DL.v_notN, DL.v_isB, DL.v_e0l, DL.vL_lst, DL.isS_some, DL.v_ixL, DL.v_ixS, DL.v_ixT, DL.atI_0, DL.atI_1, DL.atI_2, DL.atI_3, DL.atI_4, DL.atI_5, DL.v_lenL, DL.v_lenS, DL.v_lenT, DL.v_lenD, DL.v_sumL, DL.v_sumT, DL.v_tupL, DL.v_tupT, DL.v_listT, DL.v_listL, DL.v_slT, DL.v_slL, DL.v_slS, DL.i_ii, DL.i_ib, DL.i_is, DL.i_id, DL.i_il, DL.i_it, DL.i_bi, DL.i_bb, DL.i_bt, DL.i_ni, DL.i_nb, DL.i_nt, DL.i_si, DL.i_sb, DL.i_ss, DL.i_st, DL.i_li, DL.i_lb, DL.i_ls, DL.i_ld, DL.i_ll, DL.i_lt, DL.i_ti, DL.i_tb, DL.i_ts, DL.i_td, DL.i_tl, DL.i_tt, DL.i_di, DL.i_db, DL.i_ds, DL.i_dd, DL.i_dt, DL.x_rev, DL.isNonD, isI_ok s.hv (vf_no (m := "check_version") (by decide +kernel)), check_ok s (d := .int i) rfl (btw_nat hi), check_no s h q]
theorem change_noI (s : VS C v kt tp pa n N T P ω) {d a : D} {i : Nat} {t : String} (hi : i < T.length) (h : tyN ω d = some t) (q : btw d 0 ((n : Int) - 1) = false) : F_Versions_change C [.obj v, .int i, d, a] ω = .exc ⟨"InvalidIndex", [("given", d)]⟩ [] ω := by
  have hb := isbtw_ok (ω := ω) h (lo := 0) (hi := (n : Int) - 1)
  rw [q] at hb
  simp only [F_Versions_change, m_Versions_change, startD, List.map, List.length, Nat.sub_self, List.replicate, List.append_nil, List.cons_append, List.nil_append, Nat.reduceSub, Nat.reduceAdd, List.set, rb_ok, rb_exc, rb_bad, x_bind, x_pure, x_some, x_none, x_badM, x_c, x_e2, x_e1, x_tB, x_asB, chK_t, chK_f, x_eCh, pick_t, pick_f, x_andM, x_orM, x_notM, x_and, x_or, x_not, x_if, x_nil, x_cons, szL0, szL1, szL2, szL3, szL4, szL6, szL7, szL8, szL10, szT0, szT1, szT2, szT3, szT4, x_tup, x_nlst, x_call, x_ncall, x_oNone, x_oSome, x_asI, x_sl, x_flst, x_alloc, bk_ok, bk_exc, x_fun, x_funK, opt_some, x_fld, x_mt, x_meth, mkK_ok, mkK_exc, x_make, x_makeK, x_next, x_seq, th_nx, th_rt, th_bk, th_ct, th_exc, x_drop, x_sret, x_sif, x_set, asgK_some, x_asg, tg_tp, tg_nm, setAll_nil, setAll_cons, parK_ok, x_par, par3K_ok, x_par3, x_sub, x_sfld, x_for, x_iL, x_iT, x_asL, x_asT, x_iR1, x_iR2, x_nlc, raK_ok, x_raise, fin_rt, fin_nx, fin_exc, x_try, try_rt, ev0, ev1, ev2, ev3, ev4, ev5, ev6, ev7, ev8, ev9, ev10, ev11, ev12, ev13, ev14, DL.v_sub, DL.v_add, DL.v_lt, DL.v_le, DL.v_gt, DL.v_ge, DL.v_fdiv2, DL.v_neg, DL.v_abs, DL.v_int, DL.v_min2, DL.v_max2, DL.v_eqI, DL.v_neI, DL.v_eqB, DL.v_neB, DL.v_isN, DL.v_notN, DL.v_isB, DL.v_e0l, DL.vL_lst, DL.isS_some, DL.v_ixL, DL.v_ixS, DL.v_ixT, DL.atI_0, DL.atI_1, DL.atI_2, DL.atI_3, DL.atI_4, DL.atI_5, DL.v_lenL, DL.v_lenS, DL.v_lenT, DL.v_lenD, DL.v_sumL, DL.v_sumT, DL.v_tupL, DL.v_tupT, DL.v_listT, DL.v_listL, DL.v_slT, DL.v_slL, DL.v_slS, DL.i_ii, DL.i_ib, DL.i_is, DL.i_id, DL.i_il, DL.i_it, DL.i_bi, DL.i_bb, DL.i_bt, DL.i_ni, DL.i_nb, DL.i_nt, DL.i_si, DL.i_sb, DL.i_ss, DL.i_st, DL.i_li, DL.i_lb, DL.i_ls, DL.i_ld, DL.i_ll, DL.i_lt, DL.i_ti, DL.i_tb, DL.i_ts, DL.i_td, DL.i_tl, DL.i_tt, DL.i_di, DL.i_db, DL.i_ds, DL.i_dd, DL.i_dt, DL.x_rev, DL.isNonD, isI_ok s.hv (vf_no (m := "check_version") (by decide +kernel)), check_ok s (d := .int i) rfl (btw_nat hi), fld_ok s.hv vf_size, hb, Bool.not_false]
theorem change_noX (s : VS C v kt tp pa n N T P ω) {d : D} {i j : Nat} {t : String} (hi : i < T.length) (hj : j < n) (h : tyN ω d = some t) (q : isInt d = false) : F_Versions_change C [.obj v, .int i, .int j, d] ω = .exc ⟨"InvalidNumber", [("given", d)]⟩ [] ω := by
  have hb := isbtw_ok (ω := ω) (d := .int j) rfl (lo := 0) (hi := (n : Int) - 1)
  rw [btw_nat hj] at hb
  simp only [F_Versions_change, m_Versions_change, startD, List.map, List.length, Nat.sub_self, List.replicate, List.append_nil, List.cons_append, List.nil_append, Nat.reduceSub, Nat.reduceAdd, List.set, rb_ok, rb_exc, rb_bad, x_bind, x_pure, x_some, x_none, x_badM, x_c, x_e2, x_e1, x_tB, x_asB, chK_t, chK_f, x_eCh, pick_t, pick_f, x_andM, x_orM, x_notM, x_and, x_or, x_not, x_if, x_nil, x_cons, szL0, szL1, szL2, szL3, szL4, szL6, szL7, szL8, szL10, szT0, szT1, szT2, szT3, szT4, x_tup, x_nlst, x_call, x_ncall, x_oNone, x_oSome, x_asI, x_sl, x_flst, x_alloc, bk_ok, bk_exc, x_fun, x_funK, opt_some, x_fld, x_mt, x_meth, mkK_ok, mkK_exc, x_make, x_makeK, x_next, x_seq, th_nx, th_rt, th_bk, th_ct, th_exc, x_drop, x_sret, x_sif, x_set, asgK_some, x_asg, tg_tp, tg_nm, setAll_nil, setAll_cons, parK_ok, x_par, par3K_ok, x_par3, x_sub, x_sfld, x_for, x_iL, x_iT, x_asL, x_asT, x_iR1, x_iR2, x_nlc, raK_ok, x_raise, fin_rt, fin_nx, fin_exc, x_try, try_rt, ev0, ev1, ev2, ev3, ev4, ev5, ev6, ev7, ev8, ev9, ev10, ev11, ev12, ev13, ev14, DL.v_sub, DL.v_add, DL.v_lt, DL.v_le, DL.v_gt, DL.v_ge, DL.v_fdiv2, DL.v_neg, DL.v_abs, DL.v_int, DL.v_min2, DL.v_max2, DL.v_eqI, DL.v_neI, DL.v_eqB, DL.v_neB, DL.v_isN, DL.v_notN, DL.v_isB, DL.v_e0l, DL.vL_lst, DL.isS_some, DL.v_ixL, DL.v_ixS, DL.v_ixT, DL.atI_0, DL.atI_1, DL.atI_2, DL.atI_3, DL.atI_4, DL.atI_5, DL.v_lenL, DL.v_lenS, DL.v_lenT, DL.v_lenD, DL.v_sumL, DL.v_sumT, DL.v_tupL, DL.v_tupT, DL.v_listT, DL.v_listL, DL.v_slT, DL.v_slL, DL.v_slS, DL.i_ii, DL.i_ib, DL.i_is, DL.i_id, DL.i_il, DL.i_it, DL.i_bi, DL.i_bb, DL.i_bt, DL.i_ni, DL.i_nb, DL.i_nt, DL.i_si, DL.i_sb, DL.i_ss, DL.i_st, DL.i_li, DL.i_lb, DL.i_ls, DL.i_ld, DL.i_ll, DL.i_lt, DL.i_ti, DL.i_tb, DL.i_ts, DL.i_td, DL.i_tl, DL.i_tt, DL.i_di, DL.i_db, DL.i_ds, DL.i_dd, DL.i_dt, DL.x_rev, DL.isNonD, isI_ok s.hv (vf_no (m := "check_version") (by decide +kernel)), check_ok s (d := .int i) rfl (btw_nat hi), fld_ok s.hv vf_size, hb, Bool.not_true, isint_ok h, q, Bool.not_false]
theorem change_noT (s : VS C v kt tp pa n N T P ω) {x : Int} {i j : Nat} (hi : i < T.length) (hj : j < n) (h : T.length = 100) : F_Versions_change C [.obj v, .int i, .int j, .int x] ω = .exc ⟨"TooMany", [("count", .int 100)]⟩ [] ω := by
  have hb := isbtw_ok (ω := ω) (d := .int j) rfl (lo := 0) (hi := (n : Int) - 1)
  rw [btw_nat hj] at hb
  have hx := isint_ok (ω := ω) (d := .int x) rfl
  have hl : ((T.map fun a : Nat => D.int a).length : Int) = 100 := by rw [T_len, h]; rfl
  have h1 : decide ((100 : Int) = 100) = true := by decide
  simp only [F_Versions_change, m_Versions_change, startD, List.map, List.length, Nat.sub_self, List.replicate, List.append_nil, List.cons_append, List.nil_append, Nat.reduceSub, Nat.reduceAdd, List.set, rb_ok, rb_exc, rb_bad, x_bind, x_pure, x_some, x_none, x_badM, x_c, x_e2, x_e1, x_tB, x_asB, chK_t, chK_f, x_eCh, pick_t, pick_f, x_andM, x_orM, x_notM, x_and, x_or, x_not, x_if, x_nil, x_cons, szL0, szL1, szL2, szL3, szL4, szL6, szL7, szL8, szL10, szT0, szT1, szT2, szT3, szT4, x_tup, x_nlst, x_call, x_ncall, x_oNone, x_oSome, x_asI, x_sl, x_flst, x_alloc, bk_ok, bk_exc, x_fun, x_funK, opt_some, x_fld, x_mt, x_meth, mkK_ok, mkK_exc, x_make, x_makeK, x_next, x_seq, th_nx, th_rt, th_bk, th_ct, th_exc, x_drop, x_sret, x_sif, x_set, asgK_some, x_asg, tg_tp, tg_nm, setAll_nil, setAll_cons, parK_ok, x_par, par3K_ok, x_par3, x_sub, x_sfld, x_for, x_iL, x_iT, x_asL, x_asT, x_iR1, x_iR2, x_nlc, raK_ok, x_raise, fin_rt, fin_nx, fin_exc, x_try, try_rt, ev0, ev1, ev2, ev3, ev4, ev5, ev6, ev7, ev8, ev9, ev10, ev11, ev12, ev13, ev14, DL.v_sub, DL.v_add, DL.v_lt, DL.v_le, DL.v_gt, DL.v_ge, DL.v_fdiv2, DL.v_neg, DL.v_abs, DL.v_int, DL.v_min2, DL.v_max2, DL.v_eqI, DL.v_neI, DL.v_eqB, DL.v_neB, DL.v_isN, DL.v_notN, DL.v_isB, DL.v_e0l, DL.vL_lst, DL.isS_some, DL.v_ixL, DL.v_ixS, DL.v_ixT, DL.atI_0, DL.atI_1, DL.atI_2, DL.atI_3, DL.atI_4, DL.atI_5, DL.v_lenL, DL.v_lenS, DL.v_lenT, DL.v_lenD, DL.v_sumL, DL.v_sumT, DL.v_tupL, DL.v_tupT, DL.v_listT, DL.v_listL, DL.v_slT, DL.v_slL, DL.v_slS, DL.i_ii, DL.i_ib, DL.i_is, DL.i_id, DL.i_il, DL.i_it, DL.i_bi, DL.i_bb, DL.i_bt, DL.i_ni, DL.i_nb, DL.i_nt, DL.i_si, DL.i_sb, DL.i_ss, DL.i_st, DL.i_li, DL.i_lb, DL.i_ls, DL.i_ld, DL.i_ll, DL.i_lt, DL.i_ti, DL.i_tb, DL.i_ts, DL.i_td, DL.i_tl, DL.i_tt, DL.i_di, DL.i_db, DL.i_ds, DL.i_dd, DL.i_dt, DL.x_rev, DL.isNonD, isI_ok s.hv (vf_no (m := "check_version") (by decide +kernel)), check_ok s (d := .int i) rfl (btw_nat hi), fld_ok s.hv vf_size, hb, Bool.not_true, hx, isInt, fld_ok s.hv vf_tops, DL.v_lenO s.ht, hl, h1, decide_true]
theorem total_noL (s : VS C v kt tp pa n N T P ω) {d a : D} {i : Nat} {t : String} (hi : i < T.length) (h : tyN ω d = some t) (q : btw d 0 n = false) : F_Versions_total C [.obj v, .int i, d, a] ω = .exc ⟨"InvalidRange", [("given", d)]⟩ [] ω := by
  have hb := isbtw_ok (ω := ω) h (lo := 0) (hi := (n : Int))
  rw [q] at hb
  have hr : F_check_range [d, a, .int n] ω = .exc ⟨"InvalidRange", [("given", d)]⟩ [] ω := by
    simp only [F_check_range, m_check_range, startD, List.map, List.length, Nat.sub_self, List.replicate, List.append_nil, List.cons_append, List.nil_append, Nat.reduceSub, Nat.reduceAdd, List.set, rb_ok, rb_exc, rb_bad, x_bind, x_pure, x_some, x_none, x_badM, x_c, x_e2, x_e1, x_tB, x_asB, chK_t, chK_f, x_eCh, pick_t, pick_f, x_andM, x_orM, x_notM, x_and, x_or, x_not, x_if, x_nil, x_cons, szL0, szL1, szL2, szL3, szL4, szL6, szL7, szL8, szL10, szT0, szT1, szT2, szT3, szT4, x_tup, x_nlst, x_call, x_ncall, x_oNone, x_oSome, x_asI, x_sl, x_flst, x_alloc, bk_ok, bk_exc, x_fun, x_funK, opt_some, x_fld, x_mt, x_meth, mkK_ok, mkK_exc, x_make, x_makeK, x_next, x_seq, th_nx, th_rt, th_bk, th_ct, th_exc, x_drop, x_sret, x_sif, x_set, asgK_some, x_asg, tg_tp, tg_nm, setAll_nil, setAll_cons, parK_ok, x_par, par3K_ok, x_par3, x_sub, x_sfld, x_for, x_iL, x_iT, x_asL, x_asT, x_iR1, x_iR2, x_nlc, raK_ok, x_raise, fin_rt, fin_nx, fin_exc, x_try, try_rt, ev0, ev1, ev2, ev3, ev4, ev5, ev6, ev7, ev8, ev9, ev10, ev11, ev12, ev13, ev14, DL.v_sub, DL.v_add, DL.v_lt, DL.v_le, DL.v_gt, DL.v_ge, DL.v_fdiv2, DL.v_neg, DL.v_abs, DL.v_int, DL.v_min2, DL.v_max2, DL.v_eqI, DL.v_neI, DL.v_eqB, DL.v_neB, DL.v_isN, DL.v_notN, DL.v_isB, DL.v_e0l, DL.vL_lst, DL.isS_some, DL.v_ixL, DL.v_ixS, DL.v_ixT, DL.atI_0, DL.atI_1, DL.atI_2, DL.atI_3, DL.atI_4, DL.atI_5, DL.v_lenL, DL.v_lenS, DL.v_lenT, DL.v_lenD, DL.v_sumL, DL.v_sumT, DL.v_tupL, DL.v_tupT, DL.v_listT, DL.v_listL, DL.v_slT, DL.v_slL, DL.v_slS, DL.i_ii, DL.i_ib, DL.i_is, DL.i_id, DL.i_il, DL.i_it, DL.i_bi, DL.i_bb, DL.i_bt, DL.i_ni, DL.i_nb, DL.i_nt, DL.i_si, DL.i_sb, DL.i_ss, DL.i_st, DL.i_li, DL.i_lb, DL.i_ls, DL.i_ld, DL.i_ll, DL.i_lt, DL.i_ti, DL.i_tb, DL.i_ts, DL.i_td, DL.i_tl, DL.i_tt, DL.i_di, DL.i_db, DL.i_ds, DL.i_dd, DL.i_dt, DL.x_rev, DL.isNonD, hb, Bool.not_false]
  simp only [F_Versions_total, m_Versions_total, startD, List.map, List.length, Nat.sub_self, List.replicate, List.append_nil, List.cons_append, List.nil_append, Nat.reduceSub, Nat.reduceAdd, List.set, rb_ok, rb_exc, rb_bad, x_bind, x_pure, x_some, x_none, x_badM, x_c, x_e2, x_e1, x_tB, x_asB, chK_t, chK_f, x_eCh, pick_t, pick_f, x_andM, x_orM, x_notM, x_and, x_or, x_not, x_if, x_nil, x_cons, szL0, szL1, szL2, szL3, szL4, szL6, szL7, szL8, szL10, szT0, szT1, szT2, szT3, szT4, x_tup, x_nlst, x_call, x_ncall, x_oNone, x_oSome, x_asI, x_sl, x_flst, x_alloc, bk_ok, bk_exc, x_fun, x_funK, opt_some, x_fld, x_mt, x_meth, mkK_ok, mkK_exc, x_make, x_makeK, x_next, x_seq, th_nx, th_rt, th_bk, th_ct, th_exc, x_drop, x_sret, x_sif, x_set, asgK_some, x_asg, tg_tp, tg_nm, setAll_nil, setAll_cons, parK_ok, x_par, par3K_ok, x_par3, x_sub, x_sfld, x_for, x_iL, x_iT, x_asL, x_asT, x_iR1, x_iR2, x_nlc, raK_ok, x_raise, fin_rt, fin_nx, fin_exc, x_try, try_rt, ev0, ev1, ev2, ev3, ev4, ev5, ev6, ev7, ev8, ev9, ev10, ev11, ev12, ev13, ev14, DL.v_sub, DL.v_add, DL.v_lt, DL.v_le, DL.v_gt, DL.v_ge, DL.v_fdiv2, DL.v_neg, DL.v_abs, DL.v_int, DL.v_min2, DL.v_max2, DL.v_eqI, DL.v_neI, DL.v_eqB, DL.v_neB, DL.v_isN, DL.v_notN, DL.v_isB, DL.v_e0l, DL.vL_lst, DL.isS_some, DL.v_ixL, DL.v_ixS, DL.v_ixT, DL.atI_0, DL.atI_1, DL.atI_2, DL.atI_3, DL.atI_4, DL.atI_5, DL.v_lenL, DL.v_lenS, DL.v_lenT, DL.v_lenD, DL.v_sumL, DL.v_sumT, DL.v_tupL, DL.v_tupT, DL.v_listT, DL.v_listL, DL.v_slT, DL.v_slL, DL.v_slS, DL.i_ii, DL.i_ib, DL.i_is, DL.i_id, DL.i_il, DL.i_it, DL.i_bi, DL.i_bb, DL.i_bt, DL.i_ni, DL.i_nb, DL.i_nt, DL.i_si, DL.i_sb, DL.i_ss, DL.i_st, DL.i_li, DL.i_lb, DL.i_ls, DL.i_ld, DL.i_ll, DL.i_lt, DL.i_ti, DL.i_tb, DL.i_ts, DL.i_td, DL.i_tl, DL.i_tt, DL.i_di, DL.i_db, DL.i_ds, DL.i_dd, DL.i_dt, DL.x_rev, DL.isNonD, isI_ok s.hv (vf_no (m := "check_version") (by decide +kernel)), check_ok s (d := .int i) rfl (btw_nat hi), fld_ok s.hv vf_size, hr]
theorem total_noH (s : VS C v kt tp pa n N T P ω) {d : D} {i A : Nat} {t : String} (hi : i < T.length) (hA : A ≤ n) (h : tyN ω d = some t) (q : btw d A n = false) : F_Versions_total C [.obj v, .int i, .int A, d] ω = .exc ⟨"InvalidRange", [("given", d)]⟩ [] ω := by
  have hb := isbtw_ok (ω := ω) h (lo := A) (hi := (n : Int))
  rw [q] at hb
  have b1 : btw (.int A) 0 n = true := by
    show (decide ((0 : Int) ≤ A) && decide ((A : Int) ≤ (n : Int))) = true
    rw [decide_eq_true (by omega), decide_eq_true (by omega)]
    rfl
  have i1 := isbtw_ok (ω := ω) (d := .int A) rfl (lo := 0) (hi := (n : Int))
  rw [b1] at i1
  have hr : F_check_range [.int A, d, .int n] ω = .exc ⟨"InvalidRange", [("given", d)]⟩ [] ω := by
    simp only [F_check_range, m_check_range, startD, List.map, List.length, Nat.sub_self, List.replicate, List.append_nil, List.cons_append, List.nil_append, Nat.reduceSub, Nat.reduceAdd, List.set, rb_ok, rb_exc, rb_bad, x_bind, x_pure, x_some, x_none, x_badM, x_c, x_e2, x_e1, x_tB, x_asB, chK_t, chK_f, x_eCh, pick_t, pick_f, x_andM, x_orM, x_notM, x_and, x_or, x_not, x_if, x_nil, x_cons, szL0, szL1, szL2, szL3, szL4, szL6, szL7, szL8, szL10, szT0, szT1, szT2, szT3, szT4, x_tup, x_nlst, x_call, x_ncall, x_oNone, x_oSome, x_asI, x_sl, x_flst, x_alloc, bk_ok, bk_exc, x_fun, x_funK, opt_some, x_fld, x_mt, x_meth, mkK_ok, mkK_exc, x_make, x_makeK, x_next, x_seq, th_nx, th_rt, th_bk, th_ct, th_exc, x_drop, x_sret, x_sif, x_set, asgK_some, x_asg, tg_tp, tg_nm, setAll_nil, setAll_cons, parK_ok, x_par, par3K_ok, x_par3, x_sub, x_sfld, x_for, x_iL, x_iT, x_asL, x_asT, x_iR1, x_iR2, x_nlc, raK_ok, x_raise, fin_rt, fin_nx, fin_exc, x_try, try_rt, ev0, ev1, ev2, ev3, ev4, ev5, ev6, ev7, ev8, ev9, ev10, ev11, ev12, ev13, ev14, DL.v_sub, DL.v_add, DL.v_lt, DL.v_le, DL.v_gt, DL.v_ge, DL.v_fdiv2, DL.v_neg, DL.v_abs, DL.v_int, DL.v_min2, DL.v_max2, DL.v_eqI, DL.v_neI, DL.v_eqB, DL.v_neB, DL.v_isN, DL.v_notN, DL.v_isB, DL.v_e0l, DL.vL_lst, DL.isS_some, DL.v_ixL, DL.v_ixS, DL.v_ixT, DL.atI_0, DL.atI_1, DL.atI_2, DL.atI_3, DL.atI_4, DL.atI_5, DL.v_lenL, DL.v_lenS, DL.v_lenT, DL.v_lenD, DL.v_sumL, DL.v_sumT, DL.v_tupL, DL.v_tupT, DL.v_listT, DL.v_listL, DL.v_slT, DL.v_slL, DL.v_slS, DL.i_ii, DL.i_ib, DL.i_is, DL.i_id, DL.i_il, DL.i_it, DL.i_bi, DL.i_bb, DL.i_bt, DL.i_ni, DL.i_nb, DL.i_nt, DL.i_si, DL.i_sb, DL.i_ss, DL.i_st, DL.i_li, DL.i_lb, DL.i_ls, DL.i_ld, DL.i_ll, DL.i_lt, DL.i_ti, DL.i_tb, DL.i_ts, DL.i_td, DL.i_tl, DL.i_tt, DL.i_di, DL.i_db, DL.i_ds, DL.i_dd, DL.i_dt, DL.x_rev, DL.isNonD, i1, Bool.not_true, hb, Bool.not_false]
  simp only [F_Versions_total, m_Versions_total, startD, List.map, List.length, Nat.sub_self, List.replicate, List.append_nil, List.cons_append, List.nil_append, Nat.reduceSub, Nat.reduceAdd, List.set, rb_ok, rb_exc, rb_bad, x_bind, x_pure, x_some, x_none, x_badM, x_c, x_e2, x_e1, x_tB, x_asB, chK_t, chK_f, x_eCh, pick_t, pick_f, x_andM, x_orM, x_notM, x_and, x_or, x_not, x_if, x_nil, x_cons, szL0, szL1, szL2, szL3, szL4, szL6, szL7, szL8, szL10, szT0, szT1, szT2, szT3, szT4, x_tup, x_nlst, x_call, x_ncall, x_oNone, x_oSome, x_asI, x_sl, x_flst, x_alloc, bk_ok, bk_exc, x_fun, x_funK, opt_some, x_fld, x_mt, x_meth, mkK_ok, mkK_exc, x_make, x_makeK, x_next, x_seq, th_nx, th_rt, th_bk, th_ct, th_exc, x_drop, x_sret, x_sif, x_set, asgK_some, x_asg, tg_tp, tg_nm, setAll_nil, setAll_cons, parK_ok, x_par, par3K_ok, x_par3, x_sub, x_sfld, x_for, x_iL, x_iT, x_asL, x_asT, x_iR1, x_iR2, x_nlc, raK_ok, x_raise, fin_rt, fin_nx, fin_exc, x_try, try_rt, ev0, ev1, ev2, ev3, ev4, ev5, ev6, ev7, ev8, ev9, ev10, ev11, ev12, ev13, ev14, DL.v_sub, DL.v_add, DL.v_lt, DL.v_le, DL.v_gt, DL.v_ge, DL.v_fdiv2, DL.v_neg, DL.v_abs, DL.v_int, DL.v_min2, DL.v_max2, DL.v_eqI, DL.v_neI, DL.v_eqB, DL.v_neB, DL.v_isN, DL.v_notN, DL.v_isB, DL.v_e0l, DL.vL_lst, DL.isS_some, DL.v_ixL, DL.v_ixS, DL.v_ixT, DL.atI_0, DL.atI_1, DL.atI_2, DL.atI_3, DL.atI_4, DL.atI_5, DL.v_lenL, DL.v_lenS, DL.v_lenT, DL.v_lenD, DL.v_sumL, DL.v_sumT, DL.v_tupL, DL.v_tupT, DL.v_listT, DL.v_listL, DL.v_slT, DL.v_slL, DL.v_slS, DL.i_ii, DL.i_ib, DL.i_is, DL.i_id, DL.i_il, DL.i_it, DL.i_bi, DL.i_bb, DL.i_bt, DL.i_ni, DL.i_nb, DL.i_nt, DL.i_si, DL.i_sb, DL.i_ss, DL.i_st, DL.i_li, DL.i_lb, DL.i_ls, DL.i_ld, DL.i_ll, DL.i_lt, DL.i_ti, DL.i_tb, DL.i_ts, DL.i_td, DL.i_tl, DL.i_tt, DL.i_di, DL.i_db, DL.i_ds, DL.i_dd, DL.i_dt, DL.x_rev, DL.isNonD, isI_ok s.hv (vf_no (m := "check_version") (by decide +kernel)), check_ok s (d := .int i) rfl (btw_nat hi), fld_ok s.hv vf_size, hr]
end
end K80

set_option Elab.async false
set_option linter.all false
set_option maxRecDepth 100000
set_option maxHeartbeats 2000000
namespace K80
open PySem PySem.Spec PyProof.Rows L2 DL

/-! ### _law_same -/
inductive Pl : Nat → D → Prop
  | non {k} : Pl k .non
  | bl {k b} : Pl k (.bl b)
  | int {k i} : Pl k (.int i)
  | str {k s} : PyData.strOk s = true → Pl k (.str s)
  | emp {k} : Pl k (.dic [] [])
  | lst {k ds} : (∀ d ∈ ds, Pl k d) → ds.length ≤ 100000 → Pl (k + 1) (.lst ds)
  | tup {k ds} : (∀ d ∈ ds, Pl k d) → ds.length ≤ 100000 → Pl (k + 1) (.tup ds)
theorem Pl.up {k : Nat} {d : D} (h : Pl k d) : Pl (k + 1) d := by
  induction h with
  | non => exact .non
  | bl => exact .bl
  | int => exact .int
  | str h => exact .str h
  | emp => exact .emp
  | lst _ h ih => exact .lst ih h
  | tup _ h ih => exact .tup ih h
theorem Pl.le {k m : Nat} {d : D} (h : Pl k d) (l : k ≤ m) : Pl m d := by
  induction l with
  | refl => exact h
  | step _ ih => exact ih.up
theorem range_at {m j : Nat} {d : D} (h : (rangeD 0 (m : Int))[j]? = some d) : d = .int j ∧ j < m := by
  unfold rangeD at h
  rw [List.getElem?_map] at h
  have hj : j < m := by
    have := List.getElem?_eq_none_iff (l := List.range ((m : Int) - 0).toNat) (i := j)
    by_cases q : j < m
    · exact q
    · rw [this.mpr (by simp; omega)] at h
      cases h
  rw [List.getElem?_range (by omega)] at h
  have h' : some (D.int (0 + (j : Int))) = some d := h
  cases h'
  exact ⟨by simp, hj⟩
theorem range_len {m : Nat} : (rangeD 0 (m : Int)).length = m := by
  unfold rangeD
  simp
theorem same_lc {rec : Fn} {w : D} {ds : List D} {x2 : SD} {ω : List OB} (hix : ∀ i : Nat, oIx ω w (.int i) = atI ds i) (hrec : ∀ d ∈ ds, rec [d, d] ω = .ok (.bl true) [] ω) (hl : ds.length ≤ 100000) :
    ∃ γ', lcL (.nm 3) [3] (lt__law_same_1 rec) le__law_same_1 (rangeD 0 (ds.length : Int)) [] [.dat w, .dat w, x2, .no] ω = .ok [] γ' ω := by
  obtain ⟨acc, γ', ω', e, h1, h2, h3⟩ := lc_ok (t := .nm 3) (vs := [3]) (tt := lt__law_same_1 rec) (te := le__law_same_1) (fun i acc γ ω' => acc = [] ∧ γ = [.dat w, .dat w, x2, .no] ∧ ω' = ω) (ds := rangeD 0 (ds.length : Int)) (acc := []) (γ := [.dat w, .dat w, x2, .no]) (ω := ω) 0 ⟨rfl, rfl, rfl⟩ (by rw [range_len]; simp; omega) (by
    rintro j d acc γ ω' hd ⟨rfl, rfl, rfl⟩
    obtain ⟨rfl, hj⟩ := range_at hd
    have hg : ds[j]? = some ds[j] := List.getElem?_eq_getElem hj
    have ha := DL.atI_nat hg
    have hr := hrec _ (List.getElem_mem hj)
    refine ⟨[.dat w, .dat w, x2, .dat (.int j)], [.dat w, .dat w, x2, .dat (.int j)], ω', rfl, .inl ⟨?_, rfl, rfl, rfl⟩⟩
    simp only [lt__law_same_1, startD, List.map, List.length, Nat.sub_self, List.replicate, List.append_nil, List.cons_append, List.nil_append, Nat.reduceSub, Nat.reduceAdd, List.set, rb_ok, rb_exc, rb_bad, x_bind, x_pure, x_some, x_none, x_badM, x_c, x_e2, x_e1, x_tB, x_asB, chK_t, chK_f, x_eCh, pick_t, pick_f, x_andM, x_orM, x_notM, x_and, x_or, x_not, x_if, x_nil, x_cons, szL0, szL1, szL2, szL3, szL4, szL6, szL7, szL8, szL10, szT0, szT1, szT2, szT3, szT4, x_tup, x_nlst, x_call, x_ncall, x_oNone, x_oSome, x_asI, x_sl, x_flst, x_alloc, bk_ok, bk_exc, x_fun, x_funK, opt_some, x_fld, x_mt, x_meth, mkK_ok, mkK_exc, x_make, x_makeK, x_next, x_seq, th_nx, th_rt, th_bk, th_ct, th_exc, x_drop, x_sret, x_sif, x_set, asgK_some, x_asg, tg_tp, tg_nm, setAll_nil, setAll_cons, parK_ok, x_par, par3K_ok, x_par3, x_sub, x_sfld, x_for, x_iL, x_iT, x_asL, x_asT, x_iR1, x_iR2, x_nlc, raK_ok, x_raise, fin_rt, fin_nx, fin_exc, x_try, try_rt, ev0, ev1, ev2, ev3, ev4, ev5, ev6, ev7, ev8, ev9, ev10, ev11, ev12, ev13, ev14, hix, ha, hr, Bool.not_true])
  subst h1 h3
  exact ⟨γ', e⟩
theorem r1n {γ : List SD} {ω : List OB} {m : Nat} (h : m ≤ 100000) : r1K [.int (m : Int)] γ ω = .ok (rangeD 0 (m : Int)) γ ω := r1K_ok ⟨by omega, by omega⟩
theorem id_emp {ω : List OB} : (Res.ok (D.bl (id (List.isEmpty ([] : List D)))) [] ω : Res D) = .ok (.bl true) [] ω := rfl
theorem same_emp {n : Nat} {ω : List OB} : F__law_same (n + 1) [.dic [] [], .dic [] []] ω = .ok (.bl true) [] ω := by
  have h2 : nLcD0 1 [.dat (.dic [] []), .dat (.dic [] []), .no, .no] ω = .ok [] [.dat (.dic [] []), .dat (.dic [] []), .no, .no] ω := rfl
  simp only [F__law_same, m__law_same, startD, List.map, List.length_cons, List.length_nil, Nat.sub_self, List.replicate, List.append_nil, List.cons_append, List.nil_append, Nat.reduceSub, Nat.reduceAdd, List.set, rb_ok, rb_exc, rb_bad, x_bind, x_pure, x_some, x_none, x_badM, x_c, x_e2, x_e1, x_tB, x_asB, chK_t, chK_f, x_eCh, pick_t, pick_f, x_andM, x_orM, x_notM, x_and, x_or, x_not, x_if, x_nil, x_cons, szL0, szL1, szL2, szL3, szL4, szL6, szL7, szL8, szL10, szT0, szT1, szT2, szT3, szT4, x_tup, x_nlst, x_call, x_ncall, x_oNone, x_oSome, x_asI, x_sl, x_flst, x_alloc, bk_ok, bk_exc, x_fun, x_funK, opt_some, x_fld, x_mt, x_meth, mkK_ok, mkK_exc, x_make, x_makeK, x_next, x_seq, th_nx, th_rt, th_bk, th_ct, th_exc, x_drop, x_sret, x_sif, x_set, asgK_some, x_asg, tg_tp, tg_nm, setAll_nil, setAll_cons, parK_ok, x_par, par3K_ok, x_par3, x_sub, x_sfld, x_for, x_iL, x_iT, x_asL, x_asT, x_iR1, x_iR2, x_nlc, raK_ok, x_raise, fin_rt, fin_nx, fin_exc, x_try, try_rt, ev0, ev1, ev2, ev3, ev4, ev5, ev6, ev7, ev8, ev9, ev10, ev11, ev12, ev13, ev14, DL.v_sub, DL.v_add, DL.v_lt, DL.v_le, DL.v_gt, DL.v_ge, DL.v_fdiv2, DL.v_neg, DL.v_abs, DL.v_int, DL.v_min2, DL.v_max2, DL.v_eqI, DL.v_neI, DL.v_eqB, DL.v_neB, DL.v_isN, DL.v_notN, DL.v_isB, DL.v_e0l, DL.vL_lst, DL.isS_some, DL.v_ixL, DL.v_ixS, DL.v_ixT, DL.atI_0, DL.atI_1, DL.atI_2, DL.atI_3, DL.atI_4, DL.atI_5, DL.v_lenL, DL.v_lenS, DL.v_lenT, DL.v_lenD, DL.v_sumL, DL.v_sumT, DL.v_tupL, DL.v_tupT, DL.v_listT, DL.v_listL, DL.v_slT, DL.v_slL, DL.v_slS, DL.i_ii, DL.i_ib, DL.i_is, DL.i_id, DL.i_il, DL.i_it, DL.i_bi, DL.i_bb, DL.i_bt, DL.i_ni, DL.i_nb, DL.i_nt, DL.i_si, DL.i_sb, DL.i_ss, DL.i_st, DL.i_li, DL.i_lb, DL.i_ls, DL.i_ld, DL.i_ll, DL.i_lt, DL.i_ti, DL.i_tb, DL.i_ts, DL.i_td, DL.i_tl, DL.i_tt, DL.i_di, DL.i_db, DL.i_ds, DL.i_dd, DL.i_dt, DL.x_rev, DL.isNonD, Bool.not_true, h2, DL.v_neI, decide_true]
  exact id_emp
theorem same_non {n : Nat} {ω : List OB} : F__law_same (n + 1) [.non, .non] ω = .ok (.bl true) [] ω := by
  simp only [F__law_same, m__law_same, startD, List.map, List.length, Nat.sub_self, List.replicate, List.append_nil, List.cons_append, List.nil_append, Nat.reduceSub, Nat.reduceAdd, List.set, rb_ok, rb_exc, rb_bad, x_bind, x_pure, x_some, x_none, x_badM, x_c, x_e2, x_e1, x_tB, x_asB, chK_t, chK_f, x_eCh, pick_t, pick_f, x_andM, x_orM, x_notM, x_and, x_or, x_not, x_if, x_nil, x_cons, szL0, szL1, szL2, szL3, szL4, szL6, szL7, szL8, szL10, szT0, szT1, szT2, szT3, szT4, x_tup, x_nlst, x_call, x_ncall, x_oNone, x_oSome, x_asI, x_sl, x_flst, x_alloc, bk_ok, bk_exc, x_fun, x_funK, opt_some, x_fld, x_mt, x_meth, mkK_ok, mkK_exc, x_make, x_makeK, x_next, x_seq, th_nx, th_rt, th_bk, th_ct, th_exc, x_drop, x_sret, x_sif, x_set, asgK_some, x_asg, tg_tp, tg_nm, setAll_nil, setAll_cons, parK_ok, x_par, par3K_ok, x_par3, x_sub, x_sfld, x_for, x_iL, x_iT, x_asL, x_asT, x_iR1, x_iR2, x_nlc, raK_ok, x_raise, fin_rt, fin_nx, fin_exc, x_try, try_rt, ev0, ev1, ev2, ev3, ev4, ev5, ev6, ev7, ev8, ev9, ev10, ev11, ev12, ev13, ev14, DL.v_sub, DL.v_add, DL.v_lt, DL.v_le, DL.v_gt, DL.v_ge, DL.v_fdiv2, DL.v_neg, DL.v_abs, DL.v_int, DL.v_min2, DL.v_max2, DL.v_eqI, DL.v_neI, DL.v_eqB, DL.v_neB, DL.v_isN, DL.v_notN, DL.v_isB, DL.v_e0l, DL.vL_lst, DL.isS_some, DL.v_ixL, DL.v_ixS, DL.v_ixT, DL.atI_0, DL.atI_1, DL.atI_2, DL.atI_3, DL.atI_4, DL.atI_5, DL.v_lenL, DL.v_lenS, DL.v_lenT, DL.v_lenD, DL.v_sumL, DL.v_sumT, DL.v_tupL, DL.v_tupT, DL.v_listT, DL.v_listL, DL.v_slT, DL.v_slL, DL.v_slS, DL.i_ii, DL.i_ib, DL.i_is, DL.i_id, DL.i_il, DL.i_it, DL.i_bi, DL.i_bb, DL.i_bt, DL.i_ni, DL.i_nb, DL.i_nt, DL.i_si, DL.i_sb, DL.i_ss, DL.i_st, DL.i_li, DL.i_lb, DL.i_ls, DL.i_ld, DL.i_ll, DL.i_lt, DL.i_ti, DL.i_tb, DL.i_ts, DL.i_td, DL.i_tl, DL.i_tt, DL.i_di, DL.i_db, DL.i_ds, DL.i_dd, DL.i_dt, DL.x_rev, DL.isNonD]
theorem same_bl {n : Nat} {ω : List OB} {b : Bool} : F__law_same (n + 1) [.bl b, .bl b] ω = .ok (.bl true) [] ω := by
  simp only [F__law_same, m__law_same, startD, List.map, List.length, Nat.sub_self, List.replicate, List.append_nil, List.cons_append, List.nil_append, Nat.reduceSub, Nat.reduceAdd, List.set, rb_ok, rb_exc, rb_bad, x_bind, x_pure, x_some, x_none, x_badM, x_c, x_e2, x_e1, x_tB, x_asB, chK_t, chK_f, x_eCh, pick_t, pick_f, x_andM, x_orM, x_notM, x_and, x_or, x_not, x_if, x_nil, x_cons, szL0, szL1, szL2, szL3, szL4, szL6, szL7, szL8, szL10, szT0, szT1, szT2, szT3, szT4, x_tup, x_nlst, x_call, x_ncall, x_oNone, x_oSome, x_asI, x_sl, x_flst, x_alloc, bk_ok, bk_exc, x_fun, x_funK, opt_some, x_fld, x_mt, x_meth, mkK_ok, mkK_exc, x_make, x_makeK, x_next, x_seq, th_nx, th_rt, th_bk, th_ct, th_exc, x_drop, x_sret, x_sif, x_set, asgK_some, x_asg, tg_tp, tg_nm, setAll_nil, setAll_cons, parK_ok, x_par, par3K_ok, x_par3, x_sub, x_sfld, x_for, x_iL, x_iT, x_asL, x_asT, x_iR1, x_iR2, x_nlc, raK_ok, x_raise, fin_rt, fin_nx, fin_exc, x_try, try_rt, ev0, ev1, ev2, ev3, ev4, ev5, ev6, ev7, ev8, ev9, ev10, ev11, ev12, ev13, ev14, DL.v_sub, DL.v_add, DL.v_lt, DL.v_le, DL.v_gt, DL.v_ge, DL.v_fdiv2, DL.v_neg, DL.v_abs, DL.v_int, DL.v_min2, DL.v_max2, DL.v_eqI, DL.v_neI, DL.v_eqB, DL.v_neB, DL.v_isN, DL.v_notN, DL.v_isB, DL.v_e0l, DL.vL_lst, DL.isS_some, DL.v_ixL, DL.v_ixS, DL.v_ixT, DL.atI_0, DL.atI_1, DL.atI_2, DL.atI_3, DL.atI_4, DL.atI_5, DL.v_lenL, DL.v_lenS, DL.v_lenT, DL.v_lenD, DL.v_sumL, DL.v_sumT, DL.v_tupL, DL.v_tupT, DL.v_listT, DL.v_listL, DL.v_slT, DL.v_slL, DL.v_slS, DL.i_ii, DL.i_ib, DL.i_is, DL.i_id, DL.i_il, DL.i_it, DL.i_bi, DL.i_bb, DL.i_bt, DL.i_ni, DL.i_nb, DL.i_nt, DL.i_si, DL.i_sb, DL.i_ss, DL.i_st, DL.i_li, DL.i_lb, DL.i_ls, DL.i_ld, DL.i_ll, DL.i_lt, DL.i_ti, DL.i_tb, DL.i_ts, DL.i_td, DL.i_tl, DL.i_tt, DL.i_di, DL.i_db, DL.i_ds, DL.i_dd, DL.i_dt, DL.x_rev, DL.isNonD, decide_true]
theorem same_int {n : Nat} {ω : List OB} {i : Int} : F__law_same (n + 1) [.int i, .int i] ω = .ok (.bl true) [] ω := by
  simp only [F__law_same, m__law_same, startD, List.map, List.length, Nat.sub_self, List.replicate, List.append_nil, List.cons_append, List.nil_append, Nat.reduceSub, Nat.reduceAdd, List.set, rb_ok, rb_exc, rb_bad, x_bind, x_pure, x_some, x_none, x_badM, x_c, x_e2, x_e1, x_tB, x_asB, chK_t, chK_f, x_eCh, pick_t, pick_f, x_andM, x_orM, x_notM, x_and, x_or, x_not, x_if, x_nil, x_cons, szL0, szL1, szL2, szL3, szL4, szL6, szL7, szL8, szL10, szT0, szT1, szT2, szT3, szT4, x_tup, x_nlst, x_call, x_ncall, x_oNone, x_oSome, x_asI, x_sl, x_flst, x_alloc, bk_ok, bk_exc, x_fun, x_funK, opt_some, x_fld, x_mt, x_meth, mkK_ok, mkK_exc, x_make, x_makeK, x_next, x_seq, th_nx, th_rt, th_bk, th_ct, th_exc, x_drop, x_sret, x_sif, x_set, asgK_some, x_asg, tg_tp, tg_nm, setAll_nil, setAll_cons, parK_ok, x_par, par3K_ok, x_par3, x_sub, x_sfld, x_for, x_iL, x_iT, x_asL, x_asT, x_iR1, x_iR2, x_nlc, raK_ok, x_raise, fin_rt, fin_nx, fin_exc, x_try, try_rt, ev0, ev1, ev2, ev3, ev4, ev5, ev6, ev7, ev8, ev9, ev10, ev11, ev12, ev13, ev14, DL.v_sub, DL.v_add, DL.v_lt, DL.v_le, DL.v_gt, DL.v_ge, DL.v_fdiv2, DL.v_neg, DL.v_abs, DL.v_int, DL.v_min2, DL.v_max2, DL.v_eqI, DL.v_neI, DL.v_eqB, DL.v_neB, DL.v_isN, DL.v_notN, DL.v_isB, DL.v_e0l, DL.vL_lst, DL.isS_some, DL.v_ixL, DL.v_ixS, DL.v_ixT, DL.atI_0, DL.atI_1, DL.atI_2, DL.atI_3, DL.atI_4, DL.atI_5, DL.v_lenL, DL.v_lenS, DL.v_lenT, DL.v_lenD, DL.v_sumL, DL.v_sumT, DL.v_tupL, DL.v_tupT, DL.v_listT, DL.v_listL, DL.v_slT, DL.v_slL, DL.v_slS, DL.i_ii, DL.i_ib, DL.i_is, DL.i_id, DL.i_il, DL.i_it, DL.i_bi, DL.i_bb, DL.i_bt, DL.i_ni, DL.i_nb, DL.i_nt, DL.i_si, DL.i_sb, DL.i_ss, DL.i_st, DL.i_li, DL.i_lb, DL.i_ls, DL.i_ld, DL.i_ll, DL.i_lt, DL.i_ti, DL.i_tb, DL.i_ts, DL.i_td, DL.i_tl, DL.i_tt, DL.i_di, DL.i_db, DL.i_ds, DL.i_dd, DL.i_dt, DL.x_rev, DL.isNonD, Int.sub_self, decide_true, Bool.not_false]
theorem same_str {n : Nat} {ω : List OB} {s : Str} (hs : PyData.strOk s = true) : F__law_same (n + 1) [.str s, .str s] ω = .ok (.bl true) [] ω := by
  simp only [F__law_same, m__law_same, startD, List.map, List.length, Nat.sub_self, List.replicate, List.append_nil, List.cons_append, List.nil_append, Nat.reduceSub, Nat.reduceAdd, List.set, rb_ok, rb_exc, rb_bad, x_bind, x_pure, x_some, x_none, x_badM, x_c, x_e2, x_e1, x_tB, x_asB, chK_t, chK_f, x_eCh, pick_t, pick_f, x_andM, x_orM, x_notM, x_and, x_or, x_not, x_if, x_nil, x_cons, szL0, szL1, szL2, szL3, szL4, szL6, szL7, szL8, szL10, szT0, szT1, szT2, szT3, szT4, x_tup, x_nlst, x_call, x_ncall, x_oNone, x_oSome, x_asI, x_sl, x_flst, x_alloc, bk_ok, bk_exc, x_fun, x_funK, opt_some, x_fld, x_mt, x_meth, mkK_ok, mkK_exc, x_make, x_makeK, x_next, x_seq, th_nx, th_rt, th_bk, th_ct, th_exc, x_drop, x_sret, x_sif, x_set, asgK_some, x_asg, tg_tp, tg_nm, setAll_nil, setAll_cons, parK_ok, x_par, par3K_ok, x_par3, x_sub, x_sfld, x_for, x_iL, x_iT, x_asL, x_asT, x_iR1, x_iR2, x_nlc, raK_ok, x_raise, fin_rt, fin_nx, fin_exc, x_try, try_rt, ev0, ev1, ev2, ev3, ev4, ev5, ev6, ev7, ev8, ev9, ev10, ev11, ev12, ev13, ev14, DL.v_sub, DL.v_add, DL.v_lt, DL.v_le, DL.v_gt, DL.v_ge, DL.v_fdiv2, DL.v_neg, DL.v_abs, DL.v_int, DL.v_min2, DL.v_max2, DL.v_eqI, DL.v_neI, DL.v_eqB, DL.v_neB, DL.v_isN, DL.v_notN, DL.v_isB, DL.v_e0l, DL.vL_lst, DL.isS_some, DL.v_ixL, DL.v_ixS, DL.v_ixT, DL.atI_0, DL.atI_1, DL.atI_2, DL.atI_3, DL.atI_4, DL.atI_5, DL.v_lenL, DL.v_lenS, DL.v_lenT, DL.v_lenD, DL.v_sumL, DL.v_sumT, DL.v_tupL, DL.v_tupT, DL.v_listT, DL.v_listL, DL.v_slT, DL.v_slL, DL.v_slS, DL.i_ii, DL.i_ib, DL.i_is, DL.i_id, DL.i_il, DL.i_it, DL.i_bi, DL.i_bb, DL.i_bt, DL.i_ni, DL.i_nb, DL.i_nt, DL.i_si, DL.i_sb, DL.i_ss, DL.i_st, DL.i_li, DL.i_lb, DL.i_ls, DL.i_ld, DL.i_ll, DL.i_lt, DL.i_ti, DL.i_tb, DL.i_ts, DL.i_td, DL.i_tl, DL.i_tt, DL.i_di, DL.i_db, DL.i_ds, DL.i_dd, DL.i_dt, DL.x_rev, DL.isNonD, v_eqS hs hs, decide_true]
theorem same_lst {n : Nat} {ω : List OB} {ds : List D} (hl : ds.length ≤ 100000) (ih : ∀ d ∈ ds, F__law_same n [d, d] ω = .ok (.bl true) [] ω) : F__law_same (n + 1) [.lst ds, .lst ds] ω = .ok (.bl true) [] ω := by
  obtain ⟨γ', e⟩ := same_lc (rec := F__law_same n) (w := .lst ds) (ds := ds) (x2 := .no) (ω := ω) (fun i => rfl) ih hl
  have hi : ∀ ω, oIsi ω [.lst ds, .ty "int"] = some (.bl false) := fun ω => DL.i_li
  have hbo : ∀ ω, oIsi ω [.lst ds, .ty "bool"] = some (.bl false) := fun ω => DL.i_lb
  have hs : ∀ ω, oIsi ω [.lst ds, .ty "str"] = some (.bl false) := fun ω => DL.i_ls
  have hd : ∀ ω, oIsi ω [.lst ds, .ty "dict"] = some (.bl false) := fun ω => DL.i_ld
  have hli : ∀ ω, oIsi ω [.lst ds, .ty "list"] = some (.bl true) := fun ω => DL.i_ll
  have hj : ∀ ω, oIsi2 ω [.lst ds, .tup [.ty "list", .ty "tuple"]] = some (.bl true) := fun ω => DL.j_l
  have hb := r1n (γ := [.dat (.lst ds), .dat (.lst ds), .no, .no]) (ω := ω) hl
  simp only [F__law_same, m__law_same, startD, List.map, List.length, Nat.sub_self, List.replicate, List.append_nil, List.cons_append, List.nil_append, Nat.reduceSub, Nat.reduceAdd, List.set, rb_ok, rb_exc, rb_bad, x_bind, x_pure, x_some, x_none, x_badM, x_c, x_e2, x_e1, x_tB, x_asB, chK_t, chK_f, x_eCh, pick_t, pick_f, x_andM, x_orM, x_notM, x_and, x_or, x_not, x_if, x_nil, x_cons, szL0, szL1, szL2, szL3, szL4, szL6, szL7, szL8, szL10, szT0, szT1, szT2, szT3, szT4, x_tup, x_nlst, x_call, x_ncall, x_oNone, x_oSome, x_asI, x_sl, x_flst, x_alloc, bk_ok, bk_exc, x_fun, x_funK, opt_some, x_fld, x_mt, x_meth, mkK_ok, mkK_exc, x_make, x_makeK, x_next, x_seq, th_nx, th_rt, th_bk, th_ct, th_exc, x_drop, x_sret, x_sif, x_set, asgK_some, x_asg, tg_tp, tg_nm, setAll_nil, setAll_cons, parK_ok, x_par, par3K_ok, x_par3, x_sub, x_sfld, x_for, x_iL, x_iT, x_asL, x_asT, x_iR1, x_iR2, x_nlc, raK_ok, x_raise, fin_rt, fin_nx, fin_exc, x_try, try_rt, ev0, ev1, ev2, ev3, ev4, ev5, ev6, ev7, ev8, ev9, ev10, ev11, ev12, ev13, ev14, DL.v_sub, DL.v_add, DL.v_lt, DL.v_le, DL.v_gt, DL.v_ge, DL.v_fdiv2, DL.v_neg, DL.v_abs, DL.v_int, DL.v_min2, DL.v_max2, DL.v_eqI, DL.v_neI, DL.v_eqB, DL.v_neB, DL.v_isN, DL.v_notN, DL.v_isB, DL.v_e0l, DL.vL_lst, DL.isS_some, DL.v_ixL, DL.v_ixS, DL.v_ixT, DL.atI_0, DL.atI_1, DL.atI_2, DL.atI_3, DL.atI_4, DL.atI_5, DL.v_lenL, DL.v_lenS, DL.v_lenT, DL.v_lenD, DL.v_sumL, DL.v_sumT, DL.v_tupL, DL.v_tupT, DL.v_listT, DL.v_listL, DL.v_slT, DL.v_slL, DL.v_slS, DL.x_rev, DL.isNonD, hi, hbo, hs, hd, hli, decide_true, Bool.not_true, hj, hb, wipeD, e]
  exact id_emp
theorem same_tup {n : Nat} {ω : List OB} {ds : List D} (hl : ds.length ≤ 100000) (ih : ∀ d ∈ ds, F__law_same n [d, d] ω = .ok (.bl true) [] ω) : F__law_same (n + 1) [.tup ds, .tup ds] ω = .ok (.bl true) [] ω := by
  obtain ⟨γ', e⟩ := same_lc (rec := F__law_same n) (w := .tup ds) (ds := ds) (x2 := .no) (ω := ω) (fun i => rfl) ih hl
  have hi : ∀ ω, oIsi ω [.tup ds, .ty "int"] = some (.bl false) := fun ω => DL.i_ti
  have hbo : ∀ ω, oIsi ω [.tup ds, .ty "bool"] = some (.bl false) := fun ω => DL.i_tb
  have hs : ∀ ω, oIsi ω [.tup ds, .ty "str"] = some (.bl false) := fun ω => DL.i_ts
  have hd : ∀ ω, oIsi ω [.tup ds, .ty "dict"] = some (.bl false) := fun ω => DL.i_td
  have hli : ∀ ω, oIsi ω [.tup ds, .ty "list"] = some (.bl false) := fun ω => DL.i_tl
  have hj : ∀ ω, oIsi2 ω [.tup ds, .tup [.ty "list", .ty "tuple"]] = some (.bl true) := fun ω => DL.j_t
  have hb := r1n (γ := [.dat (.tup ds), .dat (.tup ds), .no, .no]) (ω := ω) hl
  simp only [F__law_same, m__law_same, startD, List.map, List.length, Nat.sub_self, List.replicate, List.append_nil, List.cons_append, List.nil_append, Nat.reduceSub, Nat.reduceAdd, List.set, rb_ok, rb_exc, rb_bad, x_bind, x_pure, x_some, x_none, x_badM, x_c, x_e2, x_e1, x_tB, x_asB, chK_t, chK_f, x_eCh, pick_t, pick_f, x_andM, x_orM, x_notM, x_and, x_or, x_not, x_if, x_nil, x_cons, szL0, szL1, szL2, szL3, szL4, szL6, szL7, szL8, szL10, szT0, szT1, szT2, szT3, szT4, x_tup, x_nlst, x_call, x_ncall, x_oNone, x_oSome, x_asI, x_sl, x_flst, x_alloc, bk_ok, bk_exc, x_fun, x_funK, opt_some, x_fld, x_mt, x_meth, mkK_ok, mkK_exc, x_make, x_makeK, x_next, x_seq, th_nx, th_rt, th_bk, th_ct, th_exc, x_drop, x_sret, x_sif, x_set, asgK_some, x_asg, tg_tp, tg_nm, setAll_nil, setAll_cons, parK_ok, x_par, par3K_ok, x_par3, x_sub, x_sfld, x_for, x_iL, x_iT, x_asL, x_asT, x_iR1, x_iR2, x_nlc, raK_ok, x_raise, fin_rt, fin_nx, fin_exc, x_try, try_rt, ev0, ev1, ev2, ev3, ev4, ev5, ev6, ev7, ev8, ev9, ev10, ev11, ev12, ev13, ev14, DL.v_sub, DL.v_add, DL.v_lt, DL.v_le, DL.v_gt, DL.v_ge, DL.v_fdiv2, DL.v_neg, DL.v_abs, DL.v_int, DL.v_min2, DL.v_max2, DL.v_eqI, DL.v_neI, DL.v_eqB, DL.v_neB, DL.v_isN, DL.v_notN, DL.v_isB, DL.v_e0l, DL.vL_lst, DL.isS_some, DL.v_ixL, DL.v_ixS, DL.v_ixT, DL.atI_0, DL.atI_1, DL.atI_2, DL.atI_3, DL.atI_4, DL.atI_5, DL.v_lenL, DL.v_lenS, DL.v_lenT, DL.v_lenD, DL.v_sumL, DL.v_sumT, DL.v_tupL, DL.v_tupT, DL.v_listT, DL.v_listL, DL.v_slT, DL.v_slL, DL.v_slS, DL.x_rev, DL.isNonD, hi, hbo, hs, hd, hli, decide_true, Bool.not_true, hj, hb, wipeD, e]
  exact id_emp
theorem same_ok {k : Nat} {d : D} (h : Pl k d) : ∀ (n : Nat) (ω : List OB), k < n → F__law_same n [d, d] ω = .ok (.bl true) [] ω := by
  induction h with
  | non =>
    intro n ω hn
    obtain ⟨n, rfl⟩ : ∃ m, n = m + 1 := ⟨n - 1, by omega⟩
    exact same_non
  | bl =>
    intro n ω hn
    obtain ⟨n, rfl⟩ : ∃ m, n = m + 1 := ⟨n - 1, by omega⟩
    exact same_bl
  | int =>
    intro n ω hn
    obtain ⟨n, rfl⟩ : ∃ m, n = m + 1 := ⟨n - 1, by omega⟩
    exact same_int
  | str hs =>
    intro n ω hn
    obtain ⟨n, rfl⟩ : ∃ m, n = m + 1 := ⟨n - 1, by omega⟩
    exact same_str hs
  | emp =>
    intro n ω hn
    obtain ⟨n, rfl⟩ : ∃ m, n = m + 1 := ⟨n - 1, by omega⟩
    exact same_emp
  | lst h hl ih =>
    intro n ω hn
    obtain ⟨n, rfl⟩ : ∃ m, n = m + 1 := ⟨n - 1, by omega⟩
    exact same_lst hl fun d hd => ih d hd n ω (by omega)
  | tup h hl ih =>
    intro n ω hn
    obtain ⟨n, rfl⟩ : ∃ m, n = m + 1 := ⟨n - 1, by omega⟩
    exact same_tup hl fun d hd => ih d hd n ω (by omega)
end K80

set_option Elab.async false
set_option linter.all false
set_option maxRecDepth 100000
set_option maxHeartbeats 2000000
namespace K80
open PySem PySem.Spec PyProof.Rows L2 DL

/-! ### rows, plain -/
theorem fD_row {xs : List Int} {n : Nat} (h : xs.length = n) : D.tup (fD (at0 xs) n) = rowD xs := by
  subst h
  unfold fD rowD
  congr 1
  apply List.ext_getElem?
  intro i
  by_cases hi : i < xs.length
  · rw [List.getElem?_map, List.getElem?_map, List.getElem?_range hi, List.getElem?_eq_getElem hi]
    simp [at0, hi]
  · rw [List.getElem?_eq_none (by simp; omega), List.getElem?_eq_none (by simp; omega)]
theorem S_row {xs : List Int} : ∀ (m a : Nat), a + m ≤ xs.length → S (at0 xs) a m = ((xs.drop a).take m).sum
  | 0, _, _ => by simp [S]
  | m + 1, a, h => by
    have e : xs.drop a = xs[a] :: xs.drop (a + 1) := List.drop_eq_getElem_cons (by omega)
    rw [e, List.take_succ_cons, List.sum_cons, ← S_row m (a + 1) (by omega)]
    show at0 xs a + S (at0 xs) (a + 1) m = _
    congr 1
    simp [at0, show a < xs.length from by omega]
theorem S_cut {xs : List Int} {n A B : Nat} (h : xs.length = n) (hAB : A ≤ B) (hB : B ≤ n) : S (cutF (at0 xs) A B) 0 n = ((xs.drop A).take (B - A)).sum := by
  have h1 := S_split (cutF (at0 xs) A B) (lo := 0) (mid := A) (hi := n) (by omega) (by omega)
  have h2 := S_split (cutF (at0 xs) A B) (lo := A) (mid := B) (hi := n) (by omega) (by omega)
  have z1 : S (cutF (at0 xs) A B) 0 (A - 0) = 0 := S_zero _ _ fun i h1 h2 => by
    unfold cutF
    rw [if_neg (by omega)]
  have z2 : S (cutF (at0 xs) A B) B (n - B) = 0 := S_zero _ _ fun i h1 h2 => by
    unfold cutF
    rw [if_neg (by omega)]
  have z3 : S (cutF (at0 xs) A B) A (B - A) = S (at0 xs) A (B - A) := S_congr _ _ fun i h1 h2 => by
    unfold cutF
    rw [if_pos ⟨by omega, by omega⟩]
  rw [← S_row (B - A) A (by omega)]
  rw [show n - 0 = n from rfl] at h1
  omega
theorem cut_row {ω : List OB} {xs : List Int} {n A B : Nat} (h : xs.length = n) (hAB : A ≤ B) (hB : B ≤ n) : oSl ω (rowD xs) (some (A : Int)) (some (B : Int)) = some (rowD ((xs.drop A).take (B - A))) := by
  unfold rowD
  rw [DL.v_slT]
  unfold DL.cutD
  rw [HT.sIx_nat, HT.sIx_nat, List.length_map, h, Nat.min_eq_left (by omega), Nat.min_eq_left (by omega), List.map_take, List.map_drop]

/-! ### a life -/
structure Life (C : Addr) (b k v kt tp pa rs ps n : Nat) (N : List Nd) (T : List Nat) (P : List D) (RR : List (List Int)) (ω : List OB) : Prop where
  vs : VS C v kt tp pa n N T P ω
  bx : BoxOk b k ω
  hr : ω[rs]? = some (.lst (RR.map rowD))
  hq : ω[ps]? = some (.lst P)
  lr : RR.length = T.length
  t0 : 0 < T.length
  n0 : 0 < n
  n1 : n ≤ 32
  ln : ∀ xs ∈ RR, xs.length = n
  tr : ∀ (j a : Nat) (xs : List Int), T[j]? = some a → RR[j]? = some xs → Tr N (at0 xs) a 0 n
  pp : ∀ p ∈ P, Pl 0 p
  db : b ≠ v ∧ b ≠ kt ∧ b ≠ tp ∧ b ≠ pa ∧ b ≠ rs ∧ b ≠ ps
  dr : rs ≠ v ∧ rs ≠ kt ∧ rs ≠ tp ∧ rs ≠ pa ∧ rs ≠ ps
  dp : ps ≠ v ∧ ps ≠ kt ∧ ps ≠ tp ∧ ps ≠ pa
section
variable {C : Addr} {b k v kt tp pa rs ps n : Nat} {N : List Nd} {T : List Nat} {P : List D} {RR : List (List Int)} {ω ω' : List OB}
theorem Life.ext {k' : Nat} (l : Life C b k v kt tp pa rs ps n N T P RR ω) (e : Ext [b] ω ω') (bx : BoxOk b k' ω') : Life C b k' v kt tp pa rs ps n N T P RR ω' := by
  obtain ⟨d1, d2, d3, d4, d5, d6⟩ := l.db
  exact ⟨l.vs.ext e ⟨by simpa using d1.symm, by simpa using d2.symm, by simpa using d3.symm, by simpa using d4.symm⟩, bx, e.at l.hr (by simpa using d5.symm), e.at l.hq (by simpa using d6.symm), l.lr, l.t0, l.n0, l.n1, l.ln, l.tr, l.pp, l.db, l.dr, l.dp⟩
theorem Life.app {J : List OB} (l : Life C b k v kt tp pa rs ps n N T P RR ω) : Life C b k v kt tp pa rs ps n N T P RR (ω ++ J) := l.ext Ext.app (l.bx.ext (S := []) Ext.app (by simp))
theorem Life.take (l : Life C b (k + 1) v kt tp pa rs ps n N T P RR ω) {m : Nat} (h0 : 0 < m) (h1 : m < 1000000) :
    ∃ (d : Nat) (ω' : List OB), d < m ∧ F__law_take [.obj b, .int m] ω = .ok (.int d) [] ω' ∧ Life C b k v kt tp pa rs ps n N T P RR ω' ∧ Ext [b] ω ω' := by
  obtain ⟨d, x, hd, e, bx⟩ := take_ok l.bx (many := (m : Int)) (by omega) (by omega)
  exact ⟨d, _, by omega, e, l.ext (Ext.set (by simp)) bx, Ext.set (by simp)⟩
theorem Life.at (l : Life C b k v kt tp pa rs ps n N T P RR ω) {j : Nat} (hj : j < T.length) : ∃ (a : Nat) (xs : List Int) (p : D), T[j]? = some a ∧ RR[j]? = some xs ∧ P[j]? = some p ∧ xs.length = n ∧ Tr N (at0 xs) a 0 n ∧ Pl 0 p := by
  have h1 : j < RR.length := by rw [l.lr]; exact hj
  have h2 : j < P.length := by rw [l.vs.lp]; exact hj
  have e1 := List.getElem?_eq_getElem hj
  have e2 := List.getElem?_eq_getElem h1
  have e3 := List.getElem?_eq_getElem h2
  exact ⟨_, _, _, e1, e2, e3, l.ln _ (List.getElem_mem h1), l.tr _ _ _ e1 e2, l.pp _ (List.getElem_mem h2)⟩
/-- a method is found -/
theorem Life.m (l : Life C b k v kt tp pa rs ps n N T P RR ω) {m : Str} (h : m ∈ (["keep", "grow", "check_version", "way_to", "change", "items", "row", "total", "parent", "unlike", "nodes"] : List Str)) : isI C ω (.obj v) m = true := isI_ok l.vs.hv (vf_no h)
theorem rr_at {j : Nat} {xs : List Int} (h : RR[j]? = some xs) : (RR.map rowD)[j]? = some (rowD xs) := by rw [List.getElem?_map, h]; rfl
theorem told_row (l : Life C b k v kt tp pa rs ps n N T P RR ω) {j : Nat} {xs : List Int} (hj : j < T.length) (hx : RR[j]? = some xs) {g : Bool} : ∃ J, F__law_asked C [.obj v, .str "row", .lst [.int j], .bl g] ω = .ok (.lst [.str "told", rowD xs]) [] (ω ++ J) := by
  obtain ⟨a, xs', p, h1, h2, h3, h4, h5, h6⟩ := l.at hj
  rw [hx] at h2
  injection h2 with h2
  subst h2
  have e := row_ok l.vs h1 h5 (by have := l.n1; omega)
  refine ⟨[.lst (fD (at0 xs) n), .lst []], ?_⟩
  rw [ask_row (l.m (by decide +kernel)) (by rw [e]; trivial), e, fD_row h4]
  show Res.ok _ _ _ = _
  rw [List.append_assoc]
  rfl
theorem told_parent (l : Life C b k v kt tp pa rs ps n N T P RR ω) {j : Nat} {p : D} (hj : j < T.length) (hp : P[j]? = some p) {g : Bool} : F__law_asked C [.obj v, .str "parent", .lst [.int j], .bl g] ω = .ok (.lst [.str "told", p]) [] ω := by
  have e := parent_ok l.vs hj hp
  rw [ask_parent (l.m (by decide +kernel)) (by rw [e]; trivial), e]
  rfl
theorem told_sum (l : Life C b k v kt tp pa rs ps n N T P RR ω) {j A B : Nat} {xs : List Int} (hj : j < T.length) (hx : RR[j]? = some xs) (hAB : A ≤ B) (hB : B ≤ n) {g : Bool} : ∃ J, F__law_asked C [.obj v, .str "sum", .lst [.int j, .int A, .int B], .bl g] ω = .ok (.lst [.str "told", .int ((xs.drop A).take (B - A)).sum]) [] (ω ++ J) := by
  obtain ⟨a, xs', p, h1, h2, h3, h4, h5, h6⟩ := l.at hj
  rw [hx] at h2
  injection h2 with h2
  subst h2
  obtain ⟨J, e⟩ := total_ok l.vs h1 h5 (by have := l.n1; omega) hAB hB
  refine ⟨J, ?_⟩
  rw [ask_sum (l.m (by decide +kernel)) (by rw [e]; trivial), e, S_cut h4 hAB hB]
  rfl
theorem told_unlike (l : Life C b k v kt tp pa rs ps n N T P RR ω) {i j : Nat} {xs ys : List Int} (hi : i < T.length) (hj : j < T.length) (hx : RR[i]? = some xs) (hy : RR[j]? = some ys) {g : Bool} : ∃ J, F__law_asked C [.obj v, .str "unlike", .lst [.int i, .int j], .bl g] ω = .ok (.lst [.str "told", .tup ((dif (at0 xs) (at0 ys) 0 n).map D.int)]) [] (ω ++ J) := by
  obtain ⟨a, xs', p, h1, h2, h3, h4, h5, h6⟩ := l.at hi
  rw [hx] at h2
  injection h2 with h2
  subst h2
  obtain ⟨a', ys', p', h1', h2', h3', h4', h5', h6'⟩ := l.at hj
  rw [hy] at h2'
  injection h2' with h2'
  subst h2'
  obtain ⟨J, e⟩ := unlike_ok l.vs h1 h1' h5 h5' (by have := l.n1; omega)
  refine ⟨J, ?_⟩
  rw [ask_unlike (l.m (by decide +kernel)) (by rw [e]; trivial), e]
  rfl
theorem dif_comm (f g : Nat → Int) : ∀ (m lo : Nat), dif f g lo m = dif g f lo m
  | 0, _ => rfl
  | m + 1, lo => by
    show (if f lo = g lo then [] else [(lo : Int)]) ++ dif f g (lo + 1) m = (if g lo = f lo then [] else [(lo : Int)]) ++ dif g f (lo + 1) m
    rw [dif_comm f g m (lo + 1)]
    by_cases h : f lo = g lo
    · rw [if_pos h, if_pos h.symm]
    · rw [if_neg h, if_neg (Ne.symm h)]
theorem row_ix {ω : List OB} {xs : List Int} {i : Nat} (h : i < xs.length) : oIx ω (rowD xs) (.int i) = some (.int (at0 xs i)) := DL.atI_nat (row_at h)
theorem due_ok {i j : Nat} {xs ys : List Int} {s0 s1 s3 s4 s5 s8 s9 s10 s11 : SD} (hr : ω[rs]? = some (.lst (RR.map rowD))) (hi : RR[i]? = some xs) (hj : RR[j]? = some ys) (lx : xs.length = n) (ly : ys.length = n) (hn : n ≤ 32) :
    lcL (.nm 12) [12] (lt__law_all_right_1 C) (le__law_all_right_1 C) (rangeD 0 (n : Int)) [] [s0, s1, .dat (.obj rs), s3, s4, s5, .dat (.int i), .dat (.int j), s8, s9, s10, s11, .no] ω = .ok ((dif (at0 xs) (at0 ys) 0 n).map D.int) [s0, s1, .dat (.obj rs), s3, s4, s5, .dat (.int i), .dat (.int j), s8, s9, s10, s11, .no] ω := by
  obtain ⟨acc, γ', ω', e, h1, h2, h3⟩ := lc_ok (t := .nm 12) (vs := [12]) (tt := lt__law_all_right_1 C) (te := le__law_all_right_1 C) (fun m acc γ ω' => acc = (dif (at0 xs) (at0 ys) 0 m).map D.int ∧ γ = [s0, s1, .dat (.obj rs), s3, s4, s5, .dat (.int i), .dat (.int j), s8, s9, s10, s11, .no] ∧ ω' = ω) (ds := rangeD 0 (n : Int)) (acc := []) (γ := [s0, s1, .dat (.obj rs), s3, s4, s5, .dat (.int i), .dat (.int j), s8, s9, s10, s11, .no]) (ω := ω) 0 ⟨rfl, rfl, rfl⟩ (by rw [range_len]; simp; omega) (by
    rintro m d acc γ ω' hd ⟨rfl, rfl, rfl⟩
    obtain ⟨rfl, hm⟩ := range_at hd
    have e1 : oIx ω' (rowD xs) (.int m) = some (.int (at0 xs m)) := row_ix (by omega)
    have e2 : oIx ω' (rowD ys) (.int m) = some (.int (at0 ys m)) := row_ix (by omega)
    have a1 := DL.atI_nat (rr_at hi)
    have a2 := DL.atI_nat (rr_at hj)
    have hds : dif (at0 xs) (at0 ys) 0 (0 + m + 1) = dif (at0 xs) (at0 ys) 0 (0 + m) ++ if at0 xs m = at0 ys m then [] else [(m : Int)] := by
      rw [dif_add]
      simp [dif]
    refine ⟨[s0, s1, .dat (.obj rs), s3, s4, s5, .dat (.int i), .dat (.int j), s8, s9, s10, s11, .dat (.int m)], [s0, s1, .dat (.obj rs), s3, s4, s5, .dat (.int i), .dat (.int j), s8, s9, s10, s11, .dat (.int m)], ω', rfl, ?_⟩
    by_cases hc : at0 xs m = at0 ys m
    · left
      have c : decide (at0 xs m = at0 ys m) = true := decide_eq_true hc
      refine ⟨by simp only [lt__law_all_right_1, startD, List.map, List.length, Nat.sub_self, List.replicate, List.append_nil, List.cons_append, List.nil_append, Nat.reduceSub, Nat.reduceAdd, List.set, rb_ok, rb_exc, rb_bad, x_bind, x_pure, x_some, x_none, x_badM, x_c, x_e2, x_e1, x_tB, x_asB, chK_t, chK_f, x_eCh, pick_t, pick_f, x_andM, x_orM, x_notM, x_and, x_or, x_not, x_if, x_nil, x_cons, szL0, szL1, szL2, szL3, szL4, szL6, szL7, szL8, szL10, szT0, szT1, szT2, szT3, szT4, x_tup, x_nlst, x_call, x_ncall, x_oNone, x_oSome, x_asI, x_sl, x_flst, x_alloc, bk_ok, bk_exc, x_fun, x_funK, opt_some, x_fld, x_mt, x_meth, mkK_ok, mkK_exc, x_make, x_makeK, x_next, x_seq, th_nx, th_rt, th_bk, th_ct, th_exc, x_drop, x_sret, x_sif, x_set, asgK_some, x_asg, tg_tp, tg_nm, setAll_nil, setAll_cons, parK_ok, x_par, par3K_ok, x_par3, x_sub, x_sfld, x_for, x_iL, x_iT, x_asL, x_asT, x_iR1, x_iR2, x_nlc, raK_ok, x_raise, fin_rt, fin_nx, fin_exc, x_try, try_rt, ev0, ev1, ev2, ev3, ev4, ev5, ev6, ev7, ev8, ev9, ev10, ev11, ev12, ev13, ev14, DL.v_ixO hr, a1, a2, e1, e2, DL.v_neI, c, Bool.not_true], ?_, rfl, rfl⟩
      rw [hds, if_pos hc, List.append_nil]
    · right
      have c : decide (at0 xs m = at0 ys m) = false := decide_eq_false hc
      refine ⟨.int m, [s0, s1, .dat (.obj rs), s3, s4, s5, .dat (.int i), .dat (.int j), s8, s9, s10, s11, .dat (.int m)], ω', by simp only [lt__law_all_right_1, startD, List.map, List.length, Nat.sub_self, List.replicate, List.append_nil, List.cons_append, List.nil_append, Nat.reduceSub, Nat.reduceAdd, List.set, rb_ok, rb_exc, rb_bad, x_bind, x_pure, x_some, x_none, x_badM, x_c, x_e2, x_e1, x_tB, x_asB, chK_t, chK_f, x_eCh, pick_t, pick_f, x_andM, x_orM, x_notM, x_and, x_or, x_not, x_if, x_nil, x_cons, szL0, szL1, szL2, szL3, szL4, szL6, szL7, szL8, szL10, szT0, szT1, szT2, szT3, szT4, x_tup, x_nlst, x_call, x_ncall, x_oNone, x_oSome, x_asI, x_sl, x_flst, x_alloc, bk_ok, bk_exc, x_fun, x_funK, opt_some, x_fld, x_mt, x_meth, mkK_ok, mkK_exc, x_make, x_makeK, x_next, x_seq, th_nx, th_rt, th_bk, th_ct, th_exc, x_drop, x_sret, x_sif, x_set, asgK_some, x_asg, tg_tp, tg_nm, setAll_nil, setAll_cons, parK_ok, x_par, par3K_ok, x_par3, x_sub, x_sfld, x_for, x_iL, x_iT, x_asL, x_asT, x_iR1, x_iR2, x_nlc, raK_ok, x_raise, fin_rt, fin_nx, fin_exc, x_try, try_rt, ev0, ev1, ev2, ev3, ev4, ev5, ev6, ev7, ev8, ev9, ev10, ev11, ev12, ev13, ev14, DL.v_ixO hr, a1, a2, e1, e2, DL.v_neI, c, Bool.not_false], by simp only [le__law_all_right_1, rb_ok, rb_exc, rb_bad, x_bind, x_pure, x_some, x_none, x_badM, x_c, x_e2, x_e1, x_tB, x_asB, chK_t, chK_f, x_eCh, pick_t, pick_f, x_andM, x_orM, x_notM, x_and, x_or, x_not, x_if, x_nil, x_cons, szL0, szL1, szL2, szL3, szL4, szL6, szL7, szL8, szL10, szT0, szT1, szT2, szT3, szT4, x_tup, x_nlst, x_call, x_ncall, x_oNone, x_oSome, x_asI, x_sl, x_flst, x_alloc, bk_ok, bk_exc, x_fun, x_funK, opt_some, x_fld, x_mt, x_meth, mkK_ok, mkK_exc, x_make, x_makeK, x_next, x_seq, th_nx, th_rt, th_bk, th_ct, th_exc, x_drop, x_sret, x_sif, x_set, asgK_some, x_asg, tg_tp, tg_nm, setAll_nil, setAll_cons, parK_ok, x_par, par3K_ok, x_par3, x_sub, x_sfld, x_for, x_iL, x_iT, x_asL, x_asT, x_iR1, x_iR2, x_nlc, raK_ok, x_raise, fin_rt, fin_nx, fin_exc, x_try, try_rt, ev0, ev1, ev2, ev3, ev4, ev5, ev6, ev7, ev8, ev9, ev10, ev11, ev12, ev13, ev14], ?_, rfl, rfl⟩
      rw [hds, if_neg hc, List.map_append]
      rfl)
  rw [range_len, Nat.zero_add] at h1
  subst h1 h2 h3
  exact e
theorem mul2 {ω : List OB} {d : D} : oMul ω (.lst [d]) (.int 2) = some (.lst [d, d]) := by
  simp [oMul, vL]
theorem pl_row {xs : List Int} (h : xs.length ≤ 100000) {k : Nat} : Pl (k + 1) (rowD xs) := .tup (fun d hd => by
  obtain ⟨x, _, rfl⟩ := List.mem_map.mp hd
  exact .int) (by rw [List.length_map]; exact h)
theorem pl_told {k : Nat} {d : D} {w : Str} (h : Pl k d) (hw : PyData.strOk w = true := by decide +kernel) : Pl (k + 1) (.lst [.str w, d]) := .lst (fun x hx => by
  rcases List.mem_cons.mp hx with rfl | hx
  · exact .str hw
  · rw [List.mem_singleton.mp hx]
    exact h) (by simp)
theorem pl_two {k : Nat} {c d : D} (h1 : Pl k c) (h2 : Pl k d) : Pl (k + 1) (.lst [c, d]) := .lst (fun x hx => by
  rcases List.mem_cons.mp hx with rfl | hx
  · exact h1
  · rw [List.mem_singleton.mp hx]
    exact h2) (by simp)
theorem pl_three {k : Nat} {c d e : D} (h1 : Pl k c) (h2 : Pl k d) (h3 : Pl k e) : Pl (k + 1) (.lst [c, d, e]) := .lst (fun x hx => by
  rcases List.mem_cons.mp hx with rfl | hx
  · exact h1
  · rcases List.mem_cons.mp hx with rfl | hx
    · exact h2
    · rw [List.mem_singleton.mp hx]
      exact h3) (by simp)
theorem turn_ok (l : Life C b (k + 4) v kt tp pa rs ps n N T P RR ω) {g : Bool} {x5 x6 x7 x8 x9 x10 x11 x12 : SD} :
    ∃ (y5 y6 y7 y8 y9 y10 y11 y12 : SD) (ω' : List OB), fb__law_all_right_1 C [.dat (.obj b), .dat (.obj v), .dat (.obj rs), .dat (.obj ps), .dat (.bl g), x5, x6, x7, x8, x9, x10, x11, x12] ω = .ok .nx [.dat (.obj b), .dat (.obj v), .dat (.obj rs), .dat (.obj ps), .dat (.bl (!g)), y5, y6, y7, y8, y9, y10, y11, y12] ω' ∧ Life C b k v kt tp pa rs ps n N T P RR ω' ∧ Ext [b] ω ω' := by
  have n0 := l.n0
  have n1 := l.n1
  have lr := l.lr
  have t0 := l.t0
  have t1 := l.vs.lt
  obtain ⟨i, ω1, hi, e1, l1, x1⟩ := l.take (m := RR.length) (by omega) (by omega)
  obtain ⟨j, ω2, hj, e2, l2, x2⟩ := l1.take (m := RR.length) (by omega) (by omega)
  obtain ⟨A, ω3, hA, e3, l3, x3⟩ := l2.take (m := n + 1) (by omega) (by omega)
  obtain ⟨B, ω4, hB, e4, l4, x4⟩ := l3.take (m := n + 1 - A) (by omega) (by omega)
  obtain ⟨_, xs, p, g1, g2, g3, g4, g5, g6⟩ := l.at (j := i) (by omega)
  obtain ⟨_, ys, _, r1, r2, r3, r4, r5, r6⟩ := l.at (j := j) (by omega)
  obtain ⟨_, zs, _, s1, s2, s3, s4, s5, s6⟩ := l.at (j := 0) (by omega)
  obtain ⟨J1, t1⟩ := told_row l4 (j := i) (by omega) g2 (g := g)
  have l5 := l4.app (J := J1)
  have t2 := told_parent l5 (j := i) (by omega) g3 (g := g)
  obtain ⟨J2, t3⟩ := told_sum l5 (j := i) (A := A) (B := A + B) (by omega) g2 (by omega) (by omega) (g := !g)
  have l6 := l5.app (J := J2)
  obtain ⟨J3, t4⟩ := told_unlike l6 (i := i) (j := j) (by omega) (by omega) g2 r2 (g := g)
  have l7 := l6.app (J := J3)
  obtain ⟨J4, t5⟩ := told_unlike l7 (i := j) (j := i) (by omega) (by omega) r2 g2 (g := !g)
  have l8 := l7.app (J := J4)
  rw [dif_comm (at0 ys)] at t5
  have q1 : (n : Int) + 1 = ((n + 1 : Nat) : Int) := by omega
  have q2 : ((n + 1 : Nat) : Int) - (A : Int) = ((n + 1 - A : Nat) : Int) := by omega
  have q3 : (A : Int) + (B : Int) = ((A + B : Nat) : Int) := by omega
  have a0 := DL.atI_nat (rr_at s2)
  have ai := DL.atI_nat (rr_at g2)
  have ap := DL.atI_nat g3
  have z0 : atI (RR.map rowD) 0 = some (rowD zs) := a0
  have len0 : ∀ ω, oLen2 ω [rowD zs] = some (.int n) := fun ω => by
    unfold rowD
    rw [DL.v_lenT, List.length_map, s4]
  have hcut : ∀ ω, oSl ω (rowD xs) (some (A : Int)) (some ((A + B : Nat) : Int)) = some (rowD ((xs.drop A).take (A + B - A))) := fun ω => cut_row g4 (by omega) (by omega)
  have hsum : ∀ (ω : List OB) (zs : List Int), oSum2 ω [rowD zs] = some (.int zs.sum) := fun ω zs => by
    unfold rowD
    rw [DL.v_sumT]
  have hdl : (dif (at0 xs) (at0 ys) 0 n).length ≤ n := dif_len _ _
  have same1 := fun ω => same_ok (pl_three (pl_told (w := "told") (pl_row (xs := xs) (by omega) (k := 0))) (pl_told (w := "told") (g6.up)) (pl_told (w := "told") (.int (k := 1) (i := ((xs.drop A).take (A + B - A)).sum)))) 9 ω (by omega)
  have pd : Pl 1 (.tup ((dif (at0 xs) (at0 ys) 0 n).map D.int)) := .tup (fun d hd => by
    obtain ⟨x, _, rfl⟩ := List.mem_map.mp hd
    exact .int) (by rw [List.length_map]; omega)
  have same2 := fun ω => same_ok (pl_two (pl_told (w := "told") pd) (pl_told (w := "told") pd)) 9 ω (by omega)
  have hb := fun γ ω => r1K_ok (γ := γ) (ω := ω) (j := (n : Int)) (by omega)
  have hd := fun s0 s1 s3 s4 s5 s8 s9 s10 s11 => due_ok (C := C) (s0 := s0) (s1 := s1) (s3 := s3) (s4 := s4) (s5 := s5) (s8 := s8) (s9 := s9) (s10 := s10) (s11 := s11) l6.hr g2 r2 g4 r4 n1
  refine ⟨x5, .dat (.int i), .dat (.int j), .dat (.int A), .dat (.int ((A + B : Nat) : Int)), .dat (.lst [.lst [.str "told", rowD xs], .lst [.str "told", p], .lst [.str "told", .int ((xs.drop A).take (A + B - A)).sum]]), .dat (.tup ((dif (at0 xs) (at0 ys) 0 n).map D.int)), .no, ω4 ++ J1 ++ J2 ++ J3 ++ J4, ?_, l8, x1.trans (x2.trans (x3.trans (x4.trans (Ext.app.trans (Ext.app.trans (Ext.app.trans Ext.app))))))⟩
  simp only [fb__law_all_right_1, startD, List.map, List.length, Nat.sub_self, List.replicate, List.append_nil, List.cons_append, List.nil_append, Nat.reduceSub, Nat.reduceAdd, List.set, rb_ok, rb_exc, rb_bad, x_bind, x_pure, x_some, x_none, x_badM, x_c, x_e2, x_e1, x_tB, x_asB, chK_t, chK_f, x_eCh, pick_t, pick_f, x_andM, x_orM, x_notM, x_and, x_or, x_not, x_if, x_nil, x_cons, szL0, szL1, szL2, szL3, szL4, szL6, szL7, szL8, szL10, szT0, szT1, szT2, szT3, szT4, x_tup, x_nlst, x_call, x_ncall, x_oNone, x_oSome, x_asI, x_sl, x_flst, x_alloc, bk_ok, bk_exc, x_fun, x_funK, opt_some, x_fld, x_mt, x_meth, mkK_ok, mkK_exc, x_make, x_makeK, x_next, x_seq, th_nx, th_rt, th_bk, th_ct, th_exc, x_drop, x_sret, x_sif, x_set, asgK_some, x_asg, tg_tp, tg_nm, setAll_nil, setAll_cons, parK_ok, x_par, par3K_ok, x_par3, x_sub, x_sfld, x_for, x_iL, x_iT, x_asL, x_asT, x_iR1, x_iR2, x_nlc, raK_ok, x_raise, fin_rt, fin_nx, fin_exc, x_try, try_rt, ev0, ev1, ev2, ev3, ev4, ev5, ev6, ev7, ev8, ev9, ev10, ev11, ev12, ev13, ev14, DL.v_sub, DL.v_add, DL.v_lt, DL.v_le, DL.v_gt, DL.v_ge, DL.v_fdiv2, DL.v_neg, DL.v_abs, DL.v_int, DL.v_min2, DL.v_max2, DL.v_eqI, DL.v_neI, DL.v_eqB, DL.v_neB, DL.v_isN, DL.v_notN, DL.v_isB, DL.v_e0l, DL.vL_lst, DL.isS_some, DL.v_ixL, DL.v_ixS, DL.v_ixT, DL.atI_0, DL.atI_1, DL.atI_2, DL.atI_3, DL.atI_4, DL.atI_5, DL.v_lenL, DL.v_lenS, DL.v_lenT, DL.v_lenD, DL.v_sumL, DL.v_sumT, DL.v_tupL, DL.v_tupT, DL.v_listT, DL.v_listL, DL.v_slT, DL.v_slL, DL.v_slS, DL.i_ii, DL.i_ib, DL.i_is, DL.i_id, DL.i_il, DL.i_it, DL.i_bi, DL.i_bb, DL.i_bt, DL.i_ni, DL.i_nb, DL.i_nt, DL.i_si, DL.i_sb, DL.i_ss, DL.i_st, DL.i_li, DL.i_lb, DL.i_ls, DL.i_ld, DL.i_ll, DL.i_lt, DL.i_ti, DL.i_tb, DL.i_ts, DL.i_td, DL.i_tl, DL.i_tt, DL.i_di, DL.i_db, DL.i_ds, DL.i_dd, DL.i_dt, DL.x_rev, DL.isNonD, DL.v_lenO l.hr, List.length_map, e1, DL.v_lenO l1.hr, e2, DL.v_ixO l2.hr, z0, len0, q1, e3, DL.v_ixO l3.hr, q2, e4, q3, t1, t2, t3, DL.v_ixO l6.hr, ai, DL.v_ixO l6.hq, ap, hcut, hsum, same1, Bool.not_true, hb, wipeD, hd, t4, t5, mul2, same2]
theorem all_ok (l : Life C b (k + 16) v kt tp pa rs ps n N T P RR ω) {g : Bool} : ∃ ω', F__law_all_right C [.obj b, .obj v, .obj rs, .obj ps, .bl g] ω = .ok (.bl true) [] ω' ∧ Life C b k v kt tp pa rs ps n N T P RR ω' ∧ Ext [b] ω ω' := by
  obtain ⟨γ', ω', e, g', y5, y6, y7, y8, y9, y10, y11, y12, rfl, l', x'⟩ := for_ok (t := .nm 5) (body := fb__law_all_right_1 C) (fun i γ ω' => ∃ (g : Bool) (y5 y6 y7 y8 y9 y10 y11 y12 : SD), γ = [.dat (.obj b), .dat (.obj v), .dat (.obj rs), .dat (.obj ps), .dat (.bl g), y5, y6, y7, y8, y9, y10, y11, y12] ∧ Life C b (k + 4 * (4 - i)) v kt tp pa rs ps n N T P RR ω' ∧ Ext [b] ω ω') (ds := rangeD 0 ((4 : Nat) : Int)) (γ := [.dat (.obj b), .dat (.obj v), .dat (.obj rs), .dat (.obj ps), .dat (.bl g), .no, .no, .no, .no, .no, .no, .no, .no]) (ω := ω) ⟨g, _, _, _, _, _, _, _, _, rfl, l, Ext.refl _ _⟩ (by
    rintro i d γ ω1 hd ⟨g, y5, y6, y7, y8, y9, y10, y11, y12, rfl, l1, x1⟩
    obtain ⟨rfl, hi⟩ := range_at hd
    have l1' : Life C b ((k + 4 * (4 - (i + 1))) + 4) v kt tp pa rs ps n N T P RR ω1 := by
      have e : k + 4 * (4 - (i + 1)) + 4 = k + 4 * (4 - i) := by omega
      rw [e]
      exact l1
    obtain ⟨z5, z6, z7, z8, z9, z10, z11, z12, ω2, e2, l2, x2⟩ := turn_ok l1' (g := g) (x5 := .dat (.int i)) (x6 := y6) (x7 := y7) (x8 := y8) (x9 := y9) (x10 := y10) (x11 := y11) (x12 := y12)
    exact ⟨_, _, _, rfl, e2, _, _, _, _, _, _, _, _, _, rfl, l2, x1.trans x2⟩)
  rw [range_len] at l'
  refine ⟨ω', ?_, l', x'⟩
  have hb := r1K_ok (γ := [.dat (.obj b), .dat (.obj v), .dat (.obj rs), .dat (.obj ps), .dat (.bl g), .no, .no, .no, .no, .no, .no, .no, .no]) (ω := ω) (j := 4) (by omega)
  have e' : forL (.nm 5) (fb__law_all_right_1 C) (rangeD 0 4) [.dat (.obj b), .dat (.obj v), .dat (.obj rs), .dat (.obj ps), .dat (.bl g), .no, .no, .no, .no, .no, .no, .no, .no] ω = _ := e
  simp only [F__law_all_right, m__law_all_right, startD, List.map, List.length, Nat.sub_self, List.replicate, List.append_nil, List.cons_append, List.nil_append, Nat.reduceSub, Nat.reduceAdd, List.set, rb_ok, rb_exc, rb_bad, x_bind, x_pure, x_some, x_none, x_badM, x_c, x_e2, x_e1, x_tB, x_asB, chK_t, chK_f, x_eCh, pick_t, pick_f, x_andM, x_orM, x_notM, x_and, x_or, x_not, x_if, x_nil, x_cons, szL0, szL1, szL2, szL3, szL4, szL6, szL7, szL8, szL10, szT0, szT1, szT2, szT3, szT4, x_tup, x_nlst, x_call, x_ncall, x_oNone, x_oSome, x_asI, x_sl, x_flst, x_alloc, bk_ok, bk_exc, x_fun, x_funK, opt_some, x_fld, x_mt, x_meth, mkK_ok, mkK_exc, x_make, x_makeK, x_next, x_seq, th_nx, th_rt, th_bk, th_ct, th_exc, x_drop, x_sret, x_sif, x_set, asgK_some, x_asg, tg_tp, tg_nm, setAll_nil, setAll_cons, parK_ok, x_par, par3K_ok, x_par3, x_sub, x_sfld, x_for, x_iL, x_iT, x_asL, x_asT, x_iR1, x_iR2, x_nlc, raK_ok, x_raise, fin_rt, fin_nx, fin_exc, x_try, try_rt, ev0, ev1, ev2, ev3, ev4, ev5, ev6, ev7, ev8, ev9, ev10, ev11, ev12, ev13, ev14, DL.v_sub, DL.v_add, DL.v_lt, DL.v_le, DL.v_gt, DL.v_ge, DL.v_fdiv2, DL.v_neg, DL.v_abs, DL.v_int, DL.v_min2, DL.v_max2, DL.v_eqI, DL.v_neI, DL.v_eqB, DL.v_neB, DL.v_isN, DL.v_notN, DL.v_isB, DL.v_e0l, DL.vL_lst, DL.isS_some, DL.v_ixL, DL.v_ixS, DL.v_ixT, DL.atI_0, DL.atI_1, DL.atI_2, DL.atI_3, DL.atI_4, DL.atI_5, DL.v_lenL, DL.v_lenS, DL.v_lenT, DL.v_lenD, DL.v_sumL, DL.v_sumT, DL.v_tupL, DL.v_tupT, DL.v_listT, DL.v_listL, DL.v_slT, DL.v_slL, DL.v_slS, DL.i_ii, DL.i_ib, DL.i_is, DL.i_id, DL.i_il, DL.i_it, DL.i_bi, DL.i_bb, DL.i_bt, DL.i_ni, DL.i_nb, DL.i_nt, DL.i_si, DL.i_sb, DL.i_ss, DL.i_st, DL.i_li, DL.i_lb, DL.i_ls, DL.i_ld, DL.i_ll, DL.i_lt, DL.i_ti, DL.i_tb, DL.i_ts, DL.i_td, DL.i_tl, DL.i_tt, DL.i_di, DL.i_db, DL.i_ds, DL.i_dd, DL.i_dt, DL.x_rev, DL.isNonD, hb, e']
end
end K80

set_option Elab.async false
set_option linter.all false
set_option maxRecDepth 100000
set_option maxHeartbeats 2000000
namespace K80
open PySem PySem.Spec PyProof.Rows L2 DL

/-! ### mixed -/
theorem Ext.setNew {S : List Nat} {ω ω' : List OB} {j : Nat} {x : OB} (e : Ext S ω ω') (h : ω.length ≤ j) : Ext S ω (ω'.set j x) := ⟨by simpa using e.len, fun i hi n => by rw [List.getElem?_set_ne (by omega), e.get i hi n]⟩
theorem BoxOk.lt {b k : Nat} {ω : List OB} (h : BoxOk b k ω) : b < ω.length := by
  obtain ⟨g, m, c, t, e, _⟩ := h
  exact lt_of e
theorem BoxOk.set_ne {b k j : Nat} {ω : List OB} {x : OB} (h : BoxOk b k ω) (n : b ≠ j) : BoxOk b k (ω.set j x) := by
  obtain ⟨g, m, c, t, e, r⟩ := h
  exact ⟨g, m, c, t, at_set e n, r⟩
theorem erase_perm {α : Type} : ∀ (l : List α) (i : Nat) (h : i < l.length), (l[i] :: l.eraseIdx i).Perm l
  | a :: l, 0, _ => List.Perm.refl _
  | a :: l, i + 1, h => (List.Perm.swap a (l[i]'(by simpa using h)) (l.eraseIdx i)).trans ((erase_perm l i (by simpa using h)).cons a)
theorem mixed_ok {b k : Nat} {ω : List OB} {xs : List D} (bx : BoxOk b (k + xs.length) ω) (hl : xs.length < 100) :
    ∃ (ω' : List OB) (F : List D), F__law_mixed [.obj b, .lst xs] ω = .ok (.obj (ω.length + 1)) [] ω' ∧ ω'[ω.length + 1]? = some (.lst F) ∧ F.Perm xs ∧ Ext [b] ω ω' ∧ BoxOk b k ω' := by
  have hb := bx.lt
  have key : ∀ (m : Nat) (γ : List SD) (ω' : List OB), (∃ (L F : List D), m = L.length ∧ L.length ≤ xs.length ∧ F.length + L.length = xs.length ∧ (F ++ L).Perm xs ∧ γ = [.dat (.obj b), .dat (.lst xs), .dat (.obj ω.length), .dat (.obj (ω.length + 1))] ∧ ω'[ω.length]? = some (.lst L) ∧ ω'[ω.length + 1]? = some (.lst F) ∧ Ext [b] ω ω' ∧ BoxOk b (k + L.length) ω') →
      (wc__law_mixed_1 γ ω' = .ok false γ ω' ∧ ∃ (F : List D), γ = [.dat (.obj b), .dat (.lst xs), .dat (.obj ω.length), .dat (.obj (ω.length + 1))] ∧ F.Perm xs ∧ ω'[ω.length + 1]? = some (.lst F) ∧ Ext [b] ω ω' ∧ BoxOk b k ω') ∨
      (wc__law_mixed_1 γ ω' = .ok true γ ω' ∧ ∃ γ2 ω2 m', wb__law_mixed_1 γ ω' = .ok .nx γ2 ω2 ∧ m' < m ∧
        ∃ (L F : List D), m' = L.length ∧ L.length ≤ xs.length ∧ F.length + L.length = xs.length ∧ (F ++ L).Perm xs ∧ γ2 = [.dat (.obj b), .dat (.lst xs), .dat (.obj ω.length), .dat (.obj (ω.length + 1))] ∧ ω2[ω.length]? = some (.lst L) ∧ ω2[ω.length + 1]? = some (.lst F) ∧ Ext [b] ω ω2 ∧ BoxOk b (k + L.length) ω2) := by
    rintro m γ ω' ⟨L, F, rfl, h1, h2, pm, rfl, g1, g2, ex, bo⟩
    cases L with
    | nil =>
      left
      refine ⟨?_, F, rfl, by simpa using pm, g2, ex, by simpa using bo⟩
      simp only [wc__law_mixed_1, startD, List.map, List.length, Nat.sub_self, List.replicate, List.append_nil, List.cons_append, List.nil_append, Nat.reduceSub, Nat.reduceAdd, List.set, rb_ok, rb_exc, rb_bad, x_bind, x_pure, x_some, x_none, x_badM, x_c, x_e2, x_e1, x_tB, x_asB, chK_t, chK_f, x_eCh, pick_t, pick_f, x_andM, x_orM, x_notM, x_and, x_or, x_not, x_if, x_nil, x_cons, szL0, szL1, szL2, szL3, szL4, szL6, szL7, szL8, szL10, szT0, szT1, szT2, szT3, szT4, x_tup, x_nlst, x_call, x_ncall, x_oNone, x_oSome, x_asI, x_sl, x_flst, x_alloc, bk_ok, bk_exc, x_fun, x_funK, opt_some, x_fld, x_mt, x_meth, mkK_ok, mkK_exc, x_make, x_makeK, x_next, x_seq, th_nx, th_rt, th_bk, th_ct, th_exc, x_drop, x_sret, x_sif, x_set, asgK_some, x_asg, tg_tp, tg_nm, setAll_nil, setAll_cons, parK_ok, x_par, par3K_ok, x_par3, x_sub, x_sfld, x_for, x_iL, x_iT, x_asL, x_asT, x_iR1, x_iR2, x_nlc, raK_ok, x_raise, fin_rt, fin_nx, fin_exc, x_try, try_rt, ev0, ev1, ev2, ev3, ev4, ev5, ev6, ev7, ev8, ev9, ev10, ev11, ev12, ev13, ev14, DL.v_e0o g1, x_asB]
      rfl
    | cons y0 L0 =>
      right
      refine ⟨?_, ?_⟩
      · simp only [wc__law_mixed_1, startD, List.map, List.length, Nat.sub_self, List.replicate, List.append_nil, List.cons_append, List.nil_append, Nat.reduceSub, Nat.reduceAdd, List.set, rb_ok, rb_exc, rb_bad, x_bind, x_pure, x_some, x_none, x_badM, x_c, x_e2, x_e1, x_tB, x_asB, chK_t, chK_f, x_eCh, pick_t, pick_f, x_andM, x_orM, x_notM, x_and, x_or, x_not, x_if, x_nil, x_cons, szL0, szL1, szL2, szL3, szL4, szL6, szL7, szL8, szL10, szT0, szT1, szT2, szT3, szT4, x_tup, x_nlst, x_call, x_ncall, x_oNone, x_oSome, x_asI, x_sl, x_flst, x_alloc, bk_ok, bk_exc, x_fun, x_funK, opt_some, x_fld, x_mt, x_meth, mkK_ok, mkK_exc, x_make, x_makeK, x_next, x_seq, th_nx, th_rt, th_bk, th_ct, th_exc, x_drop, x_sret, x_sif, x_set, asgK_some, x_asg, tg_tp, tg_nm, setAll_nil, setAll_cons, parK_ok, x_par, par3K_ok, x_par3, x_sub, x_sfld, x_for, x_iL, x_iT, x_asL, x_asT, x_iR1, x_iR2, x_nlc, raK_ok, x_raise, fin_rt, fin_nx, fin_exc, x_try, try_rt, ev0, ev1, ev2, ev3, ev4, ev5, ev6, ev7, ev8, ev9, ev10, ev11, ev12, ev13, ev14, DL.v_e0o g1, x_asB]
        rfl
      generalize hL : y0 :: L0 = L at *
      have hpos : 0 < L.length := by rw [← hL]; simp
      have bo' : BoxOk b ((k + (L.length - 1)) + 1) ω' := by
        have e : k + (L.length - 1) + 1 = k + L.length := by omega
        rw [e]
        exact bo
      obtain ⟨i, x, hi, e1, bo1⟩ := take_ok bo' (many := (L.length : Int)) (by omega) (by omega)
      have hi' : i < L.length := by omega
      have n1 : ω.length ≠ b := by omega
      have n2 : ω.length + 1 ≠ b := by omega
      have k1 := at_set (y := x) g1 n1
      have k2 := at_set (y := x) g2 n2
      have hy := List.getElem?_eq_getElem hi'
      have ll : (L.eraseIdx i).length = L.length - 1 := List.length_eraseIdx_of_lt hi'
      have k2' := at_set (y := OB.lst (L.eraseIdx i)) k2 (show ω.length + 1 ≠ ω.length by omega)
      have k1' := set_at (y := OB.lst (L.eraseIdx i)) k1
      have k1'' := at_set (y := OB.lst (F ++ [L[i]])) k1' (show ω.length ≠ ω.length + 1 by omega)
      have k2'' := set_at (y := OB.lst (F ++ [L[i]])) k2'
      refine ⟨[.dat (.obj b), .dat (.lst xs), .dat (.obj ω.length), .dat (.obj (ω.length + 1))], ((ω'.set b x).set ω.length (.lst (L.eraseIdx i))).set (ω.length + 1) (.lst (F ++ [L[i]])), L.length - 1, ?_, by omega, L.eraseIdx i, F ++ [L[i]], ll.symm, by omega, by rw [List.length_append, List.length_singleton, ll]; omega, ?_, rfl, k1'', k2'', ?_, ?_⟩
      · have vm := m_popAt (γ := [.dat (.obj b), .dat (.lst xs), .dat (.obj ω.length), .dat (.obj (ω.length + 1))]) k1 hy (by omega)
        have va := m_app (γ := [.dat (.obj b), .dat (.lst xs), .dat (.obj ω.length), .dat (.obj (ω.length + 1))]) (y := L[i]) k2' (by omega)
        simp only [wb__law_mixed_1, startD, List.map, List.length, Nat.sub_self, List.replicate, List.append_nil, List.cons_append, List.nil_append, Nat.reduceSub, Nat.reduceAdd, List.set, rb_ok, rb_exc, rb_bad, x_bind, x_pure, x_some, x_none, x_badM, x_c, x_e2, x_e1, x_tB, x_asB, chK_t, chK_f, x_eCh, pick_t, pick_f, x_andM, x_orM, x_notM, x_and, x_or, x_not, x_if, x_nil, x_cons, szL0, szL1, szL2, szL3, szL4, szL6, szL7, szL8, szL10, szT0, szT1, szT2, szT3, szT4, x_tup, x_nlst, x_call, x_ncall, x_oNone, x_oSome, x_asI, x_sl, x_flst, x_alloc, bk_ok, bk_exc, x_fun, x_funK, opt_some, x_fld, x_mt, x_meth, mkK_ok, mkK_exc, x_make, x_makeK, x_next, x_seq, th_nx, th_rt, th_bk, th_ct, th_exc, x_drop, x_sret, x_sif, x_set, asgK_some, x_asg, tg_tp, tg_nm, setAll_nil, setAll_cons, parK_ok, x_par, par3K_ok, x_par3, x_sub, x_sfld, x_for, x_iL, x_iT, x_asL, x_asT, x_iR1, x_iR2, x_nlc, raK_ok, x_raise, fin_rt, fin_nx, fin_exc, x_try, try_rt, ev0, ev1, ev2, ev3, ev4, ev5, ev6, ev7, ev8, ev9, ev10, ev11, ev12, ev13, ev14, DL.v_sub, DL.v_add, DL.v_lt, DL.v_le, DL.v_gt, DL.v_ge, DL.v_fdiv2, DL.v_neg, DL.v_abs, DL.v_int, DL.v_min2, DL.v_max2, DL.v_eqI, DL.v_neI, DL.v_eqB, DL.v_neB, DL.v_isN, DL.v_notN, DL.v_isB, DL.v_e0l, DL.vL_lst, DL.isS_some, DL.v_ixL, DL.v_ixS, DL.v_ixT, DL.atI_0, DL.atI_1, DL.atI_2, DL.atI_3, DL.atI_4, DL.atI_5, DL.v_lenL, DL.v_lenS, DL.v_lenT, DL.v_lenD, DL.v_sumL, DL.v_sumT, DL.v_tupL, DL.v_tupT, DL.v_listT, DL.v_listL, DL.v_slT, DL.v_slL, DL.v_slS, DL.i_ii, DL.i_ib, DL.i_is, DL.i_id, DL.i_il, DL.i_it, DL.i_bi, DL.i_bb, DL.i_bt, DL.i_ni, DL.i_nb, DL.i_nt, DL.i_si, DL.i_sb, DL.i_ss, DL.i_st, DL.i_li, DL.i_lb, DL.i_ls, DL.i_ld, DL.i_ll, DL.i_lt, DL.i_ti, DL.i_tb, DL.i_ts, DL.i_td, DL.i_tl, DL.i_tt, DL.i_di, DL.i_db, DL.i_ds, DL.i_dd, DL.i_dt, DL.x_rev, DL.isNonD, vL_obj g2, vL_obj g1, DL.v_lenO g1, e1, vm, va]
      · refine List.Perm.trans ?_ pm
        rw [List.append_assoc]
        exact List.Perm.append_left F (erase_perm L i hi')
      · exact ((ex.trans (Ext.set (by simp))).setNew (Nat.le_refl _)).setNew (by omega)
      · rw [ll]
        exact (bo1.set_ne n1.symm).set_ne n2.symm
  have b0 : BoxOk b (k + xs.length) (ω ++ [.lst xs] ++ [.lst []]) := (bx.ext (S := []) Ext.app (by simp)).ext (S := []) Ext.app (by simp)
  obtain ⟨γ', ω', e, F, rfl, pm, g2, ex, bo⟩ := while_ok _ _ key 100 xs.length [.dat (.obj b), .dat (.lst xs), .dat (.obj ω.length), .dat (.obj (ω.length + 1))] (ω ++ [.lst xs] ++ [.lst []]) hl ⟨xs, [], rfl, Nat.le_refl _, by simp, by simp, rfl, two0, two1, Ext.app.trans Ext.app, b0⟩
  refine ⟨ω', F, ?_, g2, pm, ex, bo⟩
  simp only [F__law_mixed, m__law_mixed, startD, List.map, List.length, Nat.sub_self, List.replicate, List.append_nil, List.cons_append, List.nil_append, Nat.reduceSub, Nat.reduceAdd, List.set, rb_ok, rb_exc, rb_bad, x_bind, x_pure, x_some, x_none, x_badM, x_c, x_e2, x_e1, x_tB, x_asB, chK_t, chK_f, x_eCh, pick_t, pick_f, x_andM, x_orM, x_notM, x_and, x_or, x_not, x_if, x_nil, x_cons, szL0, szL1, szL2, szL3, szL4, szL6, szL7, szL8, szL10, szT0, szT1, szT2, szT3, szT4, x_tup, x_nlst, x_call, x_ncall, x_oNone, x_oSome, x_asI, x_sl, x_flst, x_alloc, bk_ok, bk_exc, x_fun, x_funK, opt_some, x_fld, x_mt, x_meth, mkK_ok, mkK_exc, x_make, x_makeK, x_next, x_seq, th_nx, th_rt, th_bk, th_ct, th_exc, x_drop, x_sret, x_sif, x_set, asgK_some, x_asg, tg_tp, tg_nm, setAll_nil, setAll_cons, parK_ok, x_par, par3K_ok, x_par3, x_sub, x_sfld, x_for, x_iL, x_iT, x_asL, x_asT, x_iR1, x_iR2, x_nlc, raK_ok, x_raise, fin_rt, fin_nx, fin_exc, x_try, try_rt, ev0, ev1, ev2, ev3, ev4, ev5, ev6, ev7, ev8, ev9, ev10, ev11, ev12, ev13, ev14, DL.v_listL, len1, e]
section
variable {C : Addr} {b k v kt tp pa rs ps n : Nat} {N : List Nd} {T : List Nat} {P : List D} {RR : List (List Int)} {ω ω' : List OB}
theorem Life.mix {xs : List D} {m : Nat} (l : Life C b (k + m) v kt tp pa rs ps n N T P RR ω) (hm : xs.length = m) (hl : m < 100) : ∃ (ω' : List OB) (F : List D), F__law_mixed [.obj b, .lst xs] ω = .ok (.obj (ω.length + 1)) [] ω' ∧ ω'[ω.length + 1]? = some (.lst F) ∧ F.Perm xs ∧ Ext [b] ω ω' ∧ Life C b k v kt tp pa rs ps n N T P RR ω' := by
  subst hm
  obtain ⟨ω', F, e1, e2, pm, ex, bo⟩ := mixed_ok (k := k) l.bx hl
  exact ⟨ω', F, e1, e2, pm, ex, l.ext ex bo⟩

/-! ### refused -/
theorem ans1 : ans "InvalidVersion" "given" = "version" := by decide +kernel
theorem ans2 : ans "InvalidIndex" "given" = "index" := by decide +kernel
theorem ans3 : ans "InvalidNumber" "given" = "number" := by decide +kernel
theorem ans4 : ans "InvalidRange" "given" = "range" := by decide +kernel
theorem ans5 : ans "TooMany" "count" = "many" := by decide +kernel
theorem kn1 : known "InvalidVersion" "given" := .inl ⟨rfl, rfl⟩
theorem kn2 : known "InvalidIndex" "given" := .inr (.inl ⟨rfl, rfl⟩)
theorem kn3 : known "InvalidNumber" "given" := .inr (.inr (.inl ⟨rfl, rfl⟩))
theorem kn4 : known "InvalidRange" "given" := .inr (.inr (.inr (.inl ⟨rfl, rfl⟩)))
theorem kn5 : known "TooMany" "count" := .inr (.inr (.inr (.inr ⟨rfl, rfl⟩)))
/-- a thing that has a kind, is none within lo .. hi, and is plain -/
structure Bad (lo hi : Int) (d : D) : Prop where
  ty : ∀ ω, ∃ t, tyN ω d = some t
  no : btw d lo hi = false
  pl : Pl 1 d
theorem no_set (l : Life C b k v kt tp pa rs ps n N T P RR ω) {d a c : D} {g : Bool} (h : Bad 0 ((T.length : Int) - 1) d) : F__law_asked C [.obj v, .str "set", .lst [d, a, c], .bl g] ω = .ok (.lst [.str "version", d]) [] ω := by
  obtain ⟨t, ht⟩ := h.ty ω
  have e := change_noV l.vs (a := a) (b := c) ht h.no
  rw [ask_set (l.m (by decide +kernel)) (by rw [e]; exact ⟨_, _, rfl, kn1⟩), e]
  simp only [told, ans1]
theorem no_row (l : Life C b k v kt tp pa rs ps n N T P RR ω) {d : D} {g : Bool} (h : Bad 0 ((T.length : Int) - 1) d) : F__law_asked C [.obj v, .str "row", .lst [d], .bl g] ω = .ok (.lst [.str "version", d]) [] ω := by
  obtain ⟨t, ht⟩ := h.ty ω
  have e := row_noV l.vs ht h.no
  rw [ask_row (l.m (by decide +kernel)) (by rw [e]; exact ⟨_, _, rfl, kn1⟩), e]
  simp only [told, ans1]
theorem no_sum (l : Life C b k v kt tp pa rs ps n N T P RR ω) {d a c : D} {g : Bool} (h : Bad 0 ((T.length : Int) - 1) d) : F__law_asked C [.obj v, .str "sum", .lst [d, a, c], .bl g] ω = .ok (.lst [.str "version", d]) [] ω := by
  obtain ⟨t, ht⟩ := h.ty ω
  have e := total_noV l.vs (a := a) (b := c) ht h.no
  rw [ask_sum (l.m (by decide +kernel)) (by rw [e]; exact ⟨_, _, rfl, kn1⟩), e]
  simp only [told, ans1]
theorem no_parent (l : Life C b k v kt tp pa rs ps n N T P RR ω) {d : D} {g : Bool} (h : Bad 0 ((T.length : Int) - 1) d) : F__law_asked C [.obj v, .str "parent", .lst [d], .bl g] ω = .ok (.lst [.str "version", d]) [] ω := by
  obtain ⟨t, ht⟩ := h.ty ω
  have e := parent_noV l.vs ht h.no
  rw [ask_parent (l.m (by decide +kernel)) (by rw [e]; exact ⟨_, _, rfl, kn1⟩), e]
  simp only [told, ans1]
theorem no_unlike (l : Life C b k v kt tp pa rs ps n N T P RR ω) {d a : D} {g : Bool} (h : Bad 0 ((T.length : Int) - 1) d) : F__law_asked C [.obj v, .str "unlike", .lst [d, a], .bl g] ω = .ok (.lst [.str "version", d]) [] ω := by
  obtain ⟨t, ht⟩ := h.ty ω
  have e := unlike_noV l.vs (a := a) ht h.no
  rw [ask_unlike (l.m (by decide +kernel)) (by rw [e]; exact ⟨_, _, rfl, kn1⟩), e]
  simp only [told, ans1]
theorem no_unlike2 (l : Life C b k v kt tp pa rs ps n N T P RR ω) {d : D} {g : Bool} (h : Bad 0 ((T.length : Int) - 1) d) : F__law_asked C [.obj v, .str "unlike", .lst [.int 0, d], .bl g] ω = .ok (.lst [.str "version", d]) [] ω := by
  obtain ⟨t, ht⟩ := h.ty ω
  have e : F_Versions_unlike C [.obj v, .int 0, d] ω = _ := unlike_noW l.vs (i := 0) l.t0 ht h.no
  rw [ask_unlike (l.m (by decide +kernel)) (by rw [e]; exact ⟨_, _, rfl, kn1⟩), e]
  simp only [told, ans1]
theorem nope_index (l : Life C b k v kt tp pa rs ps n N T P RR ω) {d a : D} {g : Bool} (h : Bad 0 ((n : Int) - 1) d) : F__law_asked C [.obj v, .str "set", .lst [.int 0, d, a], .bl g] ω = .ok (.lst [.str "index", d]) [] ω := by
  obtain ⟨t, ht⟩ := h.ty ω
  have e : F_Versions_change C [.obj v, .int 0, d, a] ω = _ := change_noI l.vs (a := a) (i := 0) l.t0 ht h.no
  rw [ask_set (l.m (by decide +kernel)) (by rw [e]; exact ⟨_, _, rfl, kn2⟩), e]
  simp only [told, ans2]
theorem no_number (l : Life C b k v kt tp pa rs ps n N T P RR ω) {d : D} {j : Nat} {g : Bool} (hj : j < n) (ht : ∀ ω, ∃ t, tyN ω d = some t) (h : isInt d = false) : F__law_asked C [.obj v, .str "set", .lst [.int 0, .int j, d], .bl g] ω = .ok (.lst [.str "number", d]) [] ω := by
  obtain ⟨t, ht⟩ := ht ω
  have e : F_Versions_change C [.obj v, .int 0, .int j, d] ω = _ := change_noX l.vs (i := 0) l.t0 hj ht h
  rw [ask_set (l.m (by decide +kernel)) (by rw [e]; exact ⟨_, _, rfl, kn3⟩), e]
  simp only [told, ans3]
theorem no_many (l : Life C b k v kt tp pa rs ps n N T P RR ω) {x : Int} {i j : Nat} {g : Bool} (hi : i < T.length) (hj : j < n) (h : T.length = 100) : F__law_asked C [.obj v, .str "set", .lst [.int i, .int j, .int x], .bl g] ω = .ok (.lst [.str "many", .int 100]) [] ω := by
  have e := change_noT l.vs (x := x) hi hj h
  rw [ask_set (l.m (by decide +kernel)) (by rw [e]; exact ⟨_, _, rfl, kn5⟩), e]
  simp only [told, ans5]
theorem no_low (l : Life C b k v kt tp pa rs ps n N T P RR ω) {d a : D} {g : Bool} (h : Bad 0 n d) : F__law_asked C [.obj v, .str "sum", .lst [.int 0, d, a], .bl g] ω = .ok (.lst [.str "range", d]) [] ω := by
  obtain ⟨t, ht⟩ := h.ty ω
  have e : F_Versions_total C [.obj v, .int 0, d, a] ω = _ := total_noL l.vs (a := a) (i := 0) l.t0 ht h.no
  rw [ask_sum (l.m (by decide +kernel)) (by rw [e]; exact ⟨_, _, rfl, kn4⟩), e]
  simp only [told, ans4]
theorem no_high (l : Life C b k v kt tp pa rs ps n N T P RR ω) {d : D} {g : Bool} (h : Bad 0 n d) : F__law_asked C [.obj v, .str "sum", .lst [.int 0, .int 0, d], .bl g] ω = .ok (.lst [.str "range", d]) [] ω := by
  obtain ⟨t, ht⟩ := h.ty ω
  have e : F_Versions_total C [.obj v, .int 0, .int 0, d] ω = _ := total_noH l.vs (i := 0) (A := 0) l.t0 (by omega) ht h.no
  rw [ask_sum (l.m (by decide +kernel)) (by rw [e]; exact ⟨_, _, rfl, kn4⟩), e]
  simp only [told, ans4]
/-! bad things -/
section
variable {lo hi : Int}
theorem bad_non : Bad lo hi .non := ⟨fun _ => ⟨_, rfl⟩, rfl, .non⟩
theorem bad_bl {x : Bool} : Bad lo hi (.bl x) := ⟨fun _ => ⟨_, rfl⟩, rfl, .bl⟩
theorem bad_str {x : Str} (h : PyData.strOk x = true := by decide +kernel) : Bad lo hi (.str x) := ⟨fun _ => ⟨_, rfl⟩, rfl, .str h⟩
theorem bad_lst {x : Int} : Bad lo hi (.lst [.int x]) := ⟨fun _ => ⟨_, rfl⟩, rfl, .lst (fun d hd => by rw [List.mem_singleton.mp hd]; exact .int) (by simp)⟩
theorem bad_tup {x : Int} : Bad lo hi (.tup [.int x]) := ⟨fun _ => ⟨_, rfl⟩, rfl, .tup (fun d hd => by rw [List.mem_singleton.mp hd]; exact .int) (by simp)⟩
theorem bad_emp : Bad lo hi (.tup []) := ⟨fun _ => ⟨_, rfl⟩, rfl, .tup (fun d hd => by cases hd) (by simp)⟩
theorem bad_int {x : Int} (h : x < lo ∨ hi < x) : Bad lo hi (.int x) := ⟨fun _ => ⟨_, rfl⟩, by
  show (decide (lo ≤ x) && decide (x ≤ hi)) = false
  rw [Bool.and_eq_false_iff]
  rcases h with h | h
  · exact .inl (decide_eq_false (by omega))
  · exact .inr (decide_eq_false (by omega)), .int⟩
end
theorem perm_all {p : D → Prop} {F xs : List D} (pm : F.Perm xs) (h : ∀ d ∈ xs, p d) : ∀ d ∈ F, p d := fun d hd => h d (pm.mem_iff.mp hd)
theorem six_of {F xs : List D} (pm : F.Perm xs) (h : xs.length = 6) : ∃ y r, F = y :: r := by
  have := pm.length_eq
  cases F with
  | nil => rw [h] at this; cases this
  | cons y r => exact ⟨y, r, rfl⟩
theorem refused_ok (l : Life C b (k + 32) v kt tp pa rs ps n N T P RR ω) {g : Bool} : ∃ ω', F__law_refused_right C [.obj b, .obj v, .obj rs, .bl g] ω = .ok (.bl true) [] ω' ∧ Life C b k v kt tp pa rs ps n N T P RR ω' ∧ Ext [b] ω ω' := by
  have n0 := l.n0
  have n1 := l.n1
  have lr := l.lr
  have t0 := l.t0
  have t1 := l.vs.lt
  obtain ⟨_, zs, _, s1, s2, s3, s4, s5, s6⟩ := l.at (j := 0) (by omega)
  have z0 : atI (RR.map rowD) 0 = some (rowD zs) := DL.atI_nat (rr_at s2)
  have len0 : ∀ ω, oLen2 ω [rowD zs] = some (.int n) := fun ω => by
    unfold rowD
    rw [DL.v_lenT, List.length_map, s4]
  have l' : Life C b ((k + 24) + 8) v kt tp pa rs ps n N T P RR ω := l
  obtain ⟨ω1, F1, e1, g1, p1, x1, l1⟩ := l'.mix (xs := [.non, .int (-1), .int RR.length, .bl true, .str "0", .lst [.int 0], .tup [.int 0], .int (10 ^ (20 : Int).toNat)]) rfl (by omega)
  have l1' : Life C b ((k + 18) + 6) v kt tp pa rs ps n N T P RR ω1 := l1
  obtain ⟨ω2, F2, e2, g2, p2, x2, l2⟩ := l1'.mix (xs := [.non, .int (-1), .int n, .bl true, .str "0", .lst [.int 0]]) rfl (by omega)
  have l2' : Life C b ((k + 12) + 6) v kt tp pa rs ps n N T P RR ω2 := l2
  obtain ⟨ω3, F3, e3, g3, p3, x3, l3⟩ := l2'.mix (xs := [.non, .bl true, .str "1", .lst [.int 1], .tup [.int 1], .tup []]) rfl (by omega)
  have l3' : Life C b ((k + 6) + 6) v kt tp pa rs ps n N T P RR ω3 := l3
  obtain ⟨ω4, F4, e4, g4, p4, x4, l4⟩ := l3'.mix (xs := [.non, .int (-1), .int ((n : Int) + 1), .bl true, .str "0", .lst [.int 0]]) rfl (by omega)
  obtain ⟨ω5, F5, e5, g5, p5, x5, l5⟩ := l4.mix (xs := [.non, .int (-1), .int ((n : Int) + 1), .bl true, .str "9", .lst [.int 1]]) rfl (by omega)
  have big : (100 : Int) < 10 ^ (20 : Int).toNat := by decide
  have B1 : ∀ d ∈ F1, Bad 0 ((T.length : Int) - 1) d := perm_all p1 (by
    intro d hd
    simp only [List.mem_cons, List.not_mem_nil, or_false] at hd
    rcases hd with rfl | rfl | rfl | rfl | rfl | rfl | rfl | rfl
    · exact bad_non
    · exact bad_int (.inl (by omega))
    · exact bad_int (.inr (by omega))
    · exact bad_bl
    · exact bad_str
    · exact bad_lst
    · exact bad_tup
    · exact bad_int (.inr (by omega)))
  have B2 : ∀ d ∈ F2, Bad 0 ((n : Int) - 1) d := perm_all p2 (by
    intro d hd
    simp only [List.mem_cons, List.not_mem_nil, or_false] at hd
    rcases hd with rfl | rfl | rfl | rfl | rfl | rfl
    · exact bad_non
    · exact bad_int (.inl (by omega))
    · exact bad_int (.inr (by omega))
    · exact bad_bl
    · exact bad_str
    · exact bad_lst)
  have B3 : ∀ d ∈ F3, (∀ ω, ∃ t, tyN ω d = some t) ∧ isInt d = false ∧ Pl 1 d := perm_all p3 (by
    intro d hd
    simp only [List.mem_cons, List.not_mem_nil, or_false] at hd
    rcases hd with rfl | rfl | rfl | rfl | rfl | rfl
    · exact ⟨(bad_non (lo := 0) (hi := 0)).ty, rfl, (bad_non (lo := 0) (hi := 0)).pl⟩
    · exact ⟨(bad_bl (lo := 0) (hi := 0)).ty, rfl, (bad_bl (lo := 0) (hi := 0)).pl⟩
    · exact ⟨(bad_str (lo := 0) (hi := 0)).ty, rfl, (bad_str (lo := 0) (hi := 0)).pl⟩
    · exact ⟨(bad_lst (lo := 0) (hi := 0)).ty, rfl, (bad_lst (lo := 0) (hi := 0)).pl⟩
    · exact ⟨(bad_tup (lo := 0) (hi := 0)).ty, rfl, (bad_tup (lo := 0) (hi := 0)).pl⟩
    · exact ⟨(bad_emp (lo := 0) (hi := 0)).ty, rfl, (bad_emp (lo := 0) (hi := 0)).pl⟩)
  have B4 : ∀ d ∈ F4, Bad 0 n d := perm_all p4 (by
    intro d hd
    simp only [List.mem_cons, List.not_mem_nil, or_false] at hd
    rcases hd with rfl | rfl | rfl | rfl | rfl | rfl
    · exact bad_non
    · exact bad_int (.inl (by omega))
    · exact bad_int (.inr (by omega))
    · exact bad_bl
    · exact bad_str
    · exact bad_lst)
  have B5 : ∀ d ∈ F5, Bad 0 n d := perm_all p5 (by
    intro d hd
    simp only [List.mem_cons, List.not_mem_nil, or_false] at hd
    rcases hd with rfl | rfl | rfl | rfl | rfl | rfl
    · exact bad_non
    · exact bad_int (.inl (by omega))
    · exact bad_int (.inr (by omega))
    · exact bad_bl
    · exact bad_str
    · exact bad_lst)
  obtain ⟨c2, r2, rfl⟩ := six_of p2 rfl
  obtain ⟨c3, r3, rfl⟩ := six_of p3 rfl
  obtain ⟨c4, r4, rfl⟩ := six_of p4 rfl
  obtain ⟨c5, r5, rfl⟩ := six_of p5 rfl
  have b2 := B2 c2 List.mem_cons_self
  obtain ⟨y3, i3, q3⟩ := B3 c3 List.mem_cons_self
  have b4 := B4 c4 List.mem_cons_self
  have b5 := B5 c5 List.mem_cons_self
  have hl1 : F1.length = 8 := p1.length_eq
  match F1, hl1, g1, B1 with
  | [d0, d1, d2, d3, d4, d5, d6, d7], _, g1, B1 =>
    have k0 := B1 d0 (by simp)
    have k1 := B1 d1 (by simp)
    have k2 := B1 d2 (by simp)
    have k3 := B1 d3 (by simp)
    have k4 := B1 d4 (by simp)
    have k5 := B1 d5 (by simp)
    have pw : Pl 3 (.lst [.lst [.str "version", d0], .lst [.str "version", d1], .lst [.str "version", d2], .lst [.str "version", d3], .lst [.str "version", d4], .lst [.str "version", d5]]) := .lst (fun d hd => by
      simp only [List.mem_cons, List.not_mem_nil, or_false] at hd
      rcases hd with rfl | rfl | rfl | rfl | rfl | rfl
      · exact pl_told k0.pl
      · exact pl_told k1.pl
      · exact pl_told k2.pl
      · exact pl_told k3.pl
      · exact pl_told k4.pl
      · exact pl_told k5.pl) (by simp)
    have sm1 := fun ω => same_ok pw 9 ω (by omega)
    have sm2 := fun ω => same_ok (pl_two (pl_told (w := "index") b2.pl) (pl_told (w := "number") q3)) 9 ω (by omega)
    have sm3 := fun ω => same_ok (pl_two (pl_told (w := "range") b4.pl) (pl_told (w := "range") b5.pl)) 9 ω (by omega)
    have sm4 := fun ω => same_ok (.int (k := 0) (i := (N.length : Int))) 9 ω (by omega)
    have cadd : ∀ (ω : List OB) (a b c d e f : D), oAdd ω (.lst [a, b, c]) (.lst [d, e, f]) = some (.lst [a, b, c, d, e, f]) := fun ω a b c d e f => by
      rw [DL.v_addL (by simp)]
      rfl
    have hb := fun γ ω => r1K_ok (γ := γ) (ω := ω) (j := 6) (by omega)
    have lc : ∀ s0 s1 s2 s3 s4 s5 s7 s8 s9 s10 s11, lcL (.nm 12) [12] (M.pure true) (le__law_refused_right_1 C) (rangeD 0 6) [] [s0, s1, s2, s3, s4, s5, .dat (.obj (ω.length + 1)), s7, s8, s9, s10, s11, .no] ω1 = .ok [.lst [.str "version", d0], .lst [.str "version", d1], .lst [.str "version", d2], .lst [.str "version", d3], .lst [.str "version", d4], .lst [.str "version", d5]] [s0, s1, s2, s3, s4, s5, .dat (.obj (ω.length + 1)), s7, s8, s9, s10, s11, .no] ω1 := by
      intro s0 s1 s2 s3 s4 s5 s7 s8 s9 s10 s11
      obtain ⟨acc, γ', ω', e, h1, h2, h3⟩ := lc_ok (t := .nm 12) (vs := [12]) (tt := M.pure true) (te := le__law_refused_right_1 C) (fun m acc γ ω' => acc = ([d0, d1, d2, d3, d4, d5].take m).map (fun d => D.lst [.str "version", d]) ∧ γ = [s0, s1, s2, s3, s4, s5, .dat (.obj (ω.length + 1)), s7, s8, s9, s10, s11, .no] ∧ ω' = ω1) (ds := rangeD 0 ((6 : Nat) : Int)) (acc := []) (γ := [s0, s1, s2, s3, s4, s5, .dat (.obj (ω.length + 1)), s7, s8, s9, s10, s11, .no]) (ω := ω1) 0 ⟨rfl, rfl, rfl⟩ (by rw [range_len]; simp) (by
        rintro m d acc γ ω' hd ⟨rfl, rfl, rfl⟩
        obtain ⟨rfl, hm⟩ := range_at hd
        have hg : [d0, d1, d2, d3, d4, d5][m]? = some [d0, d1, d2, d3, d4, d5][m] := List.getElem?_eq_getElem hm
        have hg2 : [d0, d1, d2, d3, d4, d5, d6, d7][m]? = some [d0, d1, d2, d3, d4, d5][m] := by
          rw [← hg]
          exact (List.getElem?_append_left (l₁ := [d0, d1, d2, d3, d4, d5]) (l₂ := [d6, d7]) hm)
        have a1 := DL.atI_nat hg2
        refine ⟨[s0, s1, s2, s3, s4, s5, .dat (.obj (ω.length + 1)), s7, s8, s9, s10, s11, .dat (.int m)], [s0, s1, s2, s3, s4, s5, .dat (.obj (ω.length + 1)), s7, s8, s9, s10, s11, .dat (.int m)], ω', rfl, .inr ⟨.lst [.str "version", [d0, d1, d2, d3, d4, d5][m]], [s0, s1, s2, s3, s4, s5, .dat (.obj (ω.length + 1)), s7, s8, s9, s10, s11, .dat (.int m)], ω', rfl, ?_, ?_, rfl, rfl⟩⟩
        · simp only [le__law_refused_right_1, rb_ok, rb_exc, rb_bad, x_bind, x_pure, x_some, x_none, x_badM, x_c, x_e2, x_e1, x_tB, x_asB, chK_t, chK_f, x_eCh, pick_t, pick_f, x_andM, x_orM, x_notM, x_and, x_or, x_not, x_if, x_nil, x_cons, szL0, szL1, szL2, szL3, szL4, szL6, szL7, szL8, szL10, szT0, szT1, szT2, szT3, szT4, x_tup, x_nlst, x_call, x_ncall, x_oNone, x_oSome, x_asI, x_sl, x_flst, x_alloc, bk_ok, bk_exc, x_fun, x_funK, opt_some, x_fld, x_mt, x_meth, mkK_ok, mkK_exc, x_make, x_makeK, x_next, x_seq, th_nx, th_rt, th_bk, th_ct, th_exc, x_drop, x_sret, x_sif, x_set, asgK_some, x_asg, tg_tp, tg_nm, setAll_nil, setAll_cons, parK_ok, x_par, par3K_ok, x_par3, x_sub, x_sfld, x_for, x_iL, x_iT, x_asL, x_asT, x_iR1, x_iR2, x_nlc, raK_ok, x_raise, fin_rt, fin_nx, fin_exc, x_try, try_rt, ev0, ev1, ev2, ev3, ev4, ev5, ev6, ev7, ev8, ev9, ev10, ev11, ev12, ev13, ev14, DL.v_ixO g1, a1]
        · rw [Nat.zero_add, List.take_add_one, hg, List.map_append]
          rfl)
      rw [range_len, Nat.zero_add] at h1
      subst h2 h3
      rw [h1] at e
      exact e
    have r0 := fun (g : Bool) => no_set l1 (a := .non) (c := .non) (g := g) k0
    have r1 := fun (g : Bool) => no_row l1 (g := g) k1
    have r2 := fun (g : Bool) => no_sum l1 (a := .non) (c := .non) (g := g) k2
    have r3 := fun (g : Bool) => no_parent l1 (g := g) k3
    have r4 := fun (g : Bool) => no_unlike l1 (a := d5) (g := g) k4
    have r5 := fun (g : Bool) => no_unlike2 l1 (g := g) k5
    have u0 := fun (g : Bool) => nope_index l3 (a := c3) (g := g) b2
    have qn : (n : Int) - 1 = ((n - 1 : Nat) : Int) := by omega
    have u1 := fun (g : Bool) => no_number l3 (j := n - 1) (g := g) (by omega) y3 i3
    have w0 := fun (g : Bool) => no_low l5 (a := c5) (g := g) b4
    have w1 := fun (g : Bool) => no_high l5 (g := g) b5
    have p20 : ∀ ω, oPow ω (.int 10) (.int 20) = some (.int (10 ^ (20 : Int).toNat)) := fun ω => DL.v_pow (by decide) (by decide) (by decide)
    refine ⟨ω5, ?_, l5, x1.trans (x2.trans (x3.trans (x4.trans x5)))⟩
    simp only [F__law_refused_right, m__law_refused_right, startD, List.map, List.length, Nat.sub_self, List.replicate, List.append_nil, List.cons_append, List.nil_append, Nat.reduceSub, Nat.reduceAdd, List.set, rb_ok, rb_exc, rb_bad, x_bind, x_pure, x_some, x_none, x_badM, x_c, x_e2, x_e1, x_tB, x_asB, chK_t, chK_f, x_eCh, pick_t, pick_f, x_andM, x_orM, x_notM, x_and, x_or, x_not, x_if, x_nil, x_cons, szL0, szL1, szL2, szL3, szL4, szL6, szL7, szL8, szL10, szT0, szT1, szT2, szT3, szT4, x_tup, x_nlst, x_call, x_ncall, x_oNone, x_oSome, x_asI, x_sl, x_flst, x_alloc, bk_ok, bk_exc, x_fun, x_funK, opt_some, x_fld, x_mt, x_meth, mkK_ok, mkK_exc, x_make, x_makeK, x_next, x_seq, th_nx, th_rt, th_bk, th_ct, th_exc, x_drop, x_sret, x_sif, x_set, asgK_some, x_asg, tg_tp, tg_nm, setAll_nil, setAll_cons, parK_ok, x_par, par3K_ok, x_par3, x_sub, x_sfld, x_for, x_iL, x_iT, x_asL, x_asT, x_iR1, x_iR2, x_nlc, raK_ok, x_raise, fin_rt, fin_nx, fin_exc, x_try, try_rt, ev0, ev1, ev2, ev3, ev4, ev5, ev6, ev7, ev8, ev9, ev10, ev11, ev12, ev13, ev14, DL.v_sub, DL.v_add, DL.v_lt, DL.v_le, DL.v_gt, DL.v_ge, DL.v_fdiv2, DL.v_neg, DL.v_abs, DL.v_int, DL.v_min2, DL.v_max2, DL.v_eqI, DL.v_neI, DL.v_eqB, DL.v_neB, DL.v_isN, DL.v_notN, DL.v_isB, DL.v_e0l, DL.vL_lst, DL.isS_some, DL.v_ixL, DL.v_ixS, DL.v_ixT, DL.atI_0, DL.atI_1, DL.atI_2, DL.atI_3, DL.atI_4, DL.atI_5, DL.v_lenL, DL.v_lenS, DL.v_lenT, DL.v_lenD, DL.v_sumL, DL.v_sumT, DL.v_tupL, DL.v_tupT, DL.v_listT, DL.v_listL, DL.v_slT, DL.v_slL, DL.v_slS, DL.i_ii, DL.i_ib, DL.i_is, DL.i_id, DL.i_il, DL.i_it, DL.i_bi, DL.i_bb, DL.i_bt, DL.i_ni, DL.i_nb, DL.i_nt, DL.i_si, DL.i_sb, DL.i_ss, DL.i_st, DL.i_li, DL.i_lb, DL.i_ls, DL.i_ld, DL.i_ll, DL.i_lt, DL.i_ti, DL.i_tb, DL.i_ts, DL.i_td, DL.i_tl, DL.i_tt, DL.i_di, DL.i_db, DL.i_ds, DL.i_dd, DL.i_dt, DL.x_rev, DL.isNonD, DL.v_ixO l.hr, z0, len0, l.m (m := "nodes") (by decide +kernel), nodes_ok l.vs, DL.v_lenO l.hr, List.length_map, p20, e1, DL.v_ixO g1, r0, r1, r2, r3, r4, r5, cadd, hb, wipeD, lc, sm1, Bool.not_true, e2, DL.v_ixO g2, e3, DL.v_ixO g3, u0, qn, u1, sm2, e4, DL.v_ixO g4, e5, DL.v_ixO g5, w0, w1, sm3, l5.m (m := "nodes") (by decide +kernel), nodes_ok l5.vs, sm4]
end
end K80

set_option Elab.async false
set_option linter.all false
set_option maxRecDepth 100000
set_option maxHeartbeats 2000000
namespace K80
open PySem PySem.Spec PyProof.Rows L2 DL

/-! ### digits -/
theorem digits_pos {n : Nat} (h : 0 < n) : digits n = digits (n / 2) + 1 := by
  obtain ⟨m, rfl⟩ : ∃ m, n = m + 1 := ⟨n - 1, by omega⟩
  rw [digits]
theorem lt_digits : ∀ n : Nat, n < 2 ^ digits n := by
  intro n
  induction n using Nat.strongRecOn with
  | _ n ih =>
    by_cases h : 0 < n
    · have := ih (n / 2) (by omega)
      rw [digits_pos h, Nat.pow_succ]
      omega
    · have : n = 0 := by omega
      subst this
      simp [digits]
theorem digits_le : ∀ (k n : Nat), n < 2 ^ k → digits n ≤ k
  | 0, n, h => by
    have : n = 0 := by have h' : n < 1 := h; omega
    subst this
    simp [digits]
  | k + 1, n, h => by
    by_cases h0 : 0 < n
    · have := digits_le k (n / 2) (by rw [Nat.pow_succ] at h; omega)
      rw [digits_pos h0]
      omega
    · have : n = 0 := by omega
      subst this
      simp [digits]
theorem digits_ok {n : Nat} {ω : List OB} (h : n < 2 ^ 49) : F__law_digits [.int n] ω = .ok (.int (digits n)) [] ω := by
  have hd := digits_le 49 n h
  have key : ∀ (k : Nat) (γ : List SD) (ω' : List OB), (∃ m f : Nat, k = digits m ∧ f + digits m = digits n ∧ γ = [.dat (.int m), .dat (.int f)] ∧ ω' = ω) →
      (wc__law_digits_1 γ ω' = .ok false γ ω' ∧ ∃ m : Nat, γ = [.dat (.int m), .dat (.int (digits n))] ∧ ω' = ω) ∨
      (wc__law_digits_1 γ ω' = .ok true γ ω' ∧ ∃ γ2 ω2 k', wb__law_digits_1 γ ω' = .ok .nx γ2 ω2 ∧ k' < k ∧ ∃ m f : Nat, k' = digits m ∧ f + digits m = digits n ∧ γ2 = [.dat (.int m), .dat (.int f)] ∧ ω2 = ω) := by
    rintro k γ ω' ⟨m, f, rfl, h1, rfl, rfl⟩
    by_cases hm : 0 < m
    · right
      have c : decide ((0 : Int) < (m : Int)) = true := decide_eq_true (by omega)
      have e := digits_pos hm
      refine ⟨by simp only [wc__law_digits_1, startD, List.map, List.length, Nat.sub_self, List.replicate, List.append_nil, List.cons_append, List.nil_append, Nat.reduceSub, Nat.reduceAdd, List.set, rb_ok, rb_exc, rb_bad, x_bind, x_pure, x_some, x_none, x_badM, x_c, x_e2, x_e1, x_tB, x_asB, chK_t, chK_f, x_eCh, pick_t, pick_f, x_andM, x_orM, x_notM, x_and, x_or, x_not, x_if, x_nil, x_cons, szL0, szL1, szL2, szL3, szL4, szL6, szL7, szL8, szL10, szT0, szT1, szT2, szT3, szT4, x_tup, x_nlst, x_call, x_ncall, x_oNone, x_oSome, x_asI, x_sl, x_flst, x_alloc, bk_ok, bk_exc, x_fun, x_funK, opt_some, x_fld, x_mt, x_meth, mkK_ok, mkK_exc, x_make, x_makeK, x_next, x_seq, th_nx, th_rt, th_bk, th_ct, th_exc, x_drop, x_sret, x_sif, x_set, asgK_some, x_asg, tg_tp, tg_nm, setAll_nil, setAll_cons, parK_ok, x_par, par3K_ok, x_par3, x_sub, x_sfld, x_for, x_iL, x_iT, x_asL, x_asT, x_iR1, x_iR2, x_nlc, raK_ok, x_raise, fin_rt, fin_nx, fin_exc, x_try, try_rt, ev0, ev1, ev2, ev3, ev4, ev5, ev6, ev7, ev8, ev9, ev10, ev11, ev12, ev13, ev14, DL.v_sub, DL.v_add, DL.v_lt, DL.v_le, DL.v_gt, DL.v_ge, DL.v_fdiv2, DL.v_neg, DL.v_abs, DL.v_int, DL.v_min2, DL.v_max2, DL.v_eqI, DL.v_neI, DL.v_eqB, DL.v_neB, DL.v_isN, DL.v_notN, DL.v_isB, DL.v_e0l, DL.vL_lst, DL.isS_some, DL.v_ixL, DL.v_ixS, DL.v_ixT, DL.atI_0, DL.atI_1, DL.atI_2, DL.atI_3, DL.atI_4, DL.atI_5, DL.v_lenL, DL.v_lenS, DL.v_lenT, DL.v_lenD, DL.v_sumL, DL.v_sumT, DL.v_tupL, DL.v_tupT, DL.v_listT, DL.v_listL, DL.v_slT, DL.v_slL, DL.v_slS, DL.i_ii, DL.i_ib, DL.i_is, DL.i_id, DL.i_il, DL.i_it, DL.i_bi, DL.i_bb, DL.i_bt, DL.i_ni, DL.i_nb, DL.i_nt, DL.i_si, DL.i_sb, DL.i_ss, DL.i_st, DL.i_li, DL.i_lb, DL.i_ls, DL.i_ld, DL.i_ll, DL.i_lt, DL.i_ti, DL.i_tb, DL.i_ts, DL.i_td, DL.i_tl, DL.i_tt, DL.i_di, DL.i_db, DL.i_ds, DL.i_dd, DL.i_dt, DL.x_rev, DL.isNonD, c], [.dat (.int (m / 2 : Nat)), .dat (.int (f + 1 : Nat))], ω', digits (m / 2), ?_, by omega, m / 2, f + 1, rfl, by omega, rfl, rfl⟩
      have q1 : (m : Int) / 2 = ((m / 2 : Nat) : Int) := by omega
      have q2 : (f : Int) + 1 = ((f + 1 : Nat) : Int) := by omega
      simp only [wb__law_digits_1, startD, List.map, List.length, Nat.sub_self, List.replicate, List.append_nil, List.cons_append, List.nil_append, Nat.reduceSub, Nat.reduceAdd, List.set, rb_ok, rb_exc, rb_bad, x_bind, x_pure, x_some, x_none, x_badM, x_c, x_e2, x_e1, x_tB, x_asB, chK_t, chK_f, x_eCh, pick_t, pick_f, x_andM, x_orM, x_notM, x_and, x_or, x_not, x_if, x_nil, x_cons, szL0, szL1, szL2, szL3, szL4, szL6, szL7, szL8, szL10, szT0, szT1, szT2, szT3, szT4, x_tup, x_nlst, x_call, x_ncall, x_oNone, x_oSome, x_asI, x_sl, x_flst, x_alloc, bk_ok, bk_exc, x_fun, x_funK, opt_some, x_fld, x_mt, x_meth, mkK_ok, mkK_exc, x_make, x_makeK, x_next, x_seq, th_nx, th_rt, th_bk, th_ct, th_exc, x_drop, x_sret, x_sif, x_set, asgK_some, x_asg, tg_tp, tg_nm, setAll_nil, setAll_cons, parK_ok, x_par, par3K_ok, x_par3, x_sub, x_sfld, x_for, x_iL, x_iT, x_asL, x_asT, x_iR1, x_iR2, x_nlc, raK_ok, x_raise, fin_rt, fin_nx, fin_exc, x_try, try_rt, ev0, ev1, ev2, ev3, ev4, ev5, ev6, ev7, ev8, ev9, ev10, ev11, ev12, ev13, ev14, DL.v_sub, DL.v_add, DL.v_lt, DL.v_le, DL.v_gt, DL.v_ge, DL.v_fdiv2, DL.v_neg, DL.v_abs, DL.v_int, DL.v_min2, DL.v_max2, DL.v_eqI, DL.v_neI, DL.v_eqB, DL.v_neB, DL.v_isN, DL.v_notN, DL.v_isB, DL.v_e0l, DL.vL_lst, DL.isS_some, DL.v_ixL, DL.v_ixS, DL.v_ixT, DL.atI_0, DL.atI_1, DL.atI_2, DL.atI_3, DL.atI_4, DL.atI_5, DL.v_lenL, DL.v_lenS, DL.v_lenT, DL.v_lenD, DL.v_sumL, DL.v_sumT, DL.v_tupL, DL.v_tupT, DL.v_listT, DL.v_listL, DL.v_slT, DL.v_slL, DL.v_slS, DL.i_ii, DL.i_ib, DL.i_is, DL.i_id, DL.i_il, DL.i_it, DL.i_bi, DL.i_bb, DL.i_bt, DL.i_ni, DL.i_nb, DL.i_nt, DL.i_si, DL.i_sb, DL.i_ss, DL.i_st, DL.i_li, DL.i_lb, DL.i_ls, DL.i_ld, DL.i_ll, DL.i_lt, DL.i_ti, DL.i_tb, DL.i_ts, DL.i_td, DL.i_tl, DL.i_tt, DL.i_di, DL.i_db, DL.i_ds, DL.i_dd, DL.i_dt, DL.x_rev, DL.isNonD, q1, q2]
    · left
      have hz : m = 0 := by omega
      subst hz
      have c : decide ((0 : Int) < ((0 : Nat) : Int)) = false := decide_eq_false (by omega)
      have z : digits 0 = 0 := by simp [digits]
      refine ⟨by simp only [wc__law_digits_1, startD, List.map, List.length, Nat.sub_self, List.replicate, List.append_nil, List.cons_append, List.nil_append, Nat.reduceSub, Nat.reduceAdd, List.set, rb_ok, rb_exc, rb_bad, x_bind, x_pure, x_some, x_none, x_badM, x_c, x_e2, x_e1, x_tB, x_asB, chK_t, chK_f, x_eCh, pick_t, pick_f, x_andM, x_orM, x_notM, x_and, x_or, x_not, x_if, x_nil, x_cons, szL0, szL1, szL2, szL3, szL4, szL6, szL7, szL8, szL10, szT0, szT1, szT2, szT3, szT4, x_tup, x_nlst, x_call, x_ncall, x_oNone, x_oSome, x_asI, x_sl, x_flst, x_alloc, bk_ok, bk_exc, x_fun, x_funK, opt_some, x_fld, x_mt, x_meth, mkK_ok, mkK_exc, x_make, x_makeK, x_next, x_seq, th_nx, th_rt, th_bk, th_ct, th_exc, x_drop, x_sret, x_sif, x_set, asgK_some, x_asg, tg_tp, tg_nm, setAll_nil, setAll_cons, parK_ok, x_par, par3K_ok, x_par3, x_sub, x_sfld, x_for, x_iL, x_iT, x_asL, x_asT, x_iR1, x_iR2, x_nlc, raK_ok, x_raise, fin_rt, fin_nx, fin_exc, x_try, try_rt, ev0, ev1, ev2, ev3, ev4, ev5, ev6, ev7, ev8, ev9, ev10, ev11, ev12, ev13, ev14, DL.v_sub, DL.v_add, DL.v_lt, DL.v_le, DL.v_gt, DL.v_ge, DL.v_fdiv2, DL.v_neg, DL.v_abs, DL.v_int, DL.v_min2, DL.v_max2, DL.v_eqI, DL.v_neI, DL.v_eqB, DL.v_neB, DL.v_isN, DL.v_notN, DL.v_isB, DL.v_e0l, DL.vL_lst, DL.isS_some, DL.v_ixL, DL.v_ixS, DL.v_ixT, DL.atI_0, DL.atI_1, DL.atI_2, DL.atI_3, DL.atI_4, DL.atI_5, DL.v_lenL, DL.v_lenS, DL.v_lenT, DL.v_lenD, DL.v_sumL, DL.v_sumT, DL.v_tupL, DL.v_tupT, DL.v_listT, DL.v_listL, DL.v_slT, DL.v_slL, DL.v_slS, DL.i_ii, DL.i_ib, DL.i_is, DL.i_id, DL.i_il, DL.i_it, DL.i_bi, DL.i_bb, DL.i_bt, DL.i_ni, DL.i_nb, DL.i_nt, DL.i_si, DL.i_sb, DL.i_ss, DL.i_st, DL.i_li, DL.i_lb, DL.i_ls, DL.i_ld, DL.i_ll, DL.i_lt, DL.i_ti, DL.i_tb, DL.i_ts, DL.i_td, DL.i_tl, DL.i_tt, DL.i_di, DL.i_db, DL.i_ds, DL.i_dd, DL.i_dt, DL.x_rev, DL.isNonD, c], 0, ?_, rfl⟩
      rw [← h1, z]
      rfl
  obtain ⟨γ', ω', e, m, rfl, rfl⟩ := while_ok _ _ key 50 (digits n) [.dat (.int n), .dat (.int (0 : Nat))] ω (by omega) ⟨n, 0, rfl, by omega, rfl, rfl⟩
  have e' : whileL wc__law_digits_1 wb__law_digits_1 50 [.dat (.int n), .dat (.int 0)] ω' = _ := e
  simp only [F__law_digits, m__law_digits, startD, List.map, List.length, Nat.sub_self, List.replicate, List.append_nil, List.cons_append, List.nil_append, Nat.reduceSub, Nat.reduceAdd, List.set, rb_ok, rb_exc, rb_bad, x_bind, x_pure, x_some, x_none, x_badM, x_c, x_e2, x_e1, x_tB, x_asB, chK_t, chK_f, x_eCh, pick_t, pick_f, x_andM, x_orM, x_notM, x_and, x_or, x_not, x_if, x_nil, x_cons, szL0, szL1, szL2, szL3, szL4, szL6, szL7, szL8, szL10, szT0, szT1, szT2, szT3, szT4, x_tup, x_nlst, x_call, x_ncall, x_oNone, x_oSome, x_asI, x_sl, x_flst, x_alloc, bk_ok, bk_exc, x_fun, x_funK, opt_some, x_fld, x_mt, x_meth, mkK_ok, mkK_exc, x_make, x_makeK, x_next, x_seq, th_nx, th_rt, th_bk, th_ct, th_exc, x_drop, x_sret, x_sif, x_set, asgK_some, x_asg, tg_tp, tg_nm, setAll_nil, setAll_cons, parK_ok, x_par, par3K_ok, x_par3, x_sub, x_sfld, x_for, x_iL, x_iT, x_asL, x_asT, x_iR1, x_iR2, x_nlc, raK_ok, x_raise, fin_rt, fin_nx, fin_exc, x_try, try_rt, ev0, ev1, ev2, ev3, ev4, ev5, ev6, ev7, ev8, ev9, ev10, ev11, ev12, ev13, ev14, DL.v_sub, DL.v_add, DL.v_lt, DL.v_le, DL.v_gt, DL.v_ge, DL.v_fdiv2, DL.v_neg, DL.v_abs, DL.v_int, DL.v_min2, DL.v_max2, DL.v_eqI, DL.v_neI, DL.v_eqB, DL.v_neB, DL.v_isN, DL.v_notN, DL.v_isB, DL.v_e0l, DL.vL_lst, DL.isS_some, DL.v_ixL, DL.v_ixS, DL.v_ixT, DL.atI_0, DL.atI_1, DL.atI_2, DL.atI_3, DL.atI_4, DL.atI_5, DL.v_lenL, DL.v_lenS, DL.v_lenT, DL.v_lenD, DL.v_sumL, DL.v_sumT, DL.v_tupL, DL.v_tupT, DL.v_listT, DL.v_listL, DL.v_slT, DL.v_slL, DL.v_slS, DL.i_ii, DL.i_ib, DL.i_is, DL.i_id, DL.i_il, DL.i_it, DL.i_bi, DL.i_bb, DL.i_bt, DL.i_ni, DL.i_nb, DL.i_nt, DL.i_si, DL.i_sb, DL.i_ss, DL.i_st, DL.i_li, DL.i_lb, DL.i_ls, DL.i_ld, DL.i_ll, DL.i_lt, DL.i_ti, DL.i_tb, DL.i_ts, DL.i_td, DL.i_tl, DL.i_tt, DL.i_di, DL.i_db, DL.i_ds, DL.i_dd, DL.i_dt, DL.x_rev, DL.isNonD, e']

/-! ### numbers -/
theorem takeE {b k m : Nat} {ω : List OB} (bx : BoxOk b (k + 1) ω) (h0 : 0 < m) (h1 : m < 1000000) : ∃ (d : Nat) (ω' : List OB), d < m ∧ F__law_take [.obj b, .int m] ω = .ok (.int d) [] ω' ∧ Ext [b] ω ω' ∧ BoxOk b k ω' := by
  obtain ⟨d, x, hd, e, bo⟩ := take_ok bx (many := (m : Int)) (by omega) (by omega)
  exact ⟨d, _, by omega, e, Ext.set (by simp), bo⟩
theorem number_ok {b k : Nat} {ω : List OB} (bx : BoxOk b (k + 5) ω) : ∃ (x : Int) (ω' : List OB), F__law_number [.obj b] ω = .ok (.int x) [] ω' ∧ Ext [b] ω ω' ∧ BoxOk b k ω' := by
  obtain ⟨d1, ω1, h1, e1, x1, b1⟩ := takeE (m := 9) bx (by omega) (by omega)
  obtain ⟨d2, ω2, h2, e2, x2, b2⟩ := takeE (m := 9) b1 (by omega) (by omega)
  obtain ⟨d3, ω3, h3, e3, x3, b3⟩ := takeE (m := 9) b2 (by omega) (by omega)
  obtain ⟨d4, ω4, h4, e4, x4, b4⟩ := takeE (m := 3) b3 (by omega) (by omega)
  obtain ⟨d5, ω5, h5, e5, x5, b5⟩ := takeE (m := 7) b4 (by omega) (by omega)
  have e1 : F__law_take [.obj b, .int 9] ω = _ := e1
  have e2 : F__law_take [.obj b, .int 9] ω1 = _ := e2
  have e3 : F__law_take [.obj b, .int 9] ω2 = _ := e3
  have e4 : F__law_take [.obj b, .int 3] ω3 = _ := e4
  have e5 : F__law_take [.obj b, .int 7] ω4 = _ := e5
  have p12 : ∀ ω, oPow ω (.int 10) (.int 12) = some (.int (10 ^ (12 : Int).toNat)) := fun ω => DL.v_pow (by decide) (by decide) (by decide)
  generalize (10 : Int) ^ (12 : Int).toNat = z at p12
  have key : ∃ x : Int, atI [D.int 0, D.int 1, D.int (-1), D.int d1, D.int (-(d2 : Int)), D.int (z + d3), D.int d4] (d5 : Int) = some (.int x) := by
    match d5, h5 with
    | 0, _ => exact ⟨_, DL.atI_nat rfl⟩
    | 1, _ => exact ⟨_, DL.atI_nat rfl⟩
    | 2, _ => exact ⟨_, DL.atI_nat rfl⟩
    | 3, _ => exact ⟨_, DL.atI_nat rfl⟩
    | 4, _ => exact ⟨_, DL.atI_nat rfl⟩
    | 5, _ => exact ⟨_, DL.atI_nat rfl⟩
    | 6, _ => exact ⟨_, DL.atI_nat rfl⟩
  obtain ⟨x, hx⟩ := key
  refine ⟨x, ω5, ?_, x1.trans (x2.trans (x3.trans (x4.trans x5))), b5⟩
  simp only [F__law_number, m__law_number, startD, List.map, List.length, Nat.sub_self, List.replicate, List.append_nil, List.cons_append, List.nil_append, Nat.reduceSub, Nat.reduceAdd, List.set, rb_ok, rb_exc, rb_bad, x_bind, x_pure, x_some, x_none, x_badM, x_c, x_e2, x_e1, x_tB, x_asB, chK_t, chK_f, x_eCh, pick_t, pick_f, x_andM, x_orM, x_notM, x_and, x_or, x_not, x_if, x_nil, x_cons, szL0, szL1, szL2, szL3, szL4, szL6, szL7, szL8, szL10, szT0, szT1, szT2, szT3, szT4, x_tup, x_nlst, x_call, x_ncall, x_oNone, x_oSome, x_asI, x_sl, x_flst, x_alloc, bk_ok, bk_exc, x_fun, x_funK, opt_some, x_fld, x_mt, x_meth, mkK_ok, mkK_exc, x_make, x_makeK, x_next, x_seq, th_nx, th_rt, th_bk, th_ct, th_exc, x_drop, x_sret, x_sif, x_set, asgK_some, x_asg, tg_tp, tg_nm, setAll_nil, setAll_cons, parK_ok, x_par, par3K_ok, x_par3, x_sub, x_sfld, x_for, x_iL, x_iT, x_asL, x_asT, x_iR1, x_iR2, x_nlc, raK_ok, x_raise, fin_rt, fin_nx, fin_exc, x_try, try_rt, ev0, ev1, ev2, ev3, ev4, ev5, ev6, ev7, ev8, ev9, ev10, ev11, ev12, ev13, ev14, DL.v_sub, DL.v_add, DL.v_lt, DL.v_le, DL.v_gt, DL.v_ge, DL.v_fdiv2, DL.v_neg, DL.v_abs, DL.v_int, DL.v_min2, DL.v_max2, DL.v_eqI, DL.v_neI, DL.v_eqB, DL.v_neB, DL.v_isN, DL.v_notN, DL.v_isB, DL.v_e0l, DL.vL_lst, DL.isS_some, DL.v_ixL, DL.v_ixS, DL.v_ixT, DL.atI_0, DL.atI_1, DL.atI_2, DL.atI_3, DL.atI_4, DL.atI_5, DL.v_lenL, DL.v_lenS, DL.v_lenT, DL.v_lenD, DL.v_sumL, DL.v_sumT, DL.v_tupL, DL.v_tupT, DL.v_listT, DL.v_listL, DL.v_slT, DL.v_slL, DL.v_slS, DL.i_ii, DL.i_ib, DL.i_is, DL.i_id, DL.i_il, DL.i_it, DL.i_bi, DL.i_bb, DL.i_bt, DL.i_ni, DL.i_nb, DL.i_nt, DL.i_si, DL.i_sb, DL.i_ss, DL.i_st, DL.i_li, DL.i_lb, DL.i_ls, DL.i_ld, DL.i_ll, DL.i_lt, DL.i_ti, DL.i_tb, DL.i_ts, DL.i_td, DL.i_tl, DL.i_tt, DL.i_di, DL.i_db, DL.i_ds, DL.i_dd, DL.i_dt, DL.x_rev, DL.isNonD, e1, e2, p12, e3, e4, e5, hx]

/-! ### rows checked -/
theorem allint_lc {ω : List OB} {ds : List D} {s0 : SD} (ht : ∀ d ∈ ds, ∃ t, tyN ω d = some t) (hl : ds.length ≤ 100000) :
    lcL (.nm 1) [1] (M.pure true) le_check_row_1 ds [] [s0, .no] ω = .ok (ds.map fun d => D.bl (isInt d)) [s0, .no] ω := by
  obtain ⟨acc, γ', ω', e, h1, h2, h3⟩ := lc_ok (t := .nm 1) (vs := [1]) (tt := M.pure true) (te := le_check_row_1) (fun m acc γ ω' => acc = (ds.take m).map (fun d => D.bl (isInt d)) ∧ γ = [s0, .no] ∧ ω' = ω) (ds := ds) (acc := []) (γ := [s0, .no]) (ω := ω) 0 ⟨rfl, rfl, rfl⟩ (by simp; omega) (by
    rintro m d acc γ ω' hd ⟨rfl, rfl, rfl⟩
    obtain ⟨t, hty⟩ := ht d (List.mem_of_getElem? hd)
    refine ⟨[s0, .dat d], [s0, .dat d], ω', rfl, .inr ⟨.bl (isInt d), [s0, .dat d], ω', rfl, ?_, ?_, rfl, rfl⟩⟩
    · simp only [le_check_row_1, rb_ok, rb_exc, rb_bad, x_bind, x_pure, x_some, x_none, x_badM, x_c, x_e2, x_e1, x_tB, x_asB, chK_t, chK_f, x_eCh, pick_t, pick_f, x_andM, x_orM, x_notM, x_and, x_or, x_not, x_if, x_nil, x_cons, szL0, szL1, szL2, szL3, szL4, szL6, szL7, szL8, szL10, szT0, szT1, szT2, szT3, szT4, x_tup, x_nlst, x_call, x_ncall, x_oNone, x_oSome, x_asI, x_sl, x_flst, x_alloc, bk_ok, bk_exc, x_fun, x_funK, opt_some, x_fld, x_mt, x_meth, mkK_ok, mkK_exc, x_make, x_makeK, x_next, x_seq, th_nx, th_rt, th_bk, th_ct, th_exc, x_drop, x_sret, x_sif, x_set, asgK_some, x_asg, tg_tp, tg_nm, setAll_nil, setAll_cons, parK_ok, x_par, par3K_ok, x_par3, x_sub, x_sfld, x_for, x_iL, x_iT, x_asL, x_asT, x_iR1, x_iR2, x_nlc, raK_ok, x_raise, fin_rt, fin_nx, fin_exc, x_try, try_rt, ev0, ev1, ev2, ev3, ev4, ev5, ev6, ev7, ev8, ev9, ev10, ev11, ev12, ev13, ev14, isint_ok hty]
    · rw [Nat.zero_add, List.take_add_one, hd, List.map_append]
      rfl)
  rw [Nat.zero_add, List.take_length] at h1
  subst h1 h2 h3
  exact e
theorem bools_map {α : Type} (f : α → Bool) : ∀ ds : List α, bools (ds.map fun d => D.bl (f d)) = some (ds.map f)
  | [] => rfl
  | d :: r => by
    show (bools (r.map fun d => D.bl (f d))).map (f d :: ·) = _
    rw [bools_map f r]
    rfl
theorem v_allL {α : Type} (f : α → Bool) {ω : List OB} {ds : List α} : oAll ω [.lst (ds.map fun d => D.bl (f d))] = some (.bl ((ds.map f).all id)) := by
  show (bools (ds.map fun d => D.bl (f d))).map (fun bs => D.bl (bs.all id)) = _
  rw [bools_map]
  rfl
theorem row_fine {ω : List OB} {xs : List Int} (h0 : 0 < xs.length) (h1 : xs.length ≤ 32) : F_check_row [rowD xs] ω = .ok .non [] ω := by
  have hl := allint_lc (ω := ω) (ds := xs.map D.int) (s0 := .dat (rowD xs)) (fun d hd => by
    obtain ⟨x, _, rfl⟩ := List.mem_map.mp hd
    exact ⟨_, rfl⟩) (by rw [List.length_map]; omega)
  have ha : ((xs.map D.int).map isInt).all id = true := by
    rw [List.all_eq_true]
    intro x hx
    obtain ⟨d, hd, rfl⟩ := List.mem_map.mp hx
    obtain ⟨i, _, rfl⟩ := List.mem_map.mp hd
    rfl
  have c1 : decide ((1 : Int) ≤ ((xs.map D.int).length : Int)) = true := decide_eq_true (by rw [List.length_map]; omega)
  have c2 : decide (((xs.map D.int).length : Int) ≤ 32) = true := decide_eq_true (by rw [List.length_map]; omega)
  unfold rowD at hl ⊢
  simp only [F_check_row, m_check_row, startD, List.map_cons, List.map_nil, List.length_cons, List.length_nil, Nat.sub_self, List.replicate, List.append_nil, List.cons_append, List.nil_append, Nat.reduceSub, Nat.reduceAdd, List.set, rb_ok, rb_exc, rb_bad, x_bind, x_pure, x_some, x_none, x_badM, x_c, x_e2, x_e1, x_tB, x_asB, chK_t, chK_f, x_eCh, pick_t, pick_f, x_andM, x_orM, x_notM, x_and, x_or, x_not, x_if, x_nil, x_cons, szL0, szL1, szL2, szL3, szL4, szL6, szL7, szL8, szL10, szT0, szT1, szT2, szT3, szT4, x_tup, x_nlst, x_call, x_ncall, x_oNone, x_oSome, x_asI, x_sl, x_flst, x_alloc, bk_ok, bk_exc, x_fun, x_funK, opt_some, x_fld, x_mt, x_meth, mkK_ok, mkK_exc, x_make, x_makeK, x_next, x_seq, th_nx, th_rt, th_bk, th_ct, th_exc, x_drop, x_sret, x_sif, x_set, asgK_some, x_asg, tg_tp, tg_nm, setAll_nil, setAll_cons, parK_ok, x_par, par3K_ok, x_par3, x_sub, x_sfld, x_for, x_iL, x_iT, x_asL, x_asT, x_iR1, x_iR2, x_nlc, raK_ok, x_raise, fin_rt, fin_nx, fin_exc, x_try, try_rt, ev0, ev1, ev2, ev3, ev4, ev5, ev6, ev7, ev8, ev9, ev10, ev11, ev12, ev13, ev14, DL.v_sub, DL.v_add, DL.v_lt, DL.v_le, DL.v_gt, DL.v_ge, DL.v_fdiv2, DL.v_neg, DL.v_abs, DL.v_int, DL.v_min2, DL.v_max2, DL.v_eqI, DL.v_neI, DL.v_eqB, DL.v_neB, DL.v_isN, DL.v_notN, DL.v_isB, DL.v_e0l, DL.vL_lst, DL.isS_some, DL.v_ixL, DL.v_ixS, DL.v_ixT, DL.atI_0, DL.atI_1, DL.atI_2, DL.atI_3, DL.atI_4, DL.atI_5, DL.v_lenL, DL.v_lenS, DL.v_lenT, DL.v_lenD, DL.v_sumL, DL.v_sumT, DL.v_tupL, DL.v_tupT, DL.v_listT, DL.v_listL, DL.v_slT, DL.v_slL, DL.v_slS, DL.i_ii, DL.i_ib, DL.i_is, DL.i_id, DL.i_il, DL.i_it, DL.i_bi, DL.i_bb, DL.i_bt, DL.i_ni, DL.i_nb, DL.i_nt, DL.i_si, DL.i_sb, DL.i_ss, DL.i_st, DL.i_li, DL.i_lb, DL.i_ls, DL.i_ld, DL.i_ll, DL.i_lt, DL.i_ti, DL.i_tb, DL.i_ts, DL.i_td, DL.i_tl, DL.i_tt, DL.i_di, DL.i_db, DL.i_ds, DL.i_dd, DL.i_dt, DL.x_rev, DL.isNonD, Bool.not_true, c1, c2, Option.bind, wipeD, hl, v_allL, ha]
/-- a row that is none -/
def NoRow (ω : List OB) (d : D) : Prop := F_check_row [d] ω = .exc ⟨"InvalidRow", [("given", d)]⟩ [] ω
theorem no_kind {ω : List OB} {d : D} (h : oIsi ω [d, .ty "tuple"] = some (.bl false)) : NoRow ω d := by
  unfold NoRow
  simp only [F_check_row, m_check_row, startD, List.map, List.length, Nat.sub_self, List.replicate, List.append_nil, List.cons_append, List.nil_append, Nat.reduceSub, Nat.reduceAdd, List.set, rb_ok, rb_exc, rb_bad, x_bind, x_pure, x_some, x_none, x_badM, x_c, x_e2, x_e1, x_tB, x_asB, chK_t, chK_f, x_eCh, pick_t, pick_f, x_andM, x_orM, x_notM, x_and, x_or, x_not, x_if, x_nil, x_cons, szL0, szL1, szL2, szL3, szL4, szL6, szL7, szL8, szL10, szT0, szT1, szT2, szT3, szT4, x_tup, x_nlst, x_call, x_ncall, x_oNone, x_oSome, x_asI, x_sl, x_flst, x_alloc, bk_ok, bk_exc, x_fun, x_funK, opt_some, x_fld, x_mt, x_meth, mkK_ok, mkK_exc, x_make, x_makeK, x_next, x_seq, th_nx, th_rt, th_bk, th_ct, th_exc, x_drop, x_sret, x_sif, x_set, asgK_some, x_asg, tg_tp, tg_nm, setAll_nil, setAll_cons, parK_ok, x_par, par3K_ok, x_par3, x_sub, x_sfld, x_for, x_iL, x_iT, x_asL, x_asT, x_iR1, x_iR2, x_nlc, raK_ok, x_raise, fin_rt, fin_nx, fin_exc, x_try, try_rt, ev0, ev1, ev2, ev3, ev4, ev5, ev6, ev7, ev8, ev9, ev10, ev11, ev12, ev13, ev14, h, x_asB, Bool.not_false]
theorem no_len {ω : List OB} {ds : List D} (h : ds.length = 0 ∨ 32 < ds.length) : NoRow ω (.tup ds) := by
  unfold NoRow
  by_cases c : 1 ≤ ds.length
  · have c1 : decide ((1 : Int) ≤ (ds.length : Int)) = true := decide_eq_true (by omega)
    have c2 : decide ((ds.length : Int) ≤ 32) = false := decide_eq_false (by omega)
    simp only [F_check_row, m_check_row, startD, List.map, List.length, Nat.sub_self, List.replicate, List.append_nil, List.cons_append, List.nil_append, Nat.reduceSub, Nat.reduceAdd, List.set, rb_ok, rb_exc, rb_bad, x_bind, x_pure, x_some, x_none, x_badM, x_c, x_e2, x_e1, x_tB, x_asB, chK_t, chK_f, x_eCh, pick_t, pick_f, x_andM, x_orM, x_notM, x_and, x_or, x_not, x_if, x_nil, x_cons, szL0, szL1, szL2, szL3, szL4, szL6, szL7, szL8, szL10, szT0, szT1, szT2, szT3, szT4, x_tup, x_nlst, x_call, x_ncall, x_oNone, x_oSome, x_asI, x_sl, x_flst, x_alloc, bk_ok, bk_exc, x_fun, x_funK, opt_some, x_fld, x_mt, x_meth, mkK_ok, mkK_exc, x_make, x_makeK, x_next, x_seq, th_nx, th_rt, th_bk, th_ct, th_exc, x_drop, x_sret, x_sif, x_set, asgK_some, x_asg, tg_tp, tg_nm, setAll_nil, setAll_cons, parK_ok, x_par, par3K_ok, x_par3, x_sub, x_sfld, x_for, x_iL, x_iT, x_asL, x_asT, x_iR1, x_iR2, x_nlc, raK_ok, x_raise, fin_rt, fin_nx, fin_exc, x_try, try_rt, ev0, ev1, ev2, ev3, ev4, ev5, ev6, ev7, ev8, ev9, ev10, ev11, ev12, ev13, ev14, DL.v_sub, DL.v_add, DL.v_lt, DL.v_le, DL.v_gt, DL.v_ge, DL.v_fdiv2, DL.v_neg, DL.v_abs, DL.v_int, DL.v_min2, DL.v_max2, DL.v_eqI, DL.v_neI, DL.v_eqB, DL.v_neB, DL.v_isN, DL.v_notN, DL.v_isB, DL.v_e0l, DL.vL_lst, DL.isS_some, DL.v_ixL, DL.v_ixS, DL.v_ixT, DL.atI_0, DL.atI_1, DL.atI_2, DL.atI_3, DL.atI_4, DL.atI_5, DL.v_lenL, DL.v_lenS, DL.v_lenT, DL.v_lenD, DL.v_sumL, DL.v_sumT, DL.v_tupL, DL.v_tupT, DL.v_listT, DL.v_listL, DL.v_slT, DL.v_slL, DL.v_slS, DL.i_ii, DL.i_ib, DL.i_is, DL.i_id, DL.i_il, DL.i_it, DL.i_bi, DL.i_bb, DL.i_bt, DL.i_ni, DL.i_nb, DL.i_nt, DL.i_si, DL.i_sb, DL.i_ss, DL.i_st, DL.i_li, DL.i_lb, DL.i_ls, DL.i_ld, DL.i_ll, DL.i_lt, DL.i_ti, DL.i_tb, DL.i_ts, DL.i_td, DL.i_tl, DL.i_tt, DL.i_di, DL.i_db, DL.i_ds, DL.i_dd, DL.i_dt, DL.x_rev, DL.isNonD, Bool.not_true, c1, c2, Option.bind, Bool.not_false]
  · have c1 : decide ((1 : Int) ≤ (ds.length : Int)) = false := decide_eq_false (by omega)
    simp only [F_check_row, m_check_row, startD, List.map, List.length, Nat.sub_self, List.replicate, List.append_nil, List.cons_append, List.nil_append, Nat.reduceSub, Nat.reduceAdd, List.set, rb_ok, rb_exc, rb_bad, x_bind, x_pure, x_some, x_none, x_badM, x_c, x_e2, x_e1, x_tB, x_asB, chK_t, chK_f, x_eCh, pick_t, pick_f, x_andM, x_orM, x_notM, x_and, x_or, x_not, x_if, x_nil, x_cons, szL0, szL1, szL2, szL3, szL4, szL6, szL7, szL8, szL10, szT0, szT1, szT2, szT3, szT4, x_tup, x_nlst, x_call, x_ncall, x_oNone, x_oSome, x_asI, x_sl, x_flst, x_alloc, bk_ok, bk_exc, x_fun, x_funK, opt_some, x_fld, x_mt, x_meth, mkK_ok, mkK_exc, x_make, x_makeK, x_next, x_seq, th_nx, th_rt, th_bk, th_ct, th_exc, x_drop, x_sret, x_sif, x_set, asgK_some, x_asg, tg_tp, tg_nm, setAll_nil, setAll_cons, parK_ok, x_par, par3K_ok, x_par3, x_sub, x_sfld, x_for, x_iL, x_iT, x_asL, x_asT, x_iR1, x_iR2, x_nlc, raK_ok, x_raise, fin_rt, fin_nx, fin_exc, x_try, try_rt, ev0, ev1, ev2, ev3, ev4, ev5, ev6, ev7, ev8, ev9, ev10, ev11, ev12, ev13, ev14, DL.v_sub, DL.v_add, DL.v_lt, DL.v_le, DL.v_gt, DL.v_ge, DL.v_fdiv2, DL.v_neg, DL.v_abs, DL.v_int, DL.v_min2, DL.v_max2, DL.v_eqI, DL.v_neI, DL.v_eqB, DL.v_neB, DL.v_isN, DL.v_notN, DL.v_isB, DL.v_e0l, DL.vL_lst, DL.isS_some, DL.v_ixL, DL.v_ixS, DL.v_ixT, DL.atI_0, DL.atI_1, DL.atI_2, DL.atI_3, DL.atI_4, DL.atI_5, DL.v_lenL, DL.v_lenS, DL.v_lenT, DL.v_lenD, DL.v_sumL, DL.v_sumT, DL.v_tupL, DL.v_tupT, DL.v_listT, DL.v_listL, DL.v_slT, DL.v_slL, DL.v_slS, DL.i_ii, DL.i_ib, DL.i_is, DL.i_id, DL.i_il, DL.i_it, DL.i_bi, DL.i_bb, DL.i_bt, DL.i_ni, DL.i_nb, DL.i_nt, DL.i_si, DL.i_sb, DL.i_ss, DL.i_st, DL.i_li, DL.i_lb, DL.i_ls, DL.i_ld, DL.i_ll, DL.i_lt, DL.i_ti, DL.i_tb, DL.i_ts, DL.i_td, DL.i_tl, DL.i_tt, DL.i_di, DL.i_db, DL.i_ds, DL.i_dd, DL.i_dt, DL.x_rev, DL.isNonD, Bool.not_true, c1, Option.bind, Bool.not_false]
theorem no_item {ω : List OB} {ds : List D} (ht : ∀ d ∈ ds, ∃ t, tyN ω d = some t) (h : ∃ d ∈ ds, isInt d = false) : NoRow ω (.tup ds) := by
  by_cases hl : ds.length = 0 ∨ 32 < ds.length
  · exact no_len hl
  unfold NoRow
  have hl' := allint_lc (ω := ω) (ds := ds) (s0 := .dat (.tup ds)) ht (by omega)
  have ha : (ds.map isInt).all id = false := by
    rw [List.all_eq_false]
    obtain ⟨d, hd, hi⟩ := h
    exact ⟨false, List.mem_map.mpr ⟨d, hd, hi⟩, by simp⟩
  have c1 : decide ((1 : Int) ≤ (ds.length : Int)) = true := decide_eq_true (by omega)
  have c2 : decide ((ds.length : Int) ≤ 32) = true := decide_eq_true (by omega)
  simp only [F_check_row, m_check_row, startD, List.map_cons, List.map_nil, List.length_cons, List.length_nil, Nat.sub_self, List.replicate, List.append_nil, List.cons_append, List.nil_append, Nat.reduceSub, Nat.reduceAdd, List.set, rb_ok, rb_exc, rb_bad, x_bind, x_pure, x_some, x_none, x_badM, x_c, x_e2, x_e1, x_tB, x_asB, chK_t, chK_f, x_eCh, pick_t, pick_f, x_andM, x_orM, x_notM, x_and, x_or, x_not, x_if, x_nil, x_cons, szL0, szL1, szL2, szL3, szL4, szL6, szL7, szL8, szL10, szT0, szT1, szT2, szT3, szT4, x_tup, x_nlst, x_call, x_ncall, x_oNone, x_oSome, x_asI, x_sl, x_flst, x_alloc, bk_ok, bk_exc, x_fun, x_funK, opt_some, x_fld, x_mt, x_meth, mkK_ok, mkK_exc, x_make, x_makeK, x_next, x_seq, th_nx, th_rt, th_bk, th_ct, th_exc, x_drop, x_sret, x_sif, x_set, asgK_some, x_asg, tg_tp, tg_nm, setAll_nil, setAll_cons, parK_ok, x_par, par3K_ok, x_par3, x_sub, x_sfld, x_for, x_iL, x_iT, x_asL, x_asT, x_iR1, x_iR2, x_nlc, raK_ok, x_raise, fin_rt, fin_nx, fin_exc, x_try, try_rt, ev0, ev1, ev2, ev3, ev4, ev5, ev6, ev7, ev8, ev9, ev10, ev11, ev12, ev13, ev14, DL.v_sub, DL.v_add, DL.v_lt, DL.v_le, DL.v_gt, DL.v_ge, DL.v_fdiv2, DL.v_neg, DL.v_abs, DL.v_int, DL.v_min2, DL.v_max2, DL.v_eqI, DL.v_neI, DL.v_eqB, DL.v_neB, DL.v_isN, DL.v_notN, DL.v_isB, DL.v_e0l, DL.vL_lst, DL.isS_some, DL.v_ixL, DL.v_ixS, DL.v_ixT, DL.atI_0, DL.atI_1, DL.atI_2, DL.atI_3, DL.atI_4, DL.atI_5, DL.v_lenL, DL.v_lenS, DL.v_lenT, DL.v_lenD, DL.v_sumL, DL.v_sumT, DL.v_tupL, DL.v_tupT, DL.v_listT, DL.v_listL, DL.v_slT, DL.v_slL, DL.v_slS, DL.i_ii, DL.i_ib, DL.i_is, DL.i_id, DL.i_il, DL.i_it, DL.i_bi, DL.i_bb, DL.i_bt, DL.i_ni, DL.i_nb, DL.i_nt, DL.i_si, DL.i_sb, DL.i_ss, DL.i_st, DL.i_li, DL.i_lb, DL.i_ls, DL.i_ld, DL.i_ll, DL.i_lt, DL.i_ti, DL.i_tb, DL.i_ts, DL.i_td, DL.i_tl, DL.i_tt, DL.i_di, DL.i_db, DL.i_ds, DL.i_dd, DL.i_dt, DL.x_rev, DL.isNonD, Bool.not_true, c1, c2, Option.bind, wipeD, hl', v_allL, ha, Bool.not_false]

/-! ### making -/
theorem ne_kept_size : ¬ (("size" : Str) = "kept") := by decide +kernel
theorem ne_tops_size : ¬ (("size" : Str) = "tops") := by decide +kernel
theorem ne_tops_kept : ¬ (("kept" : Str) = "tops") := by decide +kernel
theorem ne_par_size : ¬ (("size" : Str) = "parents") := by decide +kernel
theorem ne_par_kept : ¬ (("kept" : Str) = "parents") := by decide +kernel
theorem ne_par_tops : ¬ (("tops" : Str) = "parents") := by decide +kernel
theorem put1 {a : D} : putD "size" a [] = [(("size" : Str), a)] := rfl
theorem put2 {a b : D} : putD "kept" b [(("size" : Str), a)] = [(("size" : Str), a), (("kept" : Str), b)] := by
  simp only [putD, if_neg ne_kept_size]
theorem put3 {a b c : D} : putD "tops" c [(("size" : Str), a), (("kept" : Str), b)] = [(("size" : Str), a), (("kept" : Str), b), (("tops" : Str), c)] := by
  simp only [putD, if_neg ne_tops_size, if_neg ne_tops_kept]
theorem put4 {a b c d : D} : putD "parents" d [(("size" : Str), a), (("kept" : Str), b), (("tops" : Str), c)] = [(("size" : Str), a), (("kept" : Str), b), (("tops" : Str), c), (("parents" : Str), d)] := by
  simp only [putD, if_neg ne_par_size, if_neg ne_par_kept, if_neg ne_par_tops]
section
variable {ω : List OB} {x y z u w : OB}
theorem len3 : (ω ++ [x] ++ [y]).length = ω.length + 2 := by simp
theorem len4 : (ω ++ [x] ++ [y] ++ [z]).length = ω.length + 3 := by simp
theorem three0 : (ω ++ [x] ++ [y] ++ [z])[ω.length]? = some x := by
  rw [List.getElem?_append_left (by simp)]
  exact two0
theorem setT0 : (ω ++ [x] ++ [y] ++ [z]).set ω.length w = ω ++ [w] ++ [y] ++ [z] := by
  rw [List.set_append_left _ _ (by simp), set0]
theorem four0 : (ω ++ [x] ++ [y] ++ [z] ++ [u])[ω.length]? = some x := by
  rw [List.getElem?_append_left (by simp)]
  exact three0
theorem setF0 : (ω ++ [x] ++ [y] ++ [z] ++ [u]).set ω.length w = ω ++ [w] ++ [y] ++ [z] ++ [u] := by
  rw [List.set_append_left _ _ (by simp), setT0]
end
def mk4 (C : Addr) (n : Nat) (M : List Nd) (a : Nat) (ω : List OB) : List OB := ω ++ [.ins C (vf n (ω.length + 1) (ω.length + 2) (ω.length + 3))] ++ [.lst (M.map ndD)] ++ [.lst [.int a]] ++ [.lst [.non]]
theorem sfld {C : Addr} {h : Nat} {fs : List (Str × D)} {x : Str} {y : D} {γ : List SD} {ω : List OB} (e : ω[h]? = some (.ins C fs)) (hl : fs.length < 900) : fldK C (.obj h) x y γ ω = .ok .nx γ (ω.set h (.ins C (putD x y fs))) := fldK_ok e hl
theorem init_ok {C : Addr} {ω : List OB} {xs : List Int} (h0 : 0 < xs.length) (h1 : xs.length ≤ 32) : ∃ (M : List Nd) (a : Nat), F_Versions_init C [.obj ω.length, rowD xs] (ω ++ [.ins C []]) = .ok .non [] (mk4 C xs.length M a ω) ∧ Tr M (at0 xs) a 0 xs.length ∧ M.length + 1 = 2 * xs.length := by
  have lk : ([("size", D.int xs.length), ("kept", D.obj (ω.length + 1))] : List (Str × D)).lookup ("kept" : Str) = some (D.obj (ω.length + 1)) := by rfl
  have l1 : ([("size", D.int xs.length), ("kept", D.obj (ω.length + 1))] : List (Str × D)).lookup ("keep" : Str) = none := by rfl
  have l2 : ([("size", D.int xs.length), ("kept", D.obj (ω.length + 1))] : List (Str × D)).lookup ("grow" : Str) = none := by rfl
  obtain ⟨a, M, e, _, hm, tr⟩ := grow_ok (C := C) (v := ω.length) (kt := ω.length + 1) (xs := xs) lk l1 l2 6 0 xs.length (ω ++ [.ins C [("size", .int xs.length), ("kept", .obj (ω.length + 1))]] ++ [.lst []]) [] two0 two1 h0 (Nat.le_refl _) (by simp; omega) (by simp; omega)
  rw [set1] at e
  refine ⟨M, a, ?_, tr, by simp at hm; omega⟩
  have g1 : ∀ γ y, fldK C (.obj ω.length) "size" y γ (ω ++ [.ins C []]) = .ok .nx γ (ω ++ [.ins C [("size", y)]]) := fun γ y => by rw [sfld new_at (by simp), new_set, put1]
  have g2 : ∀ γ x y, fldK C (.obj ω.length) "kept" y γ (ω ++ [.ins C [("size", x)]] ++ [.lst []]) = .ok .nx γ (ω ++ [.ins C [("size", x), ("kept", y)]] ++ [.lst []]) := fun γ x y => by rw [sfld two0 (by simp), set0, put2]
  have g3 : ∀ γ x y z a b, fldK C (.obj ω.length) "tops" z γ (ω ++ [.ins C [("size", x), ("kept", y)]] ++ [a] ++ [b]) = .ok .nx γ (ω ++ [.ins C [("size", x), ("kept", y), ("tops", z)]] ++ [a] ++ [b]) := fun γ x y z a b => by rw [sfld three0 (by simp), setT0, put3]
  have g4 : ∀ γ x y z u a b c, fldK C (.obj ω.length) "parents" u γ (ω ++ [.ins C [("size", x), ("kept", y), ("tops", z)]] ++ [a] ++ [b] ++ [c]) = .ok .nx γ (ω ++ [.ins C [("size", x), ("kept", y), ("tops", z), ("parents", u)]] ++ [a] ++ [b] ++ [c]) := fun γ x y z u a b c => by rw [sfld four0 (by simp), setF0, put4]
  have hlen : ∀ ω, oLen2 ω [rowD xs] = some (.int xs.length) := fun ω => by
    unfold rowD
    rw [DL.v_lenT, List.length_map]
  have hm : ∀ w, isI C (ω ++ [OB.ins C [("size", .int xs.length), ("kept", .obj (ω.length + 1))]] ++ [w]) (.obj ω.length) "grow" = true := fun w => isI_ok two0 l2
  have e' : F_Versions_grow C 7 [.obj ω.length, rowD xs, .int 0, .int xs.length] (ω ++ [.ins C [("size", .int xs.length), ("kept", .obj (ω.length + 1))]] ++ [.lst []]) = _ := e
  simp only [F_Versions_init, m_Versions_init, startD, List.map, List.length, Nat.sub_self, List.replicate, List.append_nil, List.cons_append, List.nil_append, Nat.reduceSub, Nat.reduceAdd, List.set, rb_ok, rb_exc, rb_bad, x_bind, x_pure, x_some, x_none, x_badM, x_c, x_e2, x_e1, x_tB, x_asB, chK_t, chK_f, x_eCh, pick_t, pick_f, x_andM, x_orM, x_notM, x_and, x_or, x_not, x_if, x_nil, x_cons, szL0, szL1, szL2, szL3, szL4, szL6, szL7, szL8, szL10, szT0, szT1, szT2, szT3, szT4, x_tup, x_nlst, x_call, x_ncall, x_oNone, x_oSome, x_asI, x_sl, x_flst, x_alloc, bk_ok, bk_exc, x_fun, x_funK, opt_some, x_fld, x_mt, x_meth, mkK_ok, mkK_exc, x_make, x_makeK, x_next, x_seq, th_nx, th_rt, th_bk, th_ct, th_exc, x_drop, x_sret, x_sif, x_set, asgK_some, x_asg, tg_tp, tg_nm, setAll_nil, setAll_cons, parK_ok, x_par, par3K_ok, x_par3, x_sub, x_sfld, x_for, x_iL, x_iT, x_asL, x_asT, x_iR1, x_iR2, x_nlc, raK_ok, x_raise, fin_rt, fin_nx, fin_exc, x_try, try_rt, ev0, ev1, ev2, ev3, ev4, ev5, ev6, ev7, ev8, ev9, ev10, ev11, ev12, ev13, ev14, row_fine h0 h1, hlen, g1, len1, g2, hm, e', len3, g3, len4, g4]
  rfl
end K80

set_option Elab.async false
set_option linter.all false
set_option maxRecDepth 100000
set_option maxHeartbeats 2000000
namespace K80
open PySem PySem.Spec PyProof.Rows L2 DL

/-! ### made -/
theorem made_ok {C : Addr} {ω : List OB} {xs : List Int} {g : Bool} (h0 : 0 < xs.length) (h1 : xs.length ≤ 32) : ∃ (M : List Nd) (a : Nat), F__law_made C [rowD xs, .bl g] ω = .ok (.lst [.str "told", .obj ω.length]) [] (mk4 C xs.length M a ω) ∧ Tr M (at0 xs) a 0 xs.length ∧ M.length + 1 = 2 * xs.length := by
  obtain ⟨M, a, e, tr, hm⟩ := init_ok (C := C) (ω := ω) h0 h1
  refine ⟨M, a, ?_, tr, hm⟩
  cases g with
  | false => simp only [F__law_made, m__law_made, startD, List.map, List.length, Nat.sub_self, List.replicate, List.append_nil, List.cons_append, List.nil_append, Nat.reduceSub, Nat.reduceAdd, List.set, rb_ok, rb_exc, rb_bad, x_bind, x_pure, x_some, x_none, x_badM, x_c, x_e2, x_e1, x_tB, x_asB, chK_t, chK_f, x_eCh, pick_t, pick_f, x_andM, x_orM, x_notM, x_and, x_or, x_not, x_if, x_nil, x_cons, szL0, szL1, szL2, szL3, szL4, szL6, szL7, szL8, szL10, szT0, szT1, szT2, szT3, szT4, x_tup, x_nlst, x_call, x_ncall, x_oNone, x_oSome, x_asI, x_sl, x_flst, x_alloc, bk_ok, bk_exc, x_fun, x_funK, opt_some, x_fld, x_mt, x_meth, mkK_ok, mkK_exc, x_make, x_makeK, x_next, x_seq, th_nx, th_rt, th_bk, th_ct, th_exc, x_drop, x_sret, x_sif, x_set, asgK_some, x_asg, tg_tp, tg_nm, setAll_nil, setAll_cons, parK_ok, x_par, par3K_ok, x_par3, x_sub, x_sfld, x_for, x_iL, x_iT, x_asL, x_asT, x_iR1, x_iR2, x_nlc, raK_ok, x_raise, fin_rt, fin_nx, fin_exc, x_try, try_rt, ev0, ev1, ev2, ev3, ev4, ev5, ev6, ev7, ev8, ev9, ev10, ev11, ev12, ev13, ev14, DL.v_sub, DL.v_add, DL.v_lt, DL.v_le, DL.v_gt, DL.v_ge, DL.v_fdiv2, DL.v_neg, DL.v_abs, DL.v_int, DL.v_min2, DL.v_max2, DL.v_eqI, DL.v_neI, DL.v_eqB, DL.v_neB, DL.v_isN, DL.v_notN, DL.v_isB, DL.v_e0l, DL.vL_lst, DL.isS_some, DL.v_ixL, DL.v_ixS, DL.v_ixT, DL.atI_0, DL.atI_1, DL.atI_2, DL.atI_3, DL.atI_4, DL.atI_5, DL.v_lenL, DL.v_lenS, DL.v_lenT, DL.v_lenD, DL.v_sumL, DL.v_sumT, DL.v_tupL, DL.v_tupT, DL.v_listT, DL.v_listL, DL.v_slT, DL.v_slL, DL.v_slS, DL.i_ii, DL.i_ib, DL.i_is, DL.i_id, DL.i_il, DL.i_it, DL.i_bi, DL.i_bb, DL.i_bt, DL.i_ni, DL.i_nb, DL.i_nt, DL.i_si, DL.i_sb, DL.i_ss, DL.i_st, DL.i_li, DL.i_lb, DL.i_ls, DL.i_ld, DL.i_ll, DL.i_lt, DL.i_ti, DL.i_tb, DL.i_ts, DL.i_td, DL.i_tl, DL.i_tt, DL.i_di, DL.i_db, DL.i_ds, DL.i_dd, DL.i_dt, DL.x_rev, DL.isNonD, pm1, e]
  | true => simp only [F__law_made, m__law_made, startD, List.map, List.length, Nat.sub_self, List.replicate, List.append_nil, List.cons_append, List.nil_append, Nat.reduceSub, Nat.reduceAdd, List.set, rb_ok, rb_exc, rb_bad, x_bind, x_pure, x_some, x_none, x_badM, x_c, x_e2, x_e1, x_tB, x_asB, chK_t, chK_f, x_eCh, pick_t, pick_f, x_andM, x_orM, x_notM, x_and, x_or, x_not, x_if, x_nil, x_cons, szL0, szL1, szL2, szL3, szL4, szL6, szL7, szL8, szL10, szT0, szT1, szT2, szT3, szT4, x_tup, x_nlst, x_call, x_ncall, x_oNone, x_oSome, x_asI, x_sl, x_flst, x_alloc, bk_ok, bk_exc, x_fun, x_funK, opt_some, x_fld, x_mt, x_meth, mkK_ok, mkK_exc, x_make, x_makeK, x_next, x_seq, th_nx, th_rt, th_bk, th_ct, th_exc, x_drop, x_sret, x_sif, x_set, asgK_some, x_asg, tg_tp, tg_nm, setAll_nil, setAll_cons, parK_ok, x_par, par3K_ok, x_par3, x_sub, x_sfld, x_for, x_iL, x_iT, x_asL, x_asT, x_iR1, x_iR2, x_nlc, raK_ok, x_raise, fin_rt, fin_nx, fin_exc, x_try, try_rt, ev0, ev1, ev2, ev3, ev4, ev5, ev6, ev7, ev8, ev9, ev10, ev11, ev12, ev13, ev14, DL.v_sub, DL.v_add, DL.v_lt, DL.v_le, DL.v_gt, DL.v_ge, DL.v_fdiv2, DL.v_neg, DL.v_abs, DL.v_int, DL.v_min2, DL.v_max2, DL.v_eqI, DL.v_neI, DL.v_eqB, DL.v_neB, DL.v_isN, DL.v_notN, DL.v_isB, DL.v_e0l, DL.vL_lst, DL.isS_some, DL.v_ixL, DL.v_ixS, DL.v_ixT, DL.atI_0, DL.atI_1, DL.atI_2, DL.atI_3, DL.atI_4, DL.atI_5, DL.v_lenL, DL.v_lenS, DL.v_lenT, DL.v_lenD, DL.v_sumL, DL.v_sumT, DL.v_tupL, DL.v_tupT, DL.v_listT, DL.v_listL, DL.v_slT, DL.v_slL, DL.v_slS, DL.i_ii, DL.i_ib, DL.i_is, DL.i_id, DL.i_il, DL.i_it, DL.i_bi, DL.i_bb, DL.i_bt, DL.i_ni, DL.i_nb, DL.i_nt, DL.i_si, DL.i_sb, DL.i_ss, DL.i_st, DL.i_li, DL.i_lb, DL.i_ls, DL.i_ld, DL.i_ll, DL.i_lt, DL.i_ti, DL.i_tb, DL.i_ts, DL.i_td, DL.i_tl, DL.i_tt, DL.i_di, DL.i_db, DL.i_ds, DL.i_dd, DL.i_dt, DL.x_rev, DL.isNonD, pm1, e]
theorem try_m {d : D} {a0 a1 a2 : SD} {ω : List OB} : tryK kn__law_made subE [⟨"InvalidRow", some 2, uWord "row" "given"⟩] (.exc ⟨"InvalidRow", [("given", d)]⟩ [a0, a1, a2] ω) = .ok (.rt (.lst [.str "row", d])) [a0, a1, .no] ω := by
  simp [tryK, handle, subE, Hd.go, uWord, kn__law_made, Res.shut, Res.unname]
theorem made_no {C : Addr} {ω : List OB} {d : D} {g : Bool} (h : NoRow (ω ++ [.ins C []]) d) : F__law_made C [d, .bl g] ω = .ok (.lst [.str "row", d]) [] (ω ++ [.ins C []]) := by
  unfold NoRow at h
  have e : F_Versions_init C [.obj ω.length, d] (ω ++ [.ins C []]) = .exc ⟨"InvalidRow", [("given", d)]⟩ [] (ω ++ [.ins C []]) := by
    simp only [F_Versions_init, m_Versions_init, startD, List.map, List.length, Nat.sub_self, List.replicate, List.append_nil, List.cons_append, List.nil_append, Nat.reduceSub, Nat.reduceAdd, List.set, rb_ok, rb_exc, rb_bad, x_bind, x_pure, x_some, x_none, x_badM, x_c, x_e2, x_e1, x_tB, x_asB, chK_t, chK_f, x_eCh, pick_t, pick_f, x_andM, x_orM, x_notM, x_and, x_or, x_not, x_if, x_nil, x_cons, szL0, szL1, szL2, szL3, szL4, szL6, szL7, szL8, szL10, szT0, szT1, szT2, szT3, szT4, x_tup, x_nlst, x_call, x_ncall, x_oNone, x_oSome, x_asI, x_sl, x_flst, x_alloc, bk_ok, bk_exc, x_fun, x_funK, opt_some, x_fld, x_mt, x_meth, mkK_ok, mkK_exc, x_make, x_makeK, x_next, x_seq, th_nx, th_rt, th_bk, th_ct, th_exc, x_drop, x_sret, x_sif, x_set, asgK_some, x_asg, tg_tp, tg_nm, setAll_nil, setAll_cons, parK_ok, x_par, par3K_ok, x_par3, x_sub, x_sfld, x_for, x_iL, x_iT, x_asL, x_asT, x_iR1, x_iR2, x_nlc, raK_ok, x_raise, fin_rt, fin_nx, fin_exc, x_try, try_rt, ev0, ev1, ev2, ev3, ev4, ev5, ev6, ev7, ev8, ev9, ev10, ev11, ev12, ev13, ev14, h]
  cases g with
  | false => simp only [F__law_made, m__law_made, startD, List.map, List.length, Nat.sub_self, List.replicate, List.append_nil, List.cons_append, List.nil_append, Nat.reduceSub, Nat.reduceAdd, List.set, rb_ok, rb_exc, rb_bad, x_bind, x_pure, x_some, x_none, x_badM, x_c, x_e2, x_e1, x_tB, x_asB, chK_t, chK_f, x_eCh, pick_t, pick_f, x_andM, x_orM, x_notM, x_and, x_or, x_not, x_if, x_nil, x_cons, szL0, szL1, szL2, szL3, szL4, szL6, szL7, szL8, szL10, szT0, szT1, szT2, szT3, szT4, x_tup, x_nlst, x_call, x_ncall, x_oNone, x_oSome, x_asI, x_sl, x_flst, x_alloc, bk_ok, bk_exc, x_fun, x_funK, opt_some, x_fld, x_mt, x_meth, mkK_ok, mkK_exc, x_make, x_makeK, x_next, x_seq, th_nx, th_rt, th_bk, th_ct, th_exc, x_drop, x_sret, x_sif, x_set, asgK_some, x_asg, tg_tp, tg_nm, setAll_nil, setAll_cons, parK_ok, x_par, par3K_ok, x_par3, x_sub, x_sfld, x_for, x_iL, x_iT, x_asL, x_asT, x_iR1, x_iR2, x_nlc, raK_ok, x_raise, fin_rt, fin_nx, fin_exc, x_try, try_rt, ev0, ev1, ev2, ev3, ev4, ev5, ev6, ev7, ev8, ev9, ev10, ev11, ev12, ev13, ev14, DL.v_sub, DL.v_add, DL.v_lt, DL.v_le, DL.v_gt, DL.v_ge, DL.v_fdiv2, DL.v_neg, DL.v_abs, DL.v_int, DL.v_min2, DL.v_max2, DL.v_eqI, DL.v_neI, DL.v_eqB, DL.v_neB, DL.v_isN, DL.v_notN, DL.v_isB, DL.v_e0l, DL.vL_lst, DL.isS_some, DL.v_ixL, DL.v_ixS, DL.v_ixT, DL.atI_0, DL.atI_1, DL.atI_2, DL.atI_3, DL.atI_4, DL.atI_5, DL.v_lenL, DL.v_lenS, DL.v_lenT, DL.v_lenD, DL.v_sumL, DL.v_sumT, DL.v_tupL, DL.v_tupT, DL.v_listT, DL.v_listL, DL.v_slT, DL.v_slL, DL.v_slS, DL.i_ii, DL.i_ib, DL.i_is, DL.i_id, DL.i_il, DL.i_it, DL.i_bi, DL.i_bb, DL.i_bt, DL.i_ni, DL.i_nb, DL.i_nt, DL.i_si, DL.i_sb, DL.i_ss, DL.i_st, DL.i_li, DL.i_lb, DL.i_ls, DL.i_ld, DL.i_ll, DL.i_lt, DL.i_ti, DL.i_tb, DL.i_ts, DL.i_td, DL.i_tl, DL.i_tt, DL.i_di, DL.i_db, DL.i_ds, DL.i_dd, DL.i_dt, DL.x_rev, DL.isNonD, pm1, e, try_m]
  | true => simp only [F__law_made, m__law_made, startD, List.map, List.length, Nat.sub_self, List.replicate, List.append_nil, List.cons_append, List.nil_append, Nat.reduceSub, Nat.reduceAdd, List.set, rb_ok, rb_exc, rb_bad, x_bind, x_pure, x_some, x_none, x_badM, x_c, x_e2, x_e1, x_tB, x_asB, chK_t, chK_f, x_eCh, pick_t, pick_f, x_andM, x_orM, x_notM, x_and, x_or, x_not, x_if, x_nil, x_cons, szL0, szL1, szL2, szL3, szL4, szL6, szL7, szL8, szL10, szT0, szT1, szT2, szT3, szT4, x_tup, x_nlst, x_call, x_ncall, x_oNone, x_oSome, x_asI, x_sl, x_flst, x_alloc, bk_ok, bk_exc, x_fun, x_funK, opt_some, x_fld, x_mt, x_meth, mkK_ok, mkK_exc, x_make, x_makeK, x_next, x_seq, th_nx, th_rt, th_bk, th_ct, th_exc, x_drop, x_sret, x_sif, x_set, asgK_some, x_asg, tg_tp, tg_nm, setAll_nil, setAll_cons, parK_ok, x_par, par3K_ok, x_par3, x_sub, x_sfld, x_for, x_iL, x_iT, x_asL, x_asT, x_iR1, x_iR2, x_nlc, raK_ok, x_raise, fin_rt, fin_nx, fin_exc, x_try, try_rt, ev0, ev1, ev2, ev3, ev4, ev5, ev6, ev7, ev8, ev9, ev10, ev11, ev12, ev13, ev14, DL.v_sub, DL.v_add, DL.v_lt, DL.v_le, DL.v_gt, DL.v_ge, DL.v_fdiv2, DL.v_neg, DL.v_abs, DL.v_int, DL.v_min2, DL.v_max2, DL.v_eqI, DL.v_neI, DL.v_eqB, DL.v_neB, DL.v_isN, DL.v_notN, DL.v_isB, DL.v_e0l, DL.vL_lst, DL.isS_some, DL.v_ixL, DL.v_ixS, DL.v_ixT, DL.atI_0, DL.atI_1, DL.atI_2, DL.atI_3, DL.atI_4, DL.atI_5, DL.v_lenL, DL.v_lenS, DL.v_lenT, DL.v_lenD, DL.v_sumL, DL.v_sumT, DL.v_tupL, DL.v_tupT, DL.v_listT, DL.v_listL, DL.v_slT, DL.v_slL, DL.v_slS, DL.i_ii, DL.i_ib, DL.i_is, DL.i_id, DL.i_il, DL.i_it, DL.i_bi, DL.i_bb, DL.i_bt, DL.i_ni, DL.i_nb, DL.i_nt, DL.i_si, DL.i_sb, DL.i_ss, DL.i_st, DL.i_li, DL.i_lb, DL.i_ls, DL.i_ld, DL.i_ll, DL.i_lt, DL.i_ti, DL.i_tb, DL.i_ts, DL.i_td, DL.i_tl, DL.i_tt, DL.i_di, DL.i_db, DL.i_ds, DL.i_dd, DL.i_dt, DL.x_rev, DL.isNonD, pm1, e, try_m]

/-! ### a step -/
section
variable {C : Addr} {b k v kt tp pa rs ps n : Nat} {N M : List Nd} {T : List Nat} {P : List D} {RR : List (List Int)} {ω ω' : List OB}
theorem Life.less {k' : Nat} (l : Life C b k v kt tp pa rs ps n N T P RR ω) (h : k' ≤ k) : Life C b k' v kt tp pa rs ps n N T P RR ω := l.ext (Ext.refl _ _) (l.bx.mono h)
theorem Life.number (l : Life C b (k + 5) v kt tp pa rs ps n N T P RR ω) : ∃ (x : Int) (ω' : List OB), F__law_number [.obj b] ω = .ok (.int x) [] ω' ∧ Life C b k v kt tp pa rs ps n N T P RR ω' ∧ Ext [b] ω ω' := by
  obtain ⟨x, ω', e, ex, bo⟩ := number_ok l.bx
  exact ⟨x, ω', e, l.ext ex bo, ex⟩
theorem Life.grow {a' j : Nat} {xs : List Int} (l : Life C b k v kt tp pa rs ps n N T P RR ω) (s' : VS C v kt tp pa n M (T ++ [a']) (P ++ [.int j]) ω') (e : Ext [kt, tp, pa] ω ω') (pN : N <+: M) (hx : xs.length = n) (tr' : Tr M (at0 xs) a' 0 n) :
    Life C b k v kt tp pa rs ps n M (T ++ [a']) (P ++ [.int j]) (RR ++ [xs]) ((ω'.set rs (.lst ((RR ++ [xs]).map rowD))).set ps (.lst (P ++ [.int j]))) := by
  obtain ⟨d1, d2, d3, d4, d5, d6⟩ := l.db
  obtain ⟨r1, r2, r3, r4, r5⟩ := l.dr
  obtain ⟨p1, p2, p3, p4⟩ := l.dp
  have hr := e.at l.hr (by simp [r2, r3, r4])
  have hq := e.at l.hq (by simp [p2, p3, p4])
  have hq1 := at_set (y := OB.lst ((RR ++ [xs]).map rowD)) hq r5.symm
  have hr1 := set_at (y := OB.lst ((RR ++ [xs]).map rowD)) hr
  have ex : Ext [rs, ps] ω' ((ω'.set rs (.lst ((RR ++ [xs]).map rowD))).set ps (.lst (P ++ [.int j]))) := (Ext.set (by simp)).trans (Ext.set (by simp))
  refine ⟨s'.ext ex ⟨by simp [r1.symm, p1.symm], by simp [r2.symm, p2.symm], by simp [r3.symm, p3.symm], by simp [r4.symm, p4.symm]⟩, (l.bx.ext e (by simp [d2, d3, d4])).ext ex (by simp [d5, d6]), at_set hr1 r5, set_at hq1, by simp [l.lr], by simp, l.n0, l.n1, ?_, ?_, ?_, l.db, l.dr, l.dp⟩
  · intro ys hy
    rcases List.mem_append.mp hy with h | h
    · exact l.ln ys h
    · rw [List.mem_singleton.mp h]
      exact hx
  · intro i c ys hT hR
    by_cases hi : i < T.length
    · rw [List.getElem?_append_left hi] at hT
      rw [List.getElem?_append_left (by rw [l.lr]; exact hi)] at hR
      exact (l.tr i c ys hT hR).mono pN
    · have h1 := (List.getElem?_eq_some_iff.mp hT).1
      rw [List.length_append, List.length_singleton] at h1
      have hi' : i = T.length := by omega
      subst hi'
      rw [List.getElem?_append_right (Nat.le_refl _)] at hT
      rw [List.getElem?_append_right (by rw [l.lr]; exact Nat.le_refl _), l.lr] at hR
      rw [Nat.sub_self] at hT hR
      cases hT
      cases hR
      exact tr'
  · intro p hp
    rcases List.mem_append.mp hp with h | h
    · exact l.pp p h
    · rw [List.mem_singleton.mp h]
      exact .int
theorem at0_set {xs : List Int} {i : Nat} {x : Int} (hi : i < xs.length) : ∀ m, upd1 (at0 xs) i x m = at0 (xs.set i x) m := fun m => by
  unfold upd1 at0
  by_cases h : m = i
  · subst h
    rw [if_pos rfl]
    simp [hi]
  · rw [if_neg h]
    simp [List.getElem?_set_ne (Ne.symm h)]
theorem cut_take {ω : List OB} {xs : List Int} {i : Nat} (h : i ≤ xs.length) : oSl ω (rowD xs) none (some (i : Int)) = some (rowD (xs.take i)) := by
  unfold rowD
  rw [DL.v_slT]
  unfold DL.cutD
  rw [HT.sIx_none, HT.sIx_nat, List.length_map, Nat.min_eq_left h, List.map_take]
  simp
theorem cut_drop {ω : List OB} {xs : List Int} {i : Nat} (h : i ≤ xs.length) : oSl ω (rowD xs) (some (i : Int)) none = some (rowD (xs.drop i)) := by
  unfold rowD
  rw [DL.v_slT]
  unfold DL.cutD
  rw [HT.sIx_none, HT.sIx_nat, List.length_map, Nat.min_eq_left h, List.map_drop, List.take_of_length_le (by simp)]
theorem cat_row {ω : List OB} {xs ys : List Int} (h : xs.length + ys.length ≤ 1000) : oAdd ω (rowD xs) (rowD ys) = some (rowD (xs ++ ys)) := by
  unfold rowD
  rw [DL.v_addT (by rw [List.length_map, List.length_map]; omega), List.map_append]
theorem set_cut {xs : List Int} {i : Nat} {x : Int} (h : i < xs.length) : xs.take i ++ [x] ++ xs.drop (i + 1) = xs.set i x := by
  rw [List.set_eq_take_append_cons_drop, if_pos h, List.append_assoc]
  rfl
theorem step_ok {row : List Int} {steps t : Nat} {g : Bool} {s9 s10 s11 s12 s13 s14 : SD} (l : Life C b (k + 24) v kt tp pa rs ps n N T P RR ω) (hrow : row.length = n) (hT : T.length < 100) (hN : N.length < 4000) :
    ∃ (γ' : List SD) (ω' : List OB) (M : List Nd) (T' : List Nat) (P' : List D) (RR' : List (List Int)) (z9 z10 z11 z12 z13 z14 : SD), fb__law_life_right_1 C [.dat (.obj b), .dat (rowD row), .dat (.int steps), .dat (.bl g), .dat (.obj v), .dat (.obj rs), .dat (.obj ps), .dat (.int ((digits n : Int) + 1)), .dat (.int N.length), .dat (.int t), s10, s11, s12, s13, s14] ω = .ok .nx γ' ω' ∧
      γ' = [.dat (.obj b), .dat (rowD row), .dat (.int steps), .dat (.bl (!g)), .dat (.obj v), .dat (.obj rs), .dat (.obj ps), .dat (.int ((digits n : Int) + 1)), .dat (.int M.length), z9, z10, z11, z12, z13, z14] ∧ Life C b k v kt tp pa rs ps n M T' P' RR' ω' ∧ T'.length = T.length + 1 ∧ M.length ≤ N.length + 7 := by
  have n0 := l.n0
  have n1 := l.n1
  have lr := l.lr
  have t0 := l.t0
  obtain ⟨j, ω1, hj, e1, l1, _⟩ := l.take (m := RR.length) (by omega) (by omega)
  obtain ⟨i, ω2, hi, e2, l2, _⟩ := l1.take (m := n) (by omega) (by omega)
  have l2' : Life C b ((k + 17) + 5) v kt tp pa rs ps n N T P RR ω2 := l2
  obtain ⟨x0, ω3, e3, l3, _⟩ := l2'.number
  have l3' : Life C b ((k + 16) + 1) v kt tp pa rs ps n N T P RR ω3 := l3
  obtain ⟨d, ω4, hd, e4, l4, _⟩ := l3'.take (m := 5) (by omega) (by omega)
  have e4 : F__law_take [.obj b, .int 5] ω3 = _ := e4
  obtain ⟨a, xs, p, g1, g2, g3, g4, g5, g6⟩ := l.at (j := j) (by omega)
  obtain ⟨x, hsel⟩ : ∃ x : Int, (decide ((d : Int) = 0) = true ∧ x = at0 xs i) ∨ (decide ((d : Int) = 0) = false ∧ x = x0) := by
    cases h : decide ((d : Int) = 0) with
    | true => exact ⟨_, .inl ⟨rfl, rfl⟩⟩
    | false => exact ⟨_, .inr ⟨rfl, rfl⟩⟩
  have hdg : digits n ≤ 6 := digits_le 6 n (by omega)
  have hlt := lt_digits n
  obtain ⟨M, a', ω5, e5, s5, pN, hM1, hM2, tr5, x5⟩ := change_ok (k := digits n) (x := x) l4.vs g1 g5 hi hT (by omega) (by omega) (by omega)
  have hai : F__law_asked C [.obj v, .str "set", .lst [.int j, .int i, .int x], .bl g] ω4 = .ok (.lst [.str "told", .int RR.length]) [] ω5 := by
    rw [ask_set (l4.m (by decide +kernel)) (by rw [e5]; trivial), e5, lr]
    rfl
  have tr6 : Tr M (at0 (xs.set i x)) a' 0 n := tr5.congr fun m _ _ => at0_set (by omega) m
  have l6 := Life.grow (k := k + 16) l4 s5 x5 pN (xs := xs.set i x) (by simp [g4]) tr6
  obtain ⟨d1, d2, d3, d4, d5, d6⟩ := l.db
  obtain ⟨r1, r2, r3, r4, r5⟩ := l.dr
  obtain ⟨p1, p2, p3, p4⟩ := l.dp
  have hr5 := x5.at l4.hr (by simp [r2, r3, r4])
  have hq5 := x5.at l4.hq (by simp [p2, p3, p4])
  have hq6 := at_set (y := OB.lst ((RR ++ [xs.set i x]).map rowD)) hq5 r5.symm
  have ap1 : ∀ γ, mtK mAppend (.obj rs) [rowD (xs.set i x)] γ ω5 = .ok .non γ (ω5.set rs (.lst ((RR ++ [xs.set i x]).map rowD))) := fun γ => by
    rw [m_app hr5 (by rw [List.length_map]; omega), List.map_append]
    rfl
  have ap2 : ∀ γ, mtK mAppend (.obj ps) [.int j] γ (ω5.set rs (.lst ((RR ++ [xs.set i x]).map rowD))) = .ok .non γ ((ω5.set rs (.lst ((RR ++ [xs.set i x]).map rowD))).set ps (.lst (P ++ [.int j]))) := fun γ => m_app hq6 (by rw [l.vs.lp]; omega)
  generalize h6 : (ω5.set rs (OB.lst ((RR ++ [xs.set i x]).map rowD))).set ps (.lst (P ++ [.int j])) = ω6 at l6 ap2
  obtain ⟨ω7, e7, l7, x7⟩ := all_ok l6 (g := !g)
  have len0 : ∀ ω, oLen2 ω [rowD row] = some (.int n) := fun ω => by
    unfold rowD
    rw [DL.v_lenT, List.length_map, hrow]
  have aj := DL.atI_nat (rr_at g2)
  have rx : ∀ ω, oIx ω (rowD xs) (.int i) = some (.int (at0 xs i)) := fun ω => row_ix (by omega)
  have c1 : ∀ ω, oSl ω (rowD xs) none (some (i : Int)) = some (rowD (xs.take i)) := fun ω => cut_take (by omega)
  have qi : (i : Int) + 1 = ((i + 1 : Nat) : Int) := by omega
  have c2 : ∀ ω, oSl ω (rowD xs) (some ((i + 1 : Nat) : Int)) none = some (rowD (xs.drop (i + 1))) := fun ω => cut_drop (by omega)
  have hti : (xs.take i).length ≤ 32 := by simp; omega
  have htd : (xs.drop (i + 1)).length ≤ 32 := by simp; omega
  have c3 : ∀ ω, oAdd ω (rowD (xs.take i)) (.tup [.int x]) = some (rowD (xs.take i ++ [x])) := fun ω => cat_row (ys := [x]) (by simp; omega)
  have c4 : ∀ ω, oAdd ω (rowD (xs.take i ++ [x])) (rowD (xs.drop (i + 1))) = some (rowD (xs.set i x)) := fun ω => by
    rw [cat_row (by rw [List.length_append, List.length_singleton]; omega), set_cut (by omega)]
  have sm := fun ω => same_ok (pl_told (w := "told") (.int (k := 0) (i := (RR.length : Int)))) 9 ω (by omega)
  have b1 : decide ((N.length : Int) < (M.length : Int)) = true := decide_eq_true (by omega)
  have b2 : decide ((M.length : Int) ≤ (N.length : Int) + ((digits n : Int) + 1)) = true := decide_eq_true (by omega)
  have nd := nodes_ok l6.vs
  have hm20 : ∀ ω, oMod ω (.int t) (.int 20) = some (.int ((t : Int) % 20)) := fun ω => DL.v_mod (by decide)
  by_cases h1 : steps < 20
  · have k1 : decide ((steps : Int) < 20) = true := decide_eq_true (by omega)
    refine ⟨_, ω7, M, T ++ [a'], P ++ [.int j], RR ++ [xs.set i x], .dat (.int t), .dat (.int j), .dat (.int i), .dat (.int x), .dat (.int M.length), s14, ?_, rfl, l7, by simp, by omega⟩
    rcases hsel with ⟨cs, rfl⟩ | ⟨cs, rfl⟩ <;>
    simp only [fb__law_life_right_1, startD, List.map, List.length, Nat.sub_self, List.replicate, List.append_nil, List.cons_append, List.nil_append, Nat.reduceSub, Nat.reduceAdd, List.set, rb_ok, rb_exc, rb_bad, x_bind, x_pure, x_some, x_none, x_badM, x_c, x_e2, x_e1, x_tB, x_asB, chK_t, chK_f, x_eCh, pick_t, pick_f, x_andM, x_orM, x_notM, x_and, x_or, x_not, x_if, x_nil, x_cons, szL0, szL1, szL2, szL3, szL4, szL6, szL7, szL8, szL10, szT0, szT1, szT2, szT3, szT4, x_tup, x_nlst, x_call, x_ncall, x_oNone, x_oSome, x_asI, x_sl, x_flst, x_alloc, bk_ok, bk_exc, x_fun, x_funK, opt_some, x_fld, x_mt, x_meth, mkK_ok, mkK_exc, x_make, x_makeK, x_next, x_seq, th_nx, th_rt, th_bk, th_ct, th_exc, x_drop, x_sret, x_sif, x_set, asgK_some, x_asg, tg_tp, tg_nm, setAll_nil, setAll_cons, parK_ok, x_par, par3K_ok, x_par3, x_sub, x_sfld, x_for, x_iL, x_iT, x_asL, x_asT, x_iR1, x_iR2, x_nlc, raK_ok, x_raise, fin_rt, fin_nx, fin_exc, x_try, try_rt, ev0, ev1, ev2, ev3, ev4, ev5, ev6, ev7, ev8, ev9, ev10, ev11, ev12, ev13, ev14, DL.v_sub, DL.v_add, DL.v_lt, DL.v_le, DL.v_gt, DL.v_ge, DL.v_fdiv2, DL.v_neg, DL.v_abs, DL.v_int, DL.v_min2, DL.v_max2, DL.v_eqI, DL.v_neI, DL.v_eqB, DL.v_neB, DL.v_isN, DL.v_notN, DL.v_isB, DL.v_e0l, DL.vL_lst, DL.isS_some, DL.v_ixL, DL.v_ixS, DL.v_ixT, DL.atI_0, DL.atI_1, DL.atI_2, DL.atI_3, DL.atI_4, DL.atI_5, DL.v_lenL, DL.v_lenS, DL.v_lenT, DL.v_lenD, DL.v_sumL, DL.v_sumT, DL.v_tupL, DL.v_tupT, DL.v_listT, DL.v_listL, DL.v_slT, DL.v_slL, DL.v_slS, DL.i_ii, DL.i_ib, DL.i_is, DL.i_id, DL.i_il, DL.i_it, DL.i_bi, DL.i_bb, DL.i_bt, DL.i_ni, DL.i_nb, DL.i_nt, DL.i_si, DL.i_sb, DL.i_ss, DL.i_st, DL.i_li, DL.i_lb, DL.i_ls, DL.i_ld, DL.i_ll, DL.i_lt, DL.i_ti, DL.i_tb, DL.i_ts, DL.i_td, DL.i_tl, DL.i_tt, DL.i_di, DL.i_db, DL.i_ds, DL.i_dd, DL.i_dt, DL.x_rev, DL.isNonD, DL.v_lenO l.hr, List.length_map, e1, len0, e2, e3, e4, cs, DL.v_ixO l4.hr, aj, rx, hai, DL.v_lenO hr5, sm, Bool.not_true, vL_obj hr5, DL.v_ixO hr5, c1, c3, qi, c2, c4, ap1, vL_obj hq6, ap2, l6.m (m := "nodes") (by decide +kernel), nd, Bool.not_false, Option.bind, b1, b2, k1, e7]
  · have k1 : decide ((steps : Int) < 20) = false := decide_eq_false (by omega)
    by_cases h2 : (t : Int) % 20 = 0
    · have k2 : decide ((t : Int) % 20 = 0) = true := decide_eq_true h2
      refine ⟨_, ω7, M, T ++ [a'], P ++ [.int j], RR ++ [xs.set i x], .dat (.int t), .dat (.int j), .dat (.int i), .dat (.int x), .dat (.int M.length), s14, ?_, rfl, l7, by simp, by omega⟩
      rcases hsel with ⟨cs, rfl⟩ | ⟨cs, rfl⟩ <;>
      simp only [fb__law_life_right_1, startD, List.map, List.length, Nat.sub_self, List.replicate, List.append_nil, List.cons_append, List.nil_append, Nat.reduceSub, Nat.reduceAdd, List.set, rb_ok, rb_exc, rb_bad, x_bind, x_pure, x_some, x_none, x_badM, x_c, x_e2, x_e1, x_tB, x_asB, chK_t, chK_f, x_eCh, pick_t, pick_f, x_andM, x_orM, x_notM, x_and, x_or, x_not, x_if, x_nil, x_cons, szL0, szL1, szL2, szL3, szL4, szL6, szL7, szL8, szL10, szT0, szT1, szT2, szT3, szT4, x_tup, x_nlst, x_call, x_ncall, x_oNone, x_oSome, x_asI, x_sl, x_flst, x_alloc, bk_ok, bk_exc, x_fun, x_funK, opt_some, x_fld, x_mt, x_meth, mkK_ok, mkK_exc, x_make, x_makeK, x_next, x_seq, th_nx, th_rt, th_bk, th_ct, th_exc, x_drop, x_sret, x_sif, x_set, asgK_some, x_asg, tg_tp, tg_nm, setAll_nil, setAll_cons, parK_ok, x_par, par3K_ok, x_par3, x_sub, x_sfld, x_for, x_iL, x_iT, x_asL, x_asT, x_iR1, x_iR2, x_nlc, raK_ok, x_raise, fin_rt, fin_nx, fin_exc, x_try, try_rt, ev0, ev1, ev2, ev3, ev4, ev5, ev6, ev7, ev8, ev9, ev10, ev11, ev12, ev13, ev14, DL.v_sub, DL.v_add, DL.v_lt, DL.v_le, DL.v_gt, DL.v_ge, DL.v_fdiv2, DL.v_neg, DL.v_abs, DL.v_int, DL.v_min2, DL.v_max2, DL.v_eqI, DL.v_neI, DL.v_eqB, DL.v_neB, DL.v_isN, DL.v_notN, DL.v_isB, DL.v_e0l, DL.vL_lst, DL.isS_some, DL.v_ixL, DL.v_ixS, DL.v_ixT, DL.atI_0, DL.atI_1, DL.atI_2, DL.atI_3, DL.atI_4, DL.atI_5, DL.v_lenL, DL.v_lenS, DL.v_lenT, DL.v_lenD, DL.v_sumL, DL.v_sumT, DL.v_tupL, DL.v_tupT, DL.v_listT, DL.v_listL, DL.v_slT, DL.v_slL, DL.v_slS, DL.i_ii, DL.i_ib, DL.i_is, DL.i_id, DL.i_il, DL.i_it, DL.i_bi, DL.i_bb, DL.i_bt, DL.i_ni, DL.i_nb, DL.i_nt, DL.i_si, DL.i_sb, DL.i_ss, DL.i_st, DL.i_li, DL.i_lb, DL.i_ls, DL.i_ld, DL.i_ll, DL.i_lt, DL.i_ti, DL.i_tb, DL.i_ts, DL.i_td, DL.i_tl, DL.i_tt, DL.i_di, DL.i_db, DL.i_ds, DL.i_dd, DL.i_dt, DL.x_rev, DL.isNonD, DL.v_lenO l.hr, List.length_map, e1, len0, e2, e3, e4, cs, DL.v_ixO l4.hr, aj, rx, hai, DL.v_lenO hr5, sm, Bool.not_true, vL_obj hr5, DL.v_ixO hr5, c1, c3, qi, c2, c4, ap1, vL_obj hq6, ap2, l6.m (m := "nodes") (by decide +kernel), nd, Bool.not_false, Option.bind, b1, b2, k1, hm20, k2, e7]
    · have k2 : decide ((t : Int) % 20 = 0) = false := decide_eq_false h2
      refine ⟨_, ω6, M, T ++ [a'], P ++ [.int j], RR ++ [xs.set i x], .dat (.int t), .dat (.int j), .dat (.int i), .dat (.int x), .dat (.int M.length), s14, ?_, rfl, l6.less (by omega), by simp, by omega⟩
      rcases hsel with ⟨cs, rfl⟩ | ⟨cs, rfl⟩ <;>
      simp only [fb__law_life_right_1, startD, List.map, List.length, Nat.sub_self, List.replicate, List.append_nil, List.cons_append, List.nil_append, Nat.reduceSub, Nat.reduceAdd, List.set, rb_ok, rb_exc, rb_bad, x_bind, x_pure, x_some, x_none, x_badM, x_c, x_e2, x_e1, x_tB, x_asB, chK_t, chK_f, x_eCh, pick_t, pick_f, x_andM, x_orM, x_notM, x_and, x_or, x_not, x_if, x_nil, x_cons, szL0, szL1, szL2, szL3, szL4, szL6, szL7, szL8, szL10, szT0, szT1, szT2, szT3, szT4, x_tup, x_nlst, x_call, x_ncall, x_oNone, x_oSome, x_asI, x_sl, x_flst, x_alloc, bk_ok, bk_exc, x_fun, x_funK, opt_some, x_fld, x_mt, x_meth, mkK_ok, mkK_exc, x_make, x_makeK, x_next, x_seq, th_nx, th_rt, th_bk, th_ct, th_exc, x_drop, x_sret, x_sif, x_set, asgK_some, x_asg, tg_tp, tg_nm, setAll_nil, setAll_cons, parK_ok, x_par, par3K_ok, x_par3, x_sub, x_sfld, x_for, x_iL, x_iT, x_asL, x_asT, x_iR1, x_iR2, x_nlc, raK_ok, x_raise, fin_rt, fin_nx, fin_exc, x_try, try_rt, ev0, ev1, ev2, ev3, ev4, ev5, ev6, ev7, ev8, ev9, ev10, ev11, ev12, ev13, ev14, DL.v_sub, DL.v_add, DL.v_lt, DL.v_le, DL.v_gt, DL.v_ge, DL.v_fdiv2, DL.v_neg, DL.v_abs, DL.v_int, DL.v_min2, DL.v_max2, DL.v_eqI, DL.v_neI, DL.v_eqB, DL.v_neB, DL.v_isN, DL.v_notN, DL.v_isB, DL.v_e0l, DL.vL_lst, DL.isS_some, DL.v_ixL, DL.v_ixS, DL.v_ixT, DL.atI_0, DL.atI_1, DL.atI_2, DL.atI_3, DL.atI_4, DL.atI_5, DL.v_lenL, DL.v_lenS, DL.v_lenT, DL.v_lenD, DL.v_sumL, DL.v_sumT, DL.v_tupL, DL.v_tupT, DL.v_listT, DL.v_listL, DL.v_slT, DL.v_slL, DL.v_slS, DL.i_ii, DL.i_ib, DL.i_is, DL.i_id, DL.i_il, DL.i_it, DL.i_bi, DL.i_bb, DL.i_bt, DL.i_ni, DL.i_nb, DL.i_nt, DL.i_si, DL.i_sb, DL.i_ss, DL.i_st, DL.i_li, DL.i_lb, DL.i_ls, DL.i_ld, DL.i_ll, DL.i_lt, DL.i_ti, DL.i_tb, DL.i_ts, DL.i_td, DL.i_tl, DL.i_tt, DL.i_di, DL.i_db, DL.i_ds, DL.i_dd, DL.i_dt, DL.x_rev, DL.isNonD, DL.v_lenO l.hr, List.length_map, e1, len0, e2, e3, e4, cs, DL.v_ixO l4.hr, aj, rx, hai, DL.v_lenO hr5, sm, Bool.not_true, vL_obj hr5, DL.v_ixO hr5, c1, c3, qi, c2, c4, ap1, vL_obj hq6, ap2, l6.m (m := "nodes") (by decide +kernel), nd, Bool.not_false, Option.bind, b1, b2, k1, hm20, k2]
end
end K80

set_option Elab.async false
set_option linter.all false
set_option maxRecDepth 100000
set_option maxHeartbeats 2000000
namespace K80
open PySem PySem.Spec PyProof.Rows L2 DL

/-! ### a whole life -/
theorem at_app {ω L : List OB} {i : Nat} : (ω ++ L)[ω.length + i]? = L[i]? := by
  rw [List.getElem?_append_right (by omega), Nat.add_sub_cancel_left]
theorem life_ok {C : Addr} {b k steps : Nat} {ω : List OB} {xs : List Int} {g : Bool} (bx : BoxOk b (k + 10000) ω) (h0 : 0 < xs.length) (h1 : xs.length ≤ 32) (hs : steps ≤ 99) :
    ∃ ω', F__law_life_right C [.obj b, rowD xs, .int steps, .bl g] ω = .ok (.bl true) [] ω' ∧ BoxOk b k ω' := by
  have hb := bx.lt
  obtain ⟨M, a, e0, tr, hm⟩ := made_ok (C := C) (ω := ω) (g := g) h0 h1
  have hw : mk4 C xs.length M a ω ++ [OB.lst [rowD xs]] ++ [.lst [.non]] = ω ++ [.ins C (vf xs.length (ω.length + 1) (ω.length + 2) (ω.length + 3)), .lst (M.map ndD), .lst [.int a], .lst [.non], .lst [rowD xs], .lst [.non]] := by simp [mk4]
  have hl4 : (mk4 C xs.length M a ω).length = ω.length + 4 := by simp [mk4]
  have l : Life C b (k + 10000) ω.length (ω.length + 1) (ω.length + 2) (ω.length + 3) (ω.length + 4) (ω.length + 5) xs.length M [a] [.non] [xs] (mk4 C xs.length M a ω ++ [.lst [rowD xs]] ++ [.lst [.non]]) := by
    rw [hw]
    refine ⟨⟨?_, ?_, ?_, ?_, by omega, by omega, by omega, by omega, by simp, rfl⟩, bx.ext (S := []) Ext.app (by simp), ?_, ?_, rfl, by simp, h0, h1, ?_, ?_, ?_, by omega, by omega, by omega⟩
    · exact at_app (i := 0)
    · exact at_app (i := 1)
    · exact at_app (i := 2)
    · exact at_app (i := 3)
    · exact at_app (i := 4)
    · exact at_app (i := 5)
    · intro ys hy
      rw [List.mem_singleton.mp hy]
    · intro j c ys hT hR
      cases j with
      | zero =>
        cases hT
        cases hR
        exact tr
      | succ j => cases hT
    · intro p hp
      rw [List.mem_singleton.mp hp]
      exact .non
  have hl5 : (mk4 C xs.length M a ω ++ [OB.lst [rowD xs]]).length = ω.length + 5 := by simp [mk4]
  generalize hω2 : mk4 C xs.length M a ω ++ [OB.lst [rowD xs]] ++ [.lst [.non]] = ω2 at l
  obtain ⟨ω3, e3, l3, _⟩ := all_ok (l.less (show k + 9000 + 16 ≤ k + 10000 by omega)) (g := g)
  have frame := for_ok (t := .nm 9) (body := fb__law_life_right_1 C) (fun i γ ω' => ∃ (g : Bool) (N : List Nd) (T : List Nat) (P : List D) (RR : List (List Int)) (s9 s10 s11 s12 s13 s14 : SD), γ = [.dat (.obj b), .dat (rowD xs), .dat (.int steps), .dat (.bl g), .dat (.obj ω.length), .dat (.obj (ω.length + 4)), .dat (.obj (ω.length + 5)), .dat (.int ((digits xs.length : Int) + 1)), .dat (.int N.length), s9, s10, s11, s12, s13, s14] ∧
      Life C b (k + 200 + 24 * (steps - i)) ω.length (ω.length + 1) (ω.length + 2) (ω.length + 3) (ω.length + 4) (ω.length + 5) xs.length N T P RR ω' ∧ T.length = i + 1 ∧ N.length ≤ 63 + 7 * i) (ds := rangeD 0 (steps : Int))
    (γ := [.dat (.obj b), .dat (rowD xs), .dat (.int steps), .dat (.bl g), .dat (.obj ω.length), .dat (.obj (ω.length + 4)), .dat (.obj (ω.length + 5)), .dat (.int ((digits xs.length : Int) + 1)), .dat (.int M.length), .no, .no, .no, .no, .no, .no]) (ω := ω3)
    ⟨g, M, [a], [.non], [xs], _, _, _, _, _, _, rfl, l3.less (by omega), rfl, by omega⟩ (by
    rintro i d γ ω' hd ⟨g, N, T, P, RR, s9, s10, s11, s12, s13, s14, rfl, li, hT, hN⟩
    obtain ⟨rfl, hi⟩ := range_at hd
    obtain ⟨γ', ω'', N', T', P', RR', z9, z10, z11, z12, z13, z14, e, rfl, l', hT', hN'⟩ := step_ok (k := k + 200 + 24 * (steps - (i + 1))) (row := xs) (steps := steps) (t := i) (g := g) (s9 := s9) (s10 := s10) (s11 := s11) (s12 := s12) (s13 := s13) (s14 := s14) (li.less (by omega)) rfl (by omega) (by omega)
    exact ⟨_, _, _, rfl, e, _, _, _, _, _, _, _, _, _, _, _, rfl, l', by omega, by omega⟩)
  obtain ⟨γ', ω4, e4, g4, N, T, P, RR, s9, s10, s11, s12, s13, s14, rfl, l4, hT, hN⟩ := frame
  rw [range_len] at l4 hT hN
  obtain ⟨ω5, e5, l5, _⟩ := all_ok (l4.less (show k + 100 + 16 ≤ k + 200 + 24 * (steps - steps) by omega)) (g := g4)
  obtain ⟨ω6, e6, l6, _⟩ := refused_ok (l5.less (show k + 20 + 32 ≤ k + 100 by omega)) (g := g4)
  have len0 : ∀ ω, oLen2 ω [rowD xs] = some (.int xs.length) := fun ω => by
    unfold rowD
    rw [DL.v_lenT, List.length_map]
  have hdig : ∀ ω, F__law_digits [.int xs.length] ω = .ok (.int (digits xs.length)) [] ω := fun ω => digits_ok (by omega)
  have nd := nodes_ok l.vs
  have hmul : ∀ ω, oMul ω (.int 2) (.int xs.length) = some (.int (2 * (xs.length : Int))) := fun ω => DL.v_mulI (by
    rw [Bool.or_eq_true]
    exact .inl (DL.small_of (by decide) (by decide)))
  have q : (2 : Int) * (xs.length : Int) - 1 = (M.length : Int) := by omega
  have sm0 := fun ω => same_ok (.int (k := 0) (i := (M.length : Int))) 9 ω (by omega)
  have hr := fun γ ω => r1n (γ := γ) (ω := ω) (m := steps) (by omega)
  by_cases hst : steps < 99
  · have c : decide ((steps : Int) < 99) = true := decide_eq_true (by omega)
    refine ⟨ω6, ?_, l6.bx.mono (by omega)⟩
    simp only [F__law_life_right, m__law_life_right, startD, List.map, List.length, Nat.sub_self, List.replicate, List.append_nil, List.cons_append, List.nil_append, Nat.reduceSub, Nat.reduceAdd, List.set, rb_ok, rb_exc, rb_bad, x_bind, x_pure, x_some, x_none, x_badM, x_c, x_e2, x_e1, x_tB, x_asB, chK_t, chK_f, x_eCh, pick_t, pick_f, x_andM, x_orM, x_notM, x_and, x_or, x_not, x_if, x_nil, x_cons, szL0, szL1, szL2, szL3, szL4, szL6, szL7, szL8, szL10, szT0, szT1, szT2, szT3, szT4, x_tup, x_nlst, x_call, x_ncall, x_oNone, x_oSome, x_asI, x_sl, x_flst, x_alloc, bk_ok, bk_exc, x_fun, x_funK, opt_some, x_fld, x_mt, x_meth, mkK_ok, mkK_exc, x_make, x_makeK, x_next, x_seq, th_nx, th_rt, th_bk, th_ct, th_exc, x_drop, x_sret, x_sif, x_set, asgK_some, x_asg, tg_tp, tg_nm, setAll_nil, setAll_cons, parK_ok, x_par, par3K_ok, x_par3, x_sub, x_sfld, x_for, x_iL, x_iT, x_asL, x_asT, x_iR1, x_iR2, x_nlc, raK_ok, x_raise, fin_rt, fin_nx, fin_exc, x_try, try_rt, ev0, ev1, ev2, ev3, ev4, ev5, ev6, ev7, ev8, ev9, ev10, ev11, ev12, ev13, ev14, DL.v_sub, DL.v_add, DL.v_lt, DL.v_le, DL.v_gt, DL.v_ge, DL.v_fdiv2, DL.v_neg, DL.v_abs, DL.v_int, DL.v_min2, DL.v_max2, DL.v_eqI, DL.v_neI, DL.v_eqB, DL.v_neB, DL.v_isN, DL.v_notN, DL.v_isB, DL.v_e0l, DL.vL_lst, DL.isS_some, DL.v_ixL, DL.v_ixS, DL.v_ixT, DL.atI_0, DL.atI_1, DL.atI_2, DL.atI_3, DL.atI_4, DL.atI_5, DL.v_lenL, DL.v_lenS, DL.v_lenT, DL.v_lenD, DL.v_sumL, DL.v_sumT, DL.v_tupL, DL.v_tupT, DL.v_listT, DL.v_listL, DL.v_slT, DL.v_slL, DL.v_slS, DL.i_ii, DL.i_ib, DL.i_is, DL.i_id, DL.i_il, DL.i_it, DL.i_bi, DL.i_bb, DL.i_bt, DL.i_ni, DL.i_nb, DL.i_nt, DL.i_si, DL.i_sb, DL.i_ss, DL.i_st, DL.i_li, DL.i_lb, DL.i_ls, DL.i_ld, DL.i_ll, DL.i_lt, DL.i_ti, DL.i_tb, DL.i_ts, DL.i_td, DL.i_tl, DL.i_tt, DL.i_di, DL.i_db, DL.i_ds, DL.i_dd, DL.i_dt, DL.x_rev, DL.isNonD, e0, hl4, hl5, hω2, len0, hdig, l.m (m := "nodes") (by decide +kernel), nd, hmul, q, sm0, Bool.not_true, e3, hr, e4, e5, e6, c]
  · have c : decide ((steps : Int) < 99) = false := decide_eq_false (by omega)
    have h100 : T.length = 100 := by omega
    obtain ⟨ω7, e7, l7, _⟩ := all_ok (l6.less (show k + 16 ≤ k + 20 by omega)) (g := g4)
    have f1 : ∀ g, F__law_asked C [.obj ω.length, .str "set", .lst [.int 0, .int 0, .int 1], .bl g] ω6 = .ok (.lst [.str "many", .int 100]) [] ω6 := fun g => no_many l6 (x := 1) (i := 0) (j := 0) (by omega) h0 h100
    have f2 : ∀ g, F__law_asked C [.obj ω.length, .str "set", .lst [.int 98, .int 0, .int 1], .bl g] ω6 = .ok (.lst [.str "many", .int 100]) [] ω6 := fun g => no_many l6 (x := 1) (i := 98) (j := 0) (by omega) h0 h100
    have f3 : ∀ g, F__law_asked C [.obj ω.length, .str "set", .lst [.int 0, .int 0, .non], .bl g] ω6 = .ok (.lst [.str "number", .non]) [] ω6 := fun g => no_number l6 (j := 0) h0 (fun _ => ⟨_, rfl⟩) rfl
    have sm1 := fun ω => same_ok (pl_three (pl_told (w := "many") (.int (k := 0) (i := 100))) (pl_told (w := "many") (.int (k := 0) (i := 100))) (pl_told (w := "number") (.non (k := 0)))) 9 ω (by omega)
    refine ⟨ω7, ?_, l7.bx⟩
    simp only [F__law_life_right, m__law_life_right, startD, List.map, List.length, Nat.sub_self, List.replicate, List.append_nil, List.cons_append, List.nil_append, Nat.reduceSub, Nat.reduceAdd, List.set, rb_ok, rb_exc, rb_bad, x_bind, x_pure, x_some, x_none, x_badM, x_c, x_e2, x_e1, x_tB, x_asB, chK_t, chK_f, x_eCh, pick_t, pick_f, x_andM, x_orM, x_notM, x_and, x_or, x_not, x_if, x_nil, x_cons, szL0, szL1, szL2, szL3, szL4, szL6, szL7, szL8, szL10, szT0, szT1, szT2, szT3, szT4, x_tup, x_nlst, x_call, x_ncall, x_oNone, x_oSome, x_asI, x_sl, x_flst, x_alloc, bk_ok, bk_exc, x_fun, x_funK, opt_some, x_fld, x_mt, x_meth, mkK_ok, mkK_exc, x_make, x_makeK, x_next, x_seq, th_nx, th_rt, th_bk, th_ct, th_exc, x_drop, x_sret, x_sif, x_set, asgK_some, x_asg, tg_tp, tg_nm, setAll_nil, setAll_cons, parK_ok, x_par, par3K_ok, x_par3, x_sub, x_sfld, x_for, x_iL, x_iT, x_asL, x_asT, x_iR1, x_iR2, x_nlc, raK_ok, x_raise, fin_rt, fin_nx, fin_exc, x_try, try_rt, ev0, ev1, ev2, ev3, ev4, ev5, ev6, ev7, ev8, ev9, ev10, ev11, ev12, ev13, ev14, DL.v_sub, DL.v_add, DL.v_lt, DL.v_le, DL.v_gt, DL.v_ge, DL.v_fdiv2, DL.v_neg, DL.v_abs, DL.v_int, DL.v_min2, DL.v_max2, DL.v_eqI, DL.v_neI, DL.v_eqB, DL.v_neB, DL.v_isN, DL.v_notN, DL.v_isB, DL.v_e0l, DL.vL_lst, DL.isS_some, DL.v_ixL, DL.v_ixS, DL.v_ixT, DL.atI_0, DL.atI_1, DL.atI_2, DL.atI_3, DL.atI_4, DL.atI_5, DL.v_lenL, DL.v_lenS, DL.v_lenT, DL.v_lenD, DL.v_sumL, DL.v_sumT, DL.v_tupL, DL.v_tupT, DL.v_listT, DL.v_listL, DL.v_slT, DL.v_slL, DL.v_slS, DL.i_ii, DL.i_ib, DL.i_is, DL.i_id, DL.i_il, DL.i_it, DL.i_bi, DL.i_bb, DL.i_bt, DL.i_ni, DL.i_nb, DL.i_nt, DL.i_si, DL.i_sb, DL.i_ss, DL.i_st, DL.i_li, DL.i_lb, DL.i_ls, DL.i_ld, DL.i_ll, DL.i_lt, DL.i_ti, DL.i_tb, DL.i_ts, DL.i_td, DL.i_tl, DL.i_tt, DL.i_di, DL.i_db, DL.i_ds, DL.i_dd, DL.i_dt, DL.x_rev, DL.isNonD, e0, hl4, hl5, hω2, len0, hdig, l.m (m := "nodes") (by decide +kernel), nd, hmul, q, sm0, Bool.not_true, e3, hr, e4, e5, e6, c, f1, f2, f3, sm1, e7]

/-! ### the box made -/
theorem cell_ok {ns : List Int} {k : Nat} {ω : List OB} (hk : k < 100) : ∃ x : Int, F__law_cell [.scr (ns.map D.int), .int k] ω = .ok (.int x) [] ω := by
  by_cases h : k < ns.length
  · have c : decide ((k : Int) < ((ns.map D.int).length : Int)) = true := decide_eq_true (by rw [List.length_map]; omega)
    have e := DL.atI_nat (row_at h)
    exact ⟨at0 ns k, by simp only [F__law_cell, m__law_cell, startD, List.map, List.length, Nat.sub_self, List.replicate, List.append_nil, List.cons_append, List.nil_append, Nat.reduceSub, Nat.reduceAdd, List.set, rb_ok, rb_exc, rb_bad, x_bind, x_pure, x_some, x_none, x_badM, x_c, x_e2, x_e1, x_tB, x_asB, chK_t, chK_f, x_eCh, pick_t, pick_f, x_andM, x_orM, x_notM, x_and, x_or, x_not, x_if, x_nil, x_cons, szL0, szL1, szL2, szL3, szL4, szL6, szL7, szL8, szL10, szT0, szT1, szT2, szT3, szT4, x_tup, x_nlst, x_call, x_ncall, x_oNone, x_oSome, x_asI, x_sl, x_flst, x_alloc, bk_ok, bk_exc, x_fun, x_funK, opt_some, x_fld, x_mt, x_meth, mkK_ok, mkK_exc, x_make, x_makeK, x_next, x_seq, th_nx, th_rt, th_bk, th_ct, th_exc, x_drop, x_sret, x_sif, x_set, asgK_some, x_asg, tg_tp, tg_nm, setAll_nil, setAll_cons, parK_ok, x_par, par3K_ok, x_par3, x_sub, x_sfld, x_for, x_iL, x_iT, x_asL, x_asT, x_iR1, x_iR2, x_nlc, raK_ok, x_raise, fin_rt, fin_nx, fin_exc, x_try, try_rt, ev0, ev1, ev2, ev3, ev4, ev5, ev6, ev7, ev8, ev9, ev10, ev11, ev12, ev13, ev14, DL.v_sub, DL.v_add, DL.v_lt, DL.v_le, DL.v_gt, DL.v_ge, DL.v_fdiv2, DL.v_neg, DL.v_abs, DL.v_int, DL.v_min2, DL.v_max2, DL.v_eqI, DL.v_neI, DL.v_eqB, DL.v_neB, DL.v_isN, DL.v_notN, DL.v_isB, DL.v_e0l, DL.vL_lst, DL.isS_some, DL.v_ixL, DL.v_ixS, DL.v_ixT, DL.atI_0, DL.atI_1, DL.atI_2, DL.atI_3, DL.atI_4, DL.atI_5, DL.v_lenL, DL.v_lenS, DL.v_lenT, DL.v_lenD, DL.v_sumL, DL.v_sumT, DL.v_tupL, DL.v_tupT, DL.v_listT, DL.v_listL, DL.v_slT, DL.v_slL, DL.v_slS, DL.i_ii, DL.i_ib, DL.i_is, DL.i_id, DL.i_il, DL.i_it, DL.i_bi, DL.i_bb, DL.i_bt, DL.i_ni, DL.i_nb, DL.i_nt, DL.i_si, DL.i_sb, DL.i_ss, DL.i_st, DL.i_li, DL.i_lb, DL.i_ls, DL.i_ld, DL.i_ll, DL.i_lt, DL.i_ti, DL.i_tb, DL.i_ts, DL.i_td, DL.i_tl, DL.i_tt, DL.i_di, DL.i_db, DL.i_ds, DL.i_dd, DL.i_dt, DL.x_rev, DL.isNonD, c, e]⟩
  · have c : decide ((k : Int) < ((ns.map D.int).length : Int)) = false := decide_eq_false (by rw [List.length_map]; omega)
    have hcut : oSl ω (.scr (ns.map D.int)) none (some 1) = some (.lst ((ns.take 1).map D.int)) := by
      rw [DL.v_slS]
      unfold DL.cutD
      have h1 : HT.sIx (ns.map D.int).length (ns.map D.int).length (some ((1 : Nat) : Int)) = min 1 (ns.map D.int).length := HT.sIx_nat _ _ _
      have h1' : HT.sIx (ns.map D.int).length (ns.map D.int).length (some 1) = min 1 (ns.map D.int).length := h1
      rw [HT.sIx_none, h1', List.length_map, List.map_take]
      simp
    have hmul : oMul ω (.int 9371) (.int k) = some (.int (9371 * (k : Int))) := DL.v_mulI (by
      rw [Bool.or_eq_true]
      exact .inl (DL.small_of (by decide) (by decide)))
    exact ⟨9371 * (k : Int) + (ns.take 1).sum % 1000003, by simp only [F__law_cell, m__law_cell, startD, List.map_cons, List.map_nil, List.length_cons, List.length_nil, Nat.sub_self, List.replicate, List.append_nil, List.cons_append, List.nil_append, Nat.reduceSub, Nat.reduceAdd, rb_ok, rb_exc, rb_bad, x_bind, x_pure, x_some, x_none, x_badM, x_c, x_e2, x_e1, x_tB, x_asB, chK_t, chK_f, x_eCh, pick_t, pick_f, x_andM, x_orM, x_notM, x_and, x_or, x_not, x_if, x_nil, x_cons, szL0, szL1, szL2, szL3, szL4, szL6, szL7, szL8, szL10, szT0, szT1, szT2, szT3, szT4, x_tup, x_nlst, x_call, x_ncall, x_oNone, x_oSome, x_asI, x_sl, x_flst, x_alloc, bk_ok, bk_exc, x_fun, x_funK, opt_some, x_fld, x_mt, x_meth, mkK_ok, mkK_exc, x_make, x_makeK, x_next, x_seq, th_nx, th_rt, th_bk, th_ct, th_exc, x_drop, x_sret, x_sif, x_set, asgK_some, x_asg, tg_tp, tg_nm, setAll_nil, setAll_cons, parK_ok, x_par, par3K_ok, x_par3, x_sub, x_sfld, x_for, x_iL, x_iT, x_asL, x_asT, x_iR1, x_iR2, x_nlc, raK_ok, x_raise, fin_rt, fin_nx, fin_exc, x_try, try_rt, ev0, ev1, ev2, ev3, ev4, ev5, ev6, ev7, ev8, ev9, ev10, ev11, ev12, ev13, ev14, DL.v_sub, DL.v_add, DL.v_lt, DL.v_le, DL.v_gt, DL.v_ge, DL.v_fdiv2, DL.v_neg, DL.v_abs, DL.v_int, DL.v_min2, DL.v_max2, DL.v_eqI, DL.v_neI, DL.v_eqB, DL.v_neB, DL.v_isN, DL.v_notN, DL.v_isB, DL.v_e0l, DL.vL_lst, DL.isS_some, DL.v_ixL, DL.v_ixS, DL.v_ixT, DL.atI_0, DL.atI_1, DL.atI_2, DL.atI_3, DL.atI_4, DL.atI_5, DL.v_lenL, DL.v_lenS, DL.v_lenT, DL.v_lenD, DL.v_sumL, DL.v_sumT, DL.v_tupL, DL.v_tupT, DL.v_listT, DL.v_listL, DL.v_slT, DL.v_slL, DL.v_slS, DL.i_ii, DL.i_ib, DL.i_is, DL.i_id, DL.i_il, DL.i_it, DL.i_bi, DL.i_bb, DL.i_bt, DL.i_ni, DL.i_nb, DL.i_nt, DL.i_si, DL.i_sb, DL.i_ss, DL.i_st, DL.i_li, DL.i_lb, DL.i_ls, DL.i_ld, DL.i_ll, DL.i_lt, DL.i_ti, DL.i_tb, DL.i_ts, DL.i_td, DL.i_tl, DL.i_tt, DL.i_di, DL.i_db, DL.i_ds, DL.i_dd, DL.i_dt, DL.x_rev, DL.isNonD, c, hmul, hcut, DL.v_mod (show (0 : Int) < 1000003 by decide)]⟩
theorem box_ok {x : Int} {ω : List OB} : ∃ y, F__law_box [.int x] ω = .ok (.obj ω.length) [] (ω ++ [y]) ∧ BoxOk ω.length 1000000000 (ω ++ [y]) := by
  have p : ∀ ω, oPow ω (.int 10) (.int 18) = some (.int (10 ^ (18 : Int).toNat)) := fun ω => DL.v_pow (by decide) (by decide) (by decide)
  have m := fun i ω => DL.v_mod (ω := ω) (i := i) (show (0 : Int) < 2147483629 by decide)
  have ha : 0 ≤ (if x < 0 then -x else x) := by split <;> omega
  refine ⟨_, by simp only [F__law_box, m__law_box, startD, List.map, List.length, Nat.sub_self, List.replicate, List.append_nil, List.cons_append, List.nil_append, Nat.reduceSub, Nat.reduceAdd, List.set, rb_ok, rb_exc, rb_bad, x_bind, x_pure, x_some, x_none, x_badM, x_c, x_e2, x_e1, x_tB, x_asB, chK_t, chK_f, x_eCh, pick_t, pick_f, x_andM, x_orM, x_notM, x_and, x_or, x_not, x_if, x_nil, x_cons, szL0, szL1, szL2, szL3, szL4, szL6, szL7, szL8, szL10, szT0, szT1, szT2, szT3, szT4, x_tup, x_nlst, x_call, x_ncall, x_oNone, x_oSome, x_asI, x_sl, x_flst, x_alloc, bk_ok, bk_exc, x_fun, x_funK, opt_some, x_fld, x_mt, x_meth, mkK_ok, mkK_exc, x_make, x_makeK, x_next, x_seq, th_nx, th_rt, th_bk, th_ct, th_exc, x_drop, x_sret, x_sif, x_set, asgK_some, x_asg, tg_tp, tg_nm, setAll_nil, setAll_cons, parK_ok, x_par, par3K_ok, x_par3, x_sub, x_sfld, x_for, x_iL, x_iT, x_asL, x_asT, x_iR1, x_iR2, x_nlc, raK_ok, x_raise, fin_rt, fin_nx, fin_exc, x_try, try_rt, ev0, ev1, ev2, ev3, ev4, ev5, ev6, ev7, ev8, ev9, ev10, ev11, ev12, ev13, ev14, DL.v_sub, DL.v_add, DL.v_lt, DL.v_le, DL.v_gt, DL.v_ge, DL.v_fdiv2, DL.v_neg, DL.v_abs, DL.v_int, DL.v_min2, DL.v_max2, DL.v_eqI, DL.v_neI, DL.v_eqB, DL.v_neB, DL.v_isN, DL.v_notN, DL.v_isB, DL.v_e0l, DL.vL_lst, DL.isS_some, DL.v_ixL, DL.v_ixS, DL.v_ixT, DL.atI_0, DL.atI_1, DL.atI_2, DL.atI_3, DL.atI_4, DL.atI_5, DL.v_lenL, DL.v_lenS, DL.v_lenT, DL.v_lenD, DL.v_sumL, DL.v_sumT, DL.v_tupL, DL.v_tupT, DL.v_listT, DL.v_listL, DL.v_slT, DL.v_slL, DL.v_slS, DL.i_ii, DL.i_ib, DL.i_is, DL.i_id, DL.i_il, DL.i_it, DL.i_bi, DL.i_bb, DL.i_bt, DL.i_ni, DL.i_nb, DL.i_nt, DL.i_si, DL.i_sb, DL.i_ss, DL.i_st, DL.i_li, DL.i_lb, DL.i_ls, DL.i_ld, DL.i_ll, DL.i_lt, DL.i_ti, DL.i_tb, DL.i_ts, DL.i_td, DL.i_tl, DL.i_tt, DL.i_di, DL.i_db, DL.i_ds, DL.i_dd, DL.i_dt, DL.x_rev, DL.isNonD, p, m]; rfl, _, _, _, _, new_at, ha, Int.emod_nonneg _ (by decide), Int.emod_lt_of_pos _ (by decide), Int.le_refl _, by decide⟩

/-! ### rows drawn -/
theorem rows_lc {C : Addr} {b k sz : Nat} {ω : List OB} {s0 s1 s3 s4 s5 s6 s7 : SD} (bx : BoxOk b (k + 5 * sz) ω) (hs : sz ≤ 1000) :
    ∃ (ys : List Int) (ω' : List OB), lcL (.nm 8) [8] (M.pure true) (le_law_1 C) (rangeD 0 (sz : Int)) [] [s0, s1, .dat (.obj b), s3, s4, s5, s6, s7, .no] ω = .ok (ys.map D.int) [s0, s1, .dat (.obj b), s3, s4, s5, s6, s7, .no] ω' ∧ ys.length = sz ∧ Ext [b] ω ω' ∧ BoxOk b k ω' := by
  obtain ⟨acc, γ', ω', e, ys, h1, h2, h3, h4, h5⟩ := lc_ok (t := .nm 8) (vs := [8]) (tt := M.pure true) (te := le_law_1 C) (fun m acc γ ω' => ∃ ys : List Int, acc = ys.map D.int ∧ ys.length = m ∧ γ = [s0, s1, .dat (.obj b), s3, s4, s5, s6, s7, .no] ∧ Ext [b] ω ω' ∧ BoxOk b (k + 5 * (sz - m)) ω') (ds := rangeD 0 (sz : Int)) (acc := []) (γ := [s0, s1, .dat (.obj b), s3, s4, s5, s6, s7, .no]) (ω := ω) 0 ⟨[], rfl, rfl, rfl, Ext.refl _ _, bx⟩ (by rw [range_len]; simp; omega) (by
    rintro m d acc γ ω' hd ⟨ys, rfl, hy, rfl, ex, bo⟩
    obtain ⟨rfl, hm⟩ := range_at hd
    obtain ⟨x, ω'', e, x', bo'⟩ := number_ok (k := k + 5 * (sz - (m + 1))) (bo.mono (by omega))
    refine ⟨[s0, s1, .dat (.obj b), s3, s4, s5, s6, s7, .dat (.int m)], [s0, s1, .dat (.obj b), s3, s4, s5, s6, s7, .dat (.int m)], ω', rfl, .inr ⟨.int x, [s0, s1, .dat (.obj b), s3, s4, s5, s6, s7, .dat (.int m)], ω'', rfl, by simp only [le_law_1, rb_ok, rb_exc, rb_bad, x_bind, x_pure, x_some, x_none, x_badM, x_c, x_e2, x_e1, x_tB, x_asB, chK_t, chK_f, x_eCh, pick_t, pick_f, x_andM, x_orM, x_notM, x_and, x_or, x_not, x_if, x_nil, x_cons, szL0, szL1, szL2, szL3, szL4, szL6, szL7, szL8, szL10, szT0, szT1, szT2, szT3, szT4, x_tup, x_nlst, x_call, x_ncall, x_oNone, x_oSome, x_asI, x_sl, x_flst, x_alloc, bk_ok, bk_exc, x_fun, x_funK, opt_some, x_fld, x_mt, x_meth, mkK_ok, mkK_exc, x_make, x_makeK, x_next, x_seq, th_nx, th_rt, th_bk, th_ct, th_exc, x_drop, x_sret, x_sif, x_set, asgK_some, x_asg, tg_tp, tg_nm, setAll_nil, setAll_cons, parK_ok, x_par, par3K_ok, x_par3, x_sub, x_sfld, x_for, x_iL, x_iT, x_asL, x_asT, x_iR1, x_iR2, x_nlc, raK_ok, x_raise, fin_rt, fin_nx, fin_exc, x_try, try_rt, ev0, ev1, ev2, ev3, ev4, ev5, ev6, ev7, ev8, ev9, ev10, ev11, ev12, ev13, ev14, e], ys ++ [x], by simp, by simp [hy], rfl, ex.trans x', ?_⟩⟩
    rw [show 0 + m + 1 = m + 1 from by omega]
    exact bo')
  rw [range_len, Nat.zero_add] at h2 h5
  subst h1 h3
  refine ⟨ys, ω', e, h2, h4, ?_⟩
  rw [Nat.sub_self] at h5
  exact h5
/-! ### rows that are none -/
def rep33 : List D := List.replicate 33 (.int 0)
theorem mul33 {ω : List OB} : oMul ω (.tup [.int 0]) (.int 33) = some (.tup rep33) := by
  show (if decide ([D.int 0] ≠ [] ∧ (2 : Int) ≤ 33 ∧ (33 : Int) ≤ 1000 ∧ [D.int 0].length ≤ 1000) = true then some (D.tup (List.replicate (33 : Int).toNat [D.int 0]).flatten) else none) = _
  rw [if_pos (decide_eq_true ⟨by simp, by decide, by decide, by simp⟩)]
  rfl
theorem bad_rows {ys : List Int} (h : ys.length ≤ 32) {Z : List D} (hZ : ∀ d ∈ Z, d ∈ ys.map D.int) (lZ : Z.length ≤ 100) {c : D} (hc : c ∈ [D.non, .int 7, .lst (ys.map D.int), .tup [], .tup rep33, .tup (Z ++ [.non]), .tup (Z ++ [.bl true]), .str "12", .dic [] [], .tup (Z ++ [.lst [.int 1]])]) : (∀ ω, NoRow ω c) ∧ Pl 2 c := by
  have pz : ∀ (e : D), Pl 1 e → Pl 2 (.tup (Z ++ [e])) := fun e he => .tup (fun d hd => by
    rcases List.mem_append.mp hd with h | h
    · obtain ⟨x, _, rfl⟩ := List.mem_map.mp (hZ d h)
      exact .int
    · rw [List.mem_singleton.mp h]
      exact he) (by simp; omega)
  have nz : ∀ (e : D) (ω : List OB), (∃ t, tyN ω e = some t) → isInt e = false → NoRow ω (.tup (Z ++ [e])) := fun e ω ht hi => no_item (fun d hd => by
    rcases List.mem_append.mp hd with h | h
    · obtain ⟨x, _, rfl⟩ := List.mem_map.mp (hZ d h)
      exact ⟨_, rfl⟩
    · rw [List.mem_singleton.mp h]
      exact ht) ⟨e, by simp, hi⟩
  simp only [List.mem_cons, List.not_mem_nil, or_false] at hc
  rcases hc with rfl | rfl | rfl | rfl | rfl | rfl | rfl | rfl | rfl | rfl
  · exact ⟨fun ω => no_kind DL.i_nt, .non⟩
  · exact ⟨fun ω => no_kind DL.i_it, .int⟩
  · exact ⟨fun ω => no_kind DL.i_lt, .lst (fun d hd => by
      obtain ⟨x, _, rfl⟩ := List.mem_map.mp hd
      exact .int) (by rw [List.length_map]; omega)⟩
  · exact ⟨fun ω => no_len (.inl rfl), .tup (fun d hd => by cases hd) (by simp)⟩
  · exact ⟨fun ω => no_len (.inr (by simp [rep33])), .tup (fun d hd => by
      rw [List.eq_of_mem_replicate hd]
      exact .int) (by simp [rep33])⟩
  · exact ⟨fun ω => nz _ ω ⟨_, rfl⟩ rfl, pz _ .non⟩
  · exact ⟨fun ω => nz _ ω ⟨_, rfl⟩ rfl, pz _ .bl⟩
  · exact ⟨fun ω => no_kind DL.i_st, .str (by decide +kernel)⟩
  · exact ⟨fun ω => no_kind DL.i_dt, .emp⟩
  · exact ⟨fun ω => nz _ ω ⟨_, rfl⟩ rfl, pz _ (.lst (fun d hd => by
      rw [List.mem_singleton.mp hd]
      exact .int) (by simp))⟩
theorem lawstep {C : Addr} {ns : List Int} {k : Nat} {ω : List OB} {s2 s3 s4 s5 s6 s7 s8 : SD} (hk : k < 100) : ∃ (γ' : List SD) (ω' : List OB) (z2 z3 z4 z5 z6 z7 z8 : SD), fb_law_1 C [.dat (.scr (ns.map D.int)), .dat (.int k), s2, s3, s4, s5, s6, s7, s8] ω = .ok .nx γ' ω' ∧ γ' = [.dat (.scr (ns.map D.int)), .dat (.int k), z2, z3, z4, z5, z6, z7, z8] := by
  obtain ⟨x0, e0⟩ := cell_ok (ns := ns) (k := k) (ω := ω) hk
  obtain ⟨y, eb, bx⟩ := box_ok (x := x0) (ω := ω)
  generalize hω0 : ω ++ [y] = ω0 at eb bx
  generalize ω.length = b at eb bx
  obtain ⟨d1, ω1, h1, e1, _, b1⟩ := takeE (b := b) (k := 900000002) (m := 2) (bx.mono (by omega)) (by omega) (by omega)
  obtain ⟨d2, ω2, h2, e2, _, b2⟩ := takeE (m := 8) (k := 900000001) b1 (by omega) (by omega)
  have e1 : F__law_take [.obj b, .int 2] ω0 = _ := e1
  have e2 : F__law_take [.obj b, .int 8] ω1 = _ := e2
  generalize hg : decide ((d1 : Int) = 0) = g
  by_cases hc : d2 = 0
  · have hd2 : decide ((d2 : Int) = 0) = true := decide_eq_true (by omega)
    by_cases h20 : k < 2
    · skip
      obtain ⟨d3, ω3, h3, e3, _, b3⟩ := takeE (m := 24) (k := 900000000) b2 (by omega) (by omega)
      have e3 : F__law_take [.obj b, .int 24] ω2 = _ := e3
      have qs : (9 : Int) + (d3 : Int) = ((9 + d3 : Nat) : Int) := by omega
      obtain ⟨ys, ω4, e4, hy, _, b4⟩ := rows_lc (C := C) (b := b) (k := 800000000) (sz := 9 + d3) (s0 := .dat (.scr (ns.map D.int))) (s1 := .dat (.int k)) (s3 := .dat (.bl g)) (s4 := .dat (.bl true)) (s5 := .dat (.int (9 + d3 : Nat))) (s6 := s6) (s7 := s7) (b3.mono (by omega)) (by omega)
      have hr := fun γ ω => r1n (γ := γ) (ω := ω) (m := 9 + d3) (by omega)
      have kf : decide ((k : Int) < 2) = true := decide_eq_true (by omega)
      obtain ⟨ω6, e6, b6⟩ := life_ok (C := C) (b := b) (k := 10) (steps := 99) (xs := ys) (g := g) (b4.mono (by omega)) (by omega) (by omega) (by omega)
      have e6 : F__law_life_right C [.obj b, .tup (ys.map D.int), .int 99, .bl g] ω4 = _ := e6
      have hZ : ∀ d ∈ DL.cutD (ys.map D.int) none (some (-1)), d ∈ ys.map D.int := fun d hd => List.mem_of_mem_drop (List.mem_of_mem_take hd)
      have lZ : (DL.cutD (ys.map D.int) none (some (-1))).length ≤ 32 := by
        unfold DL.cutD
        rw [List.length_take, List.length_drop, List.length_map]
        omega
      have hadd : ∀ (ω : List OB) (d : D), oAdd ω (.tup (DL.cutD (ys.map D.int) none (some (-1)))) (.tup [d]) = some (.tup (DL.cutD (ys.map D.int) none (some (-1)) ++ [d])) := fun ω d => DL.v_addT (by simp; omega)
      obtain ⟨ω7, F, e7, g7, pm, _, b7⟩ := mixed_ok (k := 0) (xs := [D.non, .int 7, .lst (ys.map D.int), .tup [], .tup rep33, .tup (DL.cutD (ys.map D.int) none (some (-1)) ++ [.non]), .tup (DL.cutD (ys.map D.int) none (some (-1)) ++ [.bl true]), .str "12", .dic [] [], .tup (DL.cutD (ys.map D.int) none (some (-1)) ++ [.lst [.int 1]])]) (b6.mono (by simp)) (by simp)
      obtain ⟨c, r, rfl⟩ : ∃ c r, F = c :: r := by
        have := pm.length_eq
        cases F with
        | nil => cases this
        | cons c r => exact ⟨c, r, rfl⟩
      obtain ⟨nr, pc⟩ := bad_rows (ys := ys) (by omega) hZ (by omega) (pm.mem_iff.mp List.mem_cons_self)
      have e8 := made_no (C := C) (ω := ω7) (g := g) (nr _)
      have sm := fun ω => same_ok (pl_told (w := "row") pc) 9 ω (by omega)
      refine ⟨_, _, _, _, _, _, _, _, _, by
        simp only [fb_law_1, startD, List.map, List.length, Nat.sub_self, List.replicate, List.append_nil, List.cons_append, List.nil_append, Nat.reduceSub, Nat.reduceAdd, List.set, rb_ok, rb_exc, rb_bad, x_bind, x_pure, x_some, x_none, x_badM, x_c, x_e2, x_e1, x_tB, x_asB, chK_t, chK_f, x_eCh, pick_t, pick_f, x_andM, x_orM, x_notM, x_and, x_or, x_not, x_if, x_nil, x_cons, szL0, szL1, szL2, szL3, szL4, szL6, szL7, szL8, szL10, szT0, szT1, szT2, szT3, szT4, x_tup, x_nlst, x_call, x_ncall, x_oNone, x_oSome, x_asI, x_sl, x_flst, x_alloc, bk_ok, bk_exc, x_fun, x_funK, opt_some, x_fld, x_mt, x_meth, mkK_ok, mkK_exc, x_make, x_makeK, x_next, x_seq, th_nx, th_rt, th_bk, th_ct, th_exc, x_drop, x_sret, x_sif, x_set, asgK_some, x_asg, tg_tp, tg_nm, setAll_nil, setAll_cons, parK_ok, x_par, par3K_ok, x_par3, x_sub, x_sfld, x_for, x_iL, x_iT, x_asL, x_asT, x_iR1, x_iR2, x_nlc, raK_ok, x_raise, fin_rt, fin_nx, fin_exc, x_try, try_rt, ev0, ev1, ev2, ev3, ev4, ev5, ev6, ev7, ev8, ev9, ev10, ev11, ev12, ev13, ev14, DL.v_sub, DL.v_add, DL.v_lt, DL.v_le, DL.v_gt, DL.v_ge, DL.v_fdiv2, DL.v_neg, DL.v_abs, DL.v_int, DL.v_min2, DL.v_max2, DL.v_eqI, DL.v_neI, DL.v_eqB, DL.v_neB, DL.v_isN, DL.v_notN, DL.v_isB, DL.v_e0l, DL.vL_lst, DL.isS_some, DL.v_ixL, DL.v_ixS, DL.v_ixT, DL.atI_0, DL.atI_1, DL.atI_2, DL.atI_3, DL.atI_4, DL.atI_5, DL.v_lenL, DL.v_lenS, DL.v_lenT, DL.v_lenD, DL.v_sumL, DL.v_sumT, DL.v_tupL, DL.v_tupT, DL.v_listT, DL.v_listL, DL.v_slT, DL.v_slL, DL.v_slS, DL.i_ii, DL.i_ib, DL.i_is, DL.i_id, DL.i_il, DL.i_it, DL.i_bi, DL.i_bb, DL.i_bt, DL.i_ni, DL.i_nb, DL.i_nt, DL.i_si, DL.i_sb, DL.i_ss, DL.i_st, DL.i_li, DL.i_lb, DL.i_ls, DL.i_ld, DL.i_ll, DL.i_lt, DL.i_ti, DL.i_tb, DL.i_ts, DL.i_td, DL.i_tl, DL.i_tt, DL.i_di, DL.i_db, DL.i_ds, DL.i_dd, DL.i_dt, DL.x_rev, DL.isNonD, e0, eb, hω0, e1, hg, e2, hd2, e3, qs, hr, wipeD, e4, kf, e6, Bool.not_true, mul33, hadd, e7, DL.v_ixO g7, e8, sm]
        rfl, rfl⟩
    · skip
      obtain ⟨d3, ω3, h3, e3, _, b3⟩ := takeE (m := 24) (k := 900000000) b2 (by omega) (by omega)
      have e3 : F__law_take [.obj b, .int 24] ω2 = _ := e3
      have qs : (9 : Int) + (d3 : Int) = ((9 + d3 : Nat) : Int) := by omega
      obtain ⟨ys, ω4, e4, hy, _, b4⟩ := rows_lc (C := C) (b := b) (k := 800000000) (sz := 9 + d3) (s0 := .dat (.scr (ns.map D.int))) (s1 := .dat (.int k)) (s3 := .dat (.bl g)) (s4 := .dat (.bl true)) (s5 := .dat (.int (9 + d3 : Nat))) (s6 := s6) (s7 := s7) (b3.mono (by omega)) (by omega)
      have hr := fun γ ω => r1n (γ := γ) (ω := ω) (m := 9 + d3) (by omega)
      have kf : decide ((k : Int) < 2) = false := decide_eq_false (by omega)
      obtain ⟨d5, ω5, h5, e5, _, b5⟩ := takeE (m := 9) (k := 700000000) (b4.mono (by omega)) (by omega) (by omega)
      have e5 : F__law_take [.obj b, .int 9] ω4 = _ := e5
      have qt : (4 : Int) + (d5 : Int) = ((4 + d5 : Nat) : Int) := by omega
      obtain ⟨ω6, e6, b6⟩ := life_ok (C := C) (b := b) (k := 10) (steps := 4 + d5) (xs := ys) (g := g) (b5.mono (by omega)) (by omega) (by omega) (by omega)
      have e6 : F__law_life_right C [.obj b, .tup (ys.map D.int), .int (4 + d5 : Nat), .bl g] ω5 = _ := e6
      have hZ : ∀ d ∈ DL.cutD (ys.map D.int) none (some (-1)), d ∈ ys.map D.int := fun d hd => List.mem_of_mem_drop (List.mem_of_mem_take hd)
      have lZ : (DL.cutD (ys.map D.int) none (some (-1))).length ≤ 32 := by
        unfold DL.cutD
        rw [List.length_take, List.length_drop, List.length_map]
        omega
      have hadd : ∀ (ω : List OB) (d : D), oAdd ω (.tup (DL.cutD (ys.map D.int) none (some (-1)))) (.tup [d]) = some (.tup (DL.cutD (ys.map D.int) none (some (-1)) ++ [d])) := fun ω d => DL.v_addT (by simp; omega)
      obtain ⟨ω7, F, e7, g7, pm, _, b7⟩ := mixed_ok (k := 0) (xs := [D.non, .int 7, .lst (ys.map D.int), .tup [], .tup rep33, .tup (DL.cutD (ys.map D.int) none (some (-1)) ++ [.non]), .tup (DL.cutD (ys.map D.int) none (some (-1)) ++ [.bl true]), .str "12", .dic [] [], .tup (DL.cutD (ys.map D.int) none (some (-1)) ++ [.lst [.int 1]])]) (b6.mono (by simp)) (by simp)
      obtain ⟨c, r, rfl⟩ : ∃ c r, F = c :: r := by
        have := pm.length_eq
        cases F with
        | nil => cases this
        | cons c r => exact ⟨c, r, rfl⟩
      obtain ⟨nr, pc⟩ := bad_rows (ys := ys) (by omega) hZ (by omega) (pm.mem_iff.mp List.mem_cons_self)
      have e8 := made_no (C := C) (ω := ω7) (g := g) (nr _)
      have sm := fun ω => same_ok (pl_told (w := "row") pc) 9 ω (by omega)
      refine ⟨_, _, _, _, _, _, _, _, _, by
        simp only [fb_law_1, startD, List.map, List.length, Nat.sub_self, List.replicate, List.append_nil, List.cons_append, List.nil_append, Nat.reduceSub, Nat.reduceAdd, List.set, rb_ok, rb_exc, rb_bad, x_bind, x_pure, x_some, x_none, x_badM, x_c, x_e2, x_e1, x_tB, x_asB, chK_t, chK_f, x_eCh, pick_t, pick_f, x_andM, x_orM, x_notM, x_and, x_or, x_not, x_if, x_nil, x_cons, szL0, szL1, szL2, szL3, szL4, szL6, szL7, szL8, szL10, szT0, szT1, szT2, szT3, szT4, x_tup, x_nlst, x_call, x_ncall, x_oNone, x_oSome, x_asI, x_sl, x_flst, x_alloc, bk_ok, bk_exc, x_fun, x_funK, opt_some, x_fld, x_mt, x_meth, mkK_ok, mkK_exc, x_make, x_makeK, x_next, x_seq, th_nx, th_rt, th_bk, th_ct, th_exc, x_drop, x_sret, x_sif, x_set, asgK_some, x_asg, tg_tp, tg_nm, setAll_nil, setAll_cons, parK_ok, x_par, par3K_ok, x_par3, x_sub, x_sfld, x_for, x_iL, x_iT, x_asL, x_asT, x_iR1, x_iR2, x_nlc, raK_ok, x_raise, fin_rt, fin_nx, fin_exc, x_try, try_rt, ev0, ev1, ev2, ev3, ev4, ev5, ev6, ev7, ev8, ev9, ev10, ev11, ev12, ev13, ev14, DL.v_sub, DL.v_add, DL.v_lt, DL.v_le, DL.v_gt, DL.v_ge, DL.v_fdiv2, DL.v_neg, DL.v_abs, DL.v_int, DL.v_min2, DL.v_max2, DL.v_eqI, DL.v_neI, DL.v_eqB, DL.v_neB, DL.v_isN, DL.v_notN, DL.v_isB, DL.v_e0l, DL.vL_lst, DL.isS_some, DL.v_ixL, DL.v_ixS, DL.v_ixT, DL.atI_0, DL.atI_1, DL.atI_2, DL.atI_3, DL.atI_4, DL.atI_5, DL.v_lenL, DL.v_lenS, DL.v_lenT, DL.v_lenD, DL.v_sumL, DL.v_sumT, DL.v_tupL, DL.v_tupT, DL.v_listT, DL.v_listL, DL.v_slT, DL.v_slL, DL.v_slS, DL.i_ii, DL.i_ib, DL.i_is, DL.i_id, DL.i_il, DL.i_it, DL.i_bi, DL.i_bb, DL.i_bt, DL.i_ni, DL.i_nb, DL.i_nt, DL.i_si, DL.i_sb, DL.i_ss, DL.i_st, DL.i_li, DL.i_lb, DL.i_ls, DL.i_ld, DL.i_ll, DL.i_lt, DL.i_ti, DL.i_tb, DL.i_ts, DL.i_td, DL.i_tl, DL.i_tt, DL.i_di, DL.i_db, DL.i_ds, DL.i_dd, DL.i_dt, DL.x_rev, DL.isNonD, e0, eb, hω0, e1, hg, e2, hd2, e3, qs, hr, wipeD, e4, kf, e5, qt, e6, Bool.not_true, mul33, hadd, e7, DL.v_ixO g7, e8, sm]
        rfl, rfl⟩
  · have hd2 : decide ((d2 : Int) = 0) = false := decide_eq_false (by omega)
    obtain ⟨d3, ω3, h3, e3, _, b3⟩ := takeE (m := 8) (k := 900000000) b2 (by omega) (by omega)
    have e3 : F__law_take [.obj b, .int 8] ω2 = _ := e3
    have qs : (1 : Int) + (d3 : Int) = ((1 + d3 : Nat) : Int) := by omega
    obtain ⟨ys, ω4, e4, hy, _, b4⟩ := rows_lc (C := C) (b := b) (k := 800000000) (sz := 1 + d3) (s0 := .dat (.scr (ns.map D.int))) (s1 := .dat (.int k)) (s3 := .dat (.bl g)) (s4 := .dat (.bl false)) (s5 := .dat (.int (1 + d3 : Nat))) (s6 := s6) (s7 := s7) (b3.mono (by omega)) (by omega)
    have hr := fun γ ω => r1n (γ := γ) (ω := ω) (m := 1 + d3) (by omega)
    obtain ⟨d5, ω5, h5, e5, _, b5⟩ := takeE (m := 9) (k := 700000000) (b4.mono (by omega)) (by omega) (by omega)
    have e5 : F__law_take [.obj b, .int 9] ω4 = _ := e5
    have qt : (4 : Int) + (d5 : Int) = ((4 + d5 : Nat) : Int) := by omega
    obtain ⟨ω6, e6, b6⟩ := life_ok (C := C) (b := b) (k := 10) (steps := 4 + d5) (xs := ys) (g := g) (b5.mono (by omega)) (by omega) (by omega) (by omega)
    have e6 : F__law_life_right C [.obj b, .tup (ys.map D.int), .int (4 + d5 : Nat), .bl g] ω5 = _ := e6
    have hZ : ∀ d ∈ DL.cutD (ys.map D.int) none (some (-1)), d ∈ ys.map D.int := fun d hd => List.mem_of_mem_drop (List.mem_of_mem_take hd)
    have lZ : (DL.cutD (ys.map D.int) none (some (-1))).length ≤ 32 := by
      unfold DL.cutD
      rw [List.length_take, List.length_drop, List.length_map]
      omega
    have hadd : ∀ (ω : List OB) (d : D), oAdd ω (.tup (DL.cutD (ys.map D.int) none (some (-1)))) (.tup [d]) = some (.tup (DL.cutD (ys.map D.int) none (some (-1)) ++ [d])) := fun ω d => DL.v_addT (by simp; omega)
    obtain ⟨ω7, F, e7, g7, pm, _, b7⟩ := mixed_ok (k := 0) (xs := [D.non, .int 7, .lst (ys.map D.int), .tup [], .tup rep33, .tup (DL.cutD (ys.map D.int) none (some (-1)) ++ [.non]), .tup (DL.cutD (ys.map D.int) none (some (-1)) ++ [.bl true]), .str "12", .dic [] [], .tup (DL.cutD (ys.map D.int) none (some (-1)) ++ [.lst [.int 1]])]) (b6.mono (by simp)) (by simp)
    obtain ⟨c, r, rfl⟩ : ∃ c r, F = c :: r := by
      have := pm.length_eq
      cases F with
      | nil => cases this
      | cons c r => exact ⟨c, r, rfl⟩
    obtain ⟨nr, pc⟩ := bad_rows (ys := ys) (by omega) hZ (by omega) (pm.mem_iff.mp List.mem_cons_self)
    have e8 := made_no (C := C) (ω := ω7) (g := g) (nr _)
    have sm := fun ω => same_ok (pl_told (w := "row") pc) 9 ω (by omega)
    refine ⟨_, _, _, _, _, _, _, _, _, by
      simp only [fb_law_1, startD, List.map, List.length, Nat.sub_self, List.replicate, List.append_nil, List.cons_append, List.nil_append, Nat.reduceSub, Nat.reduceAdd, List.set, rb_ok, rb_exc, rb_bad, x_bind, x_pure, x_some, x_none, x_badM, x_c, x_e2, x_e1, x_tB, x_asB, chK_t, chK_f, x_eCh, pick_t, pick_f, x_andM, x_orM, x_notM, x_and, x_or, x_not, x_if, x_nil, x_cons, szL0, szL1, szL2, szL3, szL4, szL6, szL7, szL8, szL10, szT0, szT1, szT2, szT3, szT4, x_tup, x_nlst, x_call, x_ncall, x_oNone, x_oSome, x_asI, x_sl, x_flst, x_alloc, bk_ok, bk_exc, x_fun, x_funK, opt_some, x_fld, x_mt, x_meth, mkK_ok, mkK_exc, x_make, x_makeK, x_next, x_seq, th_nx, th_rt, th_bk, th_ct, th_exc, x_drop, x_sret, x_sif, x_set, asgK_some, x_asg, tg_tp, tg_nm, setAll_nil, setAll_cons, parK_ok, x_par, par3K_ok, x_par3, x_sub, x_sfld, x_for, x_iL, x_iT, x_asL, x_asT, x_iR1, x_iR2, x_nlc, raK_ok, x_raise, fin_rt, fin_nx, fin_exc, x_try, try_rt, ev0, ev1, ev2, ev3, ev4, ev5, ev6, ev7, ev8, ev9, ev10, ev11, ev12, ev13, ev14, DL.v_sub, DL.v_add, DL.v_lt, DL.v_le, DL.v_gt, DL.v_ge, DL.v_fdiv2, DL.v_neg, DL.v_abs, DL.v_int, DL.v_min2, DL.v_max2, DL.v_eqI, DL.v_neI, DL.v_eqB, DL.v_neB, DL.v_isN, DL.v_notN, DL.v_isB, DL.v_e0l, DL.vL_lst, DL.isS_some, DL.v_ixL, DL.v_ixS, DL.v_ixT, DL.atI_0, DL.atI_1, DL.atI_2, DL.atI_3, DL.atI_4, DL.atI_5, DL.v_lenL, DL.v_lenS, DL.v_lenT, DL.v_lenD, DL.v_sumL, DL.v_sumT, DL.v_tupL, DL.v_tupT, DL.v_listT, DL.v_listL, DL.v_slT, DL.v_slL, DL.v_slS, DL.i_ii, DL.i_ib, DL.i_is, DL.i_id, DL.i_il, DL.i_it, DL.i_bi, DL.i_bb, DL.i_bt, DL.i_ni, DL.i_nb, DL.i_nt, DL.i_si, DL.i_sb, DL.i_ss, DL.i_st, DL.i_li, DL.i_lb, DL.i_ls, DL.i_ld, DL.i_ll, DL.i_lt, DL.i_ti, DL.i_tb, DL.i_ts, DL.i_td, DL.i_tl, DL.i_tt, DL.i_di, DL.i_db, DL.i_ds, DL.i_dd, DL.i_dt, DL.x_rev, DL.isNonD, e0, eb, hω0, e1, hg, e2, hd2, e3, qs, hr, wipeD, e4, e5, qt, e6, Bool.not_true, mul33, hadd, e7, DL.v_ixO g7, e8, sm]
      rfl, rfl⟩
theorem law_is : ∀ C, LawIs (F_law C) := by
  intro C ns hn
  have hm : ∃ m : Nat, m ≤ 4 ∧ (if (if ((ns.length : Nat) : Int) < 4 then ((ns.length : Nat) : Int) else 4) > 2 then (if ((ns.length : Nat) : Int) < 4 then ((ns.length : Nat) : Int) else 4) else 2) = (m : Int) := by
    refine ⟨(if (if ((ns.length : Nat) : Int) < 4 then ((ns.length : Nat) : Int) else 4) > 2 then (if ((ns.length : Nat) : Int) < 4 then ((ns.length : Nat) : Int) else 4) else 2).toNat, ?_, ?_⟩ <;> split <;> split <;> omega
  obtain ⟨m, hm4, hme⟩ := hm
  obtain ⟨γ', ω', e, z1, z2, z3, z4, z5, z6, z7, z8, rfl⟩ := for_ok (t := .nm 1) (body := fb_law_1 C) (fun i γ ω' => ∃ z1 z2 z3 z4 z5 z6 z7 z8 : SD, γ = [.dat (.scr (ns.map D.int)), z1, z2, z3, z4, z5, z6, z7, z8]) (ds := rangeD 0 (m : Int)) (γ := [.dat (.scr (ns.map D.int)), .no, .no, .no, .no, .no, .no, .no, .no]) (ω := []) ⟨_, _, _, _, _, _, _, _, rfl⟩ (by
    rintro i d γ ω' hd ⟨z1, z2, z3, z4, z5, z6, z7, z8, rfl⟩
    obtain ⟨rfl, hi⟩ := range_at hd
    obtain ⟨γ', ω'', y2, y3, y4, y5, y6, y7, y8, e, rfl⟩ := lawstep (C := C) (ns := ns) (k := i) (ω := ω') (s2 := z2) (s3 := z3) (s4 := z4) (s5 := z5) (s6 := z6) (s7 := z7) (s8 := z8) (by omega)
    exact ⟨_, _, _, rfl, e, _, _, _, _, _, _, _, _, rfl⟩)
  have hr := fun γ ω => r1n (γ := γ) (ω := ω) (m := m) (by omega)
  refine ⟨[], ω', ?_⟩
  simp only [F_law, m_law, startD, List.map_cons, List.map_nil, List.length_cons, List.length_nil, Nat.sub_self, List.replicate, List.append_nil, List.cons_append, List.nil_append, Nat.reduceSub, Nat.reduceAdd, List.set, rb_ok, rb_exc, rb_bad, x_bind, x_pure, x_some, x_none, x_badM, x_c, x_e2, x_e1, x_tB, x_asB, chK_t, chK_f, x_eCh, pick_t, pick_f, x_andM, x_orM, x_notM, x_and, x_or, x_not, x_if, x_nil, x_cons, szL0, szL1, szL2, szL3, szL4, szL6, szL7, szL8, szL10, szT0, szT1, szT2, szT3, szT4, x_tup, x_nlst, x_call, x_ncall, x_oNone, x_oSome, x_asI, x_sl, x_flst, x_alloc, bk_ok, bk_exc, x_fun, x_funK, opt_some, x_fld, x_mt, x_meth, mkK_ok, mkK_exc, x_make, x_makeK, x_next, x_seq, th_nx, th_rt, th_bk, th_ct, th_exc, x_drop, x_sret, x_sif, x_set, asgK_some, x_asg, tg_tp, tg_nm, setAll_nil, setAll_cons, parK_ok, x_par, par3K_ok, x_par3, x_sub, x_sfld, x_for, x_iL, x_iT, x_asL, x_asT, x_iR1, x_iR2, x_nlc, raK_ok, x_raise, fin_rt, fin_nx, fin_exc, x_try, try_rt, ev0, ev1, ev2, ev3, ev4, ev5, ev6, ev7, ev8, ev9, ev10, ev11, ev12, ev13, ev14, DL.v_sub, DL.v_add, DL.v_lt, DL.v_le, DL.v_gt, DL.v_ge, DL.v_fdiv2, DL.v_neg, DL.v_abs, DL.v_int, DL.v_min2, DL.v_max2, DL.v_eqI, DL.v_neI, DL.v_eqB, DL.v_neB, DL.v_isN, DL.v_notN, DL.v_isB, DL.v_e0l, DL.vL_lst, DL.isS_some, DL.v_ixL, DL.v_ixS, DL.v_ixT, DL.atI_0, DL.atI_1, DL.atI_2, DL.atI_3, DL.atI_4, DL.atI_5, DL.v_lenL, DL.v_lenS, DL.v_lenT, DL.v_lenD, DL.v_sumL, DL.v_sumT, DL.v_tupL, DL.v_tupT, DL.v_listT, DL.v_listL, DL.v_slT, DL.v_slL, DL.v_slS, DL.i_ii, DL.i_ib, DL.i_is, DL.i_id, DL.i_il, DL.i_it, DL.i_bi, DL.i_bb, DL.i_bt, DL.i_ni, DL.i_nb, DL.i_nt, DL.i_si, DL.i_sb, DL.i_ss, DL.i_st, DL.i_li, DL.i_lb, DL.i_ls, DL.i_ld, DL.i_ll, DL.i_lt, DL.i_ti, DL.i_tb, DL.i_ts, DL.i_td, DL.i_tl, DL.i_tt, DL.i_di, DL.i_db, DL.i_ds, DL.i_dd, DL.i_dt, DL.x_rev, DL.isNonD, List.length_map, hme, hr, e]
end K80

set_option Elab.async false
set_option linter.all false
set_option maxRecDepth 100000
set_option maxHeartbeats 4000000
namespace K80
open PySem PySem.Spec PyProof.Rows L2 DL
def top (i : Nat) : Stmt := PySem.Challenge.pw_treebench_k80_versions_of_rows.main.body.getD i (.Pass ⟨0, 0, 0, 0⟩)
abbrev s__law_box : Stmt := top 22
theorem sc__law_box : FnScope ["great"] ["great"] (defScope s__law_box) := ⟨rfl, rfl, rfl, by decide +kernel, rfl, by decide +kernel, by decide +kernel⟩
abbrev s__law_cell : Stmt := top 21
theorem sc__law_cell : FnScope ["script", "k"] ["script", "k"] (defScope s__law_cell) := ⟨rfl, rfl, rfl, by decide +kernel, rfl, by decide +kernel, by decide +kernel⟩
abbrev s_Versions_nodes : Stmt := inClass (top 19) 11
theorem sc_Versions_nodes : FnScope ["self"] ["self"] (defScope s_Versions_nodes) := ⟨rfl, rfl, rfl, by decide +kernel, rfl, by decide +kernel, by decide +kernel⟩
abbrev s_is_integer : Stmt := top 9
theorem sc_is_integer : FnScope ["value"] ["value"] (defScope s_is_integer) := ⟨rfl, rfl, rfl, by decide +kernel, rfl, by decide +kernel, by decide +kernel⟩
abbrev s_is_between : Stmt := top 10
theorem sc_is_between : FnScope ["value", "least", "most"] ["value", "least", "most"] (defScope s_is_between) := ⟨rfl, rfl, rfl, by decide +kernel, rfl, by decide +kernel, by decide +kernel⟩
abbrev s_Versions_check_version : Stmt := inClass (top 19) 3
theorem sc_Versions_check_version : FnScope ["self", "version"] ["self", "version"] (defScope s_Versions_check_version) := ⟨rfl, rfl, rfl, by decide +kernel, rfl, by decide +kernel, by decide +kernel⟩
abbrev s_Versions_keep : Stmt := inClass (top 19) 1
theorem sc_Versions_keep : FnScope ["self", "total", "left", "right"] ["self", "total", "left", "right"] (defScope s_Versions_keep) := ⟨rfl, rfl, rfl, by decide +kernel, rfl, by decide +kernel, by decide +kernel⟩
abbrev s_Versions_way_to : Stmt := inClass (top 19) 4
theorem sc_Versions_way_to : FnScope ["self", "version", "index", "found", "here", "low", "high", "middle"] ["self", "version", "index"] (defScope s_Versions_way_to) := ⟨rfl, rfl, rfl, by decide +kernel, rfl, by decide +kernel, by decide +kernel⟩
abbrev s_Versions_change : Stmt := inClass (top 19) 5
theorem sc_Versions_change : FnScope ["self", "version", "index", "number", "made", "node", "to_right", "total", "left", "right"] ["self", "version", "index", "number"] (defScope s_Versions_change) := ⟨rfl, rfl, rfl, by decide +kernel, rfl, by decide +kernel, by decide +kernel⟩
abbrev s_Versions_parent : Stmt := inClass (top 19) 9
theorem sc_Versions_parent : FnScope ["self", "version"] ["self", "version"] (defScope s_Versions_parent) := ⟨rfl, rfl, rfl, by decide +kernel, rfl, by decide +kernel, by decide +kernel⟩
abbrev s_Versions_items : Stmt := inClass (top 19) 6
theorem sc_Versions_items : FnScope ["self", "version", "found", "waits", "total", "left", "right"] ["self", "version"] (defScope s_Versions_items) := ⟨rfl, rfl, rfl, by decide +kernel, rfl, by decide +kernel, by decide +kernel⟩
abbrev s_Versions_row : Stmt := inClass (top 19) 7
theorem sc_Versions_row : FnScope ["self", "version"] ["self", "version"] (defScope s_Versions_row) := ⟨rfl, rfl, rfl, by decide +kernel, rfl, by decide +kernel, by decide +kernel⟩
abbrev s_check_range : Stmt := top 16
theorem sc_check_range : FnScope ["low", "high", "size"] ["low", "high", "size"] (defScope s_check_range) := ⟨rfl, rfl, rfl, by decide +kernel, rfl, by decide +kernel, by decide +kernel⟩
abbrev s_Versions_total : Stmt := inClass (top 19) 8
theorem sc_Versions_total : FnScope ["self", "version", "low", "high", "found", "waits", "node", "first", "last", "total", "left", "right", "middle"] ["self", "version", "low", "high"] (defScope s_Versions_total) := ⟨rfl, rfl, rfl, by decide +kernel, rfl, by decide +kernel, by decide +kernel⟩
abbrev s_Versions_unlike : Stmt := inClass (top 19) 10
theorem sc_Versions_unlike : FnScope ["self", "one", "other", "found", "waits", "first", "second", "low", "high", "middle"] ["self", "one", "other"] (defScope s_Versions_unlike) := ⟨rfl, rfl, rfl, by decide +kernel, rfl, by decide +kernel, by decide +kernel⟩
abbrev s__law_asked : Stmt := top 28
theorem sc__law_asked : FnScope ["kept", "word", "args", "by_name", "e"] ["kept", "word", "args", "by_name"] (defScope s__law_asked) := ⟨rfl, rfl, rfl, by decide +kernel, rfl, by decide +kernel, by decide +kernel⟩
abbrev s__law_same : Stmt := top 24
theorem sc__law_same : FnScope ["told", "due", "key", "k"] ["told", "due"] (defScope s__law_same) := ⟨rfl, rfl, rfl, by decide +kernel, rfl, by decide +kernel, by decide +kernel⟩
abbrev s__law_take : Stmt := top 23
theorem sc__law_take : FnScope ["box", "many", "digit", "mixed"] ["box", "many"] (defScope s__law_take) := ⟨rfl, rfl, rfl, by decide +kernel, rfl, by decide +kernel, by decide +kernel⟩
abbrev s__law_all_right : Stmt := top 30
theorem sc__law_all_right : FnScope ["box", "kept", "rows", "parents", "by_name", "turn", "version", "other", "low", "high", "told", "due", "k"] ["box", "kept", "rows", "parents", "by_name"] (defScope s__law_all_right) := ⟨rfl, rfl, rfl, by decide +kernel, rfl, by decide +kernel, by decide +kernel⟩
abbrev s__law_digits : Stmt := top 29
theorem sc__law_digits : FnScope ["size", "found"] ["size"] (defScope s__law_digits) := ⟨rfl, rfl, rfl, by decide +kernel, rfl, by decide +kernel, by decide +kernel⟩
abbrev s_Versions_grow : Stmt := inClass (top 19) 2
theorem sc_Versions_grow : FnScope ["self", "row", "low", "high", "middle", "left", "right"] ["self", "row", "low", "high"] (defScope s_Versions_grow) := ⟨rfl, rfl, rfl, by decide +kernel, rfl, by decide +kernel, by decide +kernel⟩
abbrev s_check_row : Stmt := top 15
theorem sc_check_row : FnScope ["row", "number"] ["row"] (defScope s_check_row) := ⟨rfl, rfl, rfl, by decide +kernel, rfl, by decide +kernel, by decide +kernel⟩
abbrev s_Versions_init : Stmt := inClass (top 19) 0
theorem sc_Versions_init : FnScope ["self", "row"] ["self", "row"] (defScope s_Versions_init) := ⟨rfl, rfl, rfl, by decide +kernel, rfl, by decide +kernel, by decide +kernel⟩
abbrev s__law_made : Stmt := top 27
theorem sc__law_made : FnScope ["row", "by_name", "e"] ["row", "by_name"] (defScope s__law_made) := ⟨rfl, rfl, rfl, by decide +kernel, rfl, by decide +kernel, by decide +kernel⟩
abbrev s__law_number : Stmt := top 26
theorem sc__law_number : FnScope ["box"] ["box"] (defScope s__law_number) := ⟨rfl, rfl, rfl, by decide +kernel, rfl, by decide +kernel, by decide +kernel⟩
abbrev s__law_mixed : Stmt := top 25
theorem sc__law_mixed : FnScope ["box", "items", "left", "found"] ["box", "items"] (defScope s__law_mixed) := ⟨rfl, rfl, rfl, by decide +kernel, rfl, by decide +kernel, by decide +kernel⟩
abbrev s__law_refused_right : Stmt := top 31
theorem sc__law_refused_right : FnScope ["box", "kept", "rows", "by_name", "size", "before", "bad", "told", "index", "number", "low", "high", "k"] ["box", "kept", "rows", "by_name"] (defScope s__law_refused_right) := ⟨rfl, rfl, rfl, by decide +kernel, rfl, by decide +kernel, by decide +kernel⟩
abbrev s__law_life_right : Stmt := top 32
theorem sc__law_life_right : FnScope ["box", "row", "steps", "by_name", "kept", "rows", "parents", "most", "nodes", "turn", "version", "index", "number", "now", "told"] ["box", "row", "steps", "by_name"] (defScope s__law_life_right) := ⟨rfl, rfl, rfl, by decide +kernel, rfl, by decide +kernel, by decide +kernel⟩
abbrev s_law : Stmt := top 33
theorem sc_law : FnScope ["script", "k", "box", "by_name", "great", "size", "row", "bad", "turn"] ["script"] (defScope s_law) := ⟨rfl, rfl, rfl, by decide +kernel, rfl, by decide +kernel, by decide +kernel⟩
structure Ad where
  f__law_box : Addr
  d__law_box : FuncData
  f__law_cell : Addr
  d__law_cell : FuncData
  f_Versions_nodes : Addr
  d_Versions_nodes : FuncData
  f_is_integer : Addr
  d_is_integer : FuncData
  f_is_between : Addr
  d_is_between : FuncData
  f_Versions_check_version : Addr
  d_Versions_check_version : FuncData
  f_Versions_keep : Addr
  d_Versions_keep : FuncData
  f_Versions_way_to : Addr
  d_Versions_way_to : FuncData
  f_Versions_change : Addr
  d_Versions_change : FuncData
  f_Versions_parent : Addr
  d_Versions_parent : FuncData
  f_Versions_items : Addr
  d_Versions_items : FuncData
  f_Versions_row : Addr
  d_Versions_row : FuncData
  f_check_range : Addr
  d_check_range : FuncData
  f_Versions_total : Addr
  d_Versions_total : FuncData
  f_Versions_unlike : Addr
  d_Versions_unlike : FuncData
  f__law_asked : Addr
  d__law_asked : FuncData
  f__law_same : Addr
  d__law_same : FuncData
  f__law_take : Addr
  d__law_take : FuncData
  f__law_all_right : Addr
  d__law_all_right : FuncData
  f__law_digits : Addr
  d__law_digits : FuncData
  f_Versions_grow : Addr
  d_Versions_grow : FuncData
  f_check_row : Addr
  d_check_row : FuncData
  f_Versions_init : Addr
  d_Versions_init : FuncData
  f__law_made : Addr
  d__law_made : FuncData
  f__law_number : Addr
  d__law_number : FuncData
  f__law_mixed : Addr
  d__law_mixed : FuncData
  f__law_refused_right : Addr
  d__law_refused_right : FuncData
  f__law_life_right : Addr
  d__law_life_right : FuncData
  f_law : Addr
  d_law : FuncData
  C_Versions : Addr
structure Tx (P : Program) (w : World) (K : PySem.W.Frag) (mg : Str → Option Value) (base : Heap) (a : Ad) : Prop where
  fn__law_box : Fun K "_law_box" "_law_box" s__law_box a.f__law_box a.d__law_box
  d__law_box : Def K mg "_law_box" a.f__law_box a.d__law_box ["great"]
  fn__law_cell : Fun K "_law_cell" "_law_cell" s__law_cell a.f__law_cell a.d__law_cell
  d__law_cell : Def K mg "_law_cell" a.f__law_cell a.d__law_cell ["script", "k"]
  fn_Versions_nodes : Fun K "nodes" "Versions.nodes" s_Versions_nodes a.f_Versions_nodes a.d_Versions_nodes
  b_Versions_nodes : Binds K a.d_Versions_nodes ["self"] []
  me_Versions_nodes : Meth K a.C_Versions "nodes" a.f_Versions_nodes
  fn_is_integer : Fun K "is_integer" "is_integer" s_is_integer a.f_is_integer a.d_is_integer
  d_is_integer : Def K mg "is_integer" a.f_is_integer a.d_is_integer ["value"]
  fn_is_between : Fun K "is_between" "is_between" s_is_between a.f_is_between a.d_is_between
  d_is_between : Def K mg "is_between" a.f_is_between a.d_is_between ["value", "least", "most"]
  fn_Versions_check_version : Fun K "check_version" "Versions.check_version" s_Versions_check_version a.f_Versions_check_version a.d_Versions_check_version
  b_Versions_check_version : Binds K a.d_Versions_check_version ["self", "version"] []
  me_Versions_check_version : Meth K a.C_Versions "check_version" a.f_Versions_check_version
  fn_Versions_keep : Fun K "keep" "Versions.keep" s_Versions_keep a.f_Versions_keep a.d_Versions_keep
  b_Versions_keep : Binds K a.d_Versions_keep ["self", "total", "left", "right"] []
  me_Versions_keep : Meth K a.C_Versions "keep" a.f_Versions_keep
  fn_Versions_way_to : Fun K "way_to" "Versions.way_to" s_Versions_way_to a.f_Versions_way_to a.d_Versions_way_to
  b_Versions_way_to : Binds K a.d_Versions_way_to ["self", "version", "index"] []
  me_Versions_way_to : Meth K a.C_Versions "way_to" a.f_Versions_way_to
  fn_Versions_change : Fun K "change" "Versions.change" s_Versions_change a.f_Versions_change a.d_Versions_change
  b_Versions_change : Binds K a.d_Versions_change ["self", "version", "index", "number"] []
  me_Versions_change : Meth K a.C_Versions "change" a.f_Versions_change
  fn_Versions_parent : Fun K "parent" "Versions.parent" s_Versions_parent a.f_Versions_parent a.d_Versions_parent
  b_Versions_parent : Binds K a.d_Versions_parent ["self", "version"] []
  me_Versions_parent : Meth K a.C_Versions "parent" a.f_Versions_parent
  fn_Versions_items : Fun K "items" "Versions.items" s_Versions_items a.f_Versions_items a.d_Versions_items
  b_Versions_items : Binds K a.d_Versions_items ["self", "version"] []
  me_Versions_items : Meth K a.C_Versions "items" a.f_Versions_items
  fn_Versions_row : Fun K "row" "Versions.row" s_Versions_row a.f_Versions_row a.d_Versions_row
  b_Versions_row : Binds K a.d_Versions_row ["self", "version"] []
  me_Versions_row : Meth K a.C_Versions "row" a.f_Versions_row
  fn_check_range : Fun K "check_range" "check_range" s_check_range a.f_check_range a.d_check_range
  d_check_range : Def K mg "check_range" a.f_check_range a.d_check_range ["low", "high", "size"]
  fn_Versions_total : Fun K "total" "Versions.total" s_Versions_total a.f_Versions_total a.d_Versions_total
  b_Versions_total : Binds K a.d_Versions_total ["self", "version", "low", "high"] []
  me_Versions_total : Meth K a.C_Versions "total" a.f_Versions_total
  fn_Versions_unlike : Fun K "unlike" "Versions.unlike" s_Versions_unlike a.f_Versions_unlike a.d_Versions_unlike
  b_Versions_unlike : Binds K a.d_Versions_unlike ["self", "one", "other"] []
  me_Versions_unlike : Meth K a.C_Versions "unlike" a.f_Versions_unlike
  fn__law_asked : Fun K "_law_asked" "_law_asked" s__law_asked a.f__law_asked a.d__law_asked
  d__law_asked : Def K mg "_law_asked" a.f__law_asked a.d__law_asked ["kept", "word", "args", "by_name"]
  fn__law_same : Fun K "_law_same" "_law_same" s__law_same a.f__law_same a.d__law_same
  d__law_same : Def K mg "_law_same" a.f__law_same a.d__law_same ["told", "due"]
  fn__law_take : Fun K "_law_take" "_law_take" s__law_take a.f__law_take a.d__law_take
  d__law_take : Def K mg "_law_take" a.f__law_take a.d__law_take ["box", "many"]
  fn__law_all_right : Fun K "_law_all_right" "_law_all_right" s__law_all_right a.f__law_all_right a.d__law_all_right
  d__law_all_right : Def K mg "_law_all_right" a.f__law_all_right a.d__law_all_right ["box", "kept", "rows", "parents", "by_name"]
  fn__law_digits : Fun K "_law_digits" "_law_digits" s__law_digits a.f__law_digits a.d__law_digits
  d__law_digits : Def K mg "_law_digits" a.f__law_digits a.d__law_digits ["size"]
  fn_Versions_grow : Fun K "grow" "Versions.grow" s_Versions_grow a.f_Versions_grow a.d_Versions_grow
  b_Versions_grow : Binds K a.d_Versions_grow ["self", "row", "low", "high"] []
  me_Versions_grow : Meth K a.C_Versions "grow" a.f_Versions_grow
  fn_check_row : Fun K "check_row" "check_row" s_check_row a.f_check_row a.d_check_row
  d_check_row : Def K mg "check_row" a.f_check_row a.d_check_row ["row"]
  fn_Versions_init : Fun K "__init__" "Versions.__init__" s_Versions_init a.f_Versions_init a.d_Versions_init
  b_Versions_init : Binds K a.d_Versions_init ["self", "row"] []
  mk_Versions : Mk K a.C_Versions a.f_Versions_init
  fn__law_made : Fun K "_law_made" "_law_made" s__law_made a.f__law_made a.d__law_made
  d__law_made : Def K mg "_law_made" a.f__law_made a.d__law_made ["row", "by_name"]
  fn__law_number : Fun K "_law_number" "_law_number" s__law_number a.f__law_number a.d__law_number
  d__law_number : Def K mg "_law_number" a.f__law_number a.d__law_number ["box"]
  fn__law_mixed : Fun K "_law_mixed" "_law_mixed" s__law_mixed a.f__law_mixed a.d__law_mixed
  d__law_mixed : Def K mg "_law_mixed" a.f__law_mixed a.d__law_mixed ["box", "items"]
  fn__law_refused_right : Fun K "_law_refused_right" "_law_refused_right" s__law_refused_right a.f__law_refused_right a.d__law_refused_right
  d__law_refused_right : Def K mg "_law_refused_right" a.f__law_refused_right a.d__law_refused_right ["box", "kept", "rows", "by_name"]
  fn__law_life_right : Fun K "_law_life_right" "_law_life_right" s__law_life_right a.f__law_life_right a.d__law_life_right
  d__law_life_right : Def K mg "_law_life_right" a.f__law_life_right a.d__law_life_right ["box", "row", "steps", "by_name"]
  fn_law : Fun K "law" "law" s_law a.f_law a.d_law
  d_law : Def K mg "law" a.f_law a.d_law ["script"]
  kw_Versions_change_number_index_version : KwB a.d_Versions_change ["self", "version", "index", "number"] ["number", "index", "version"] 1 [2, 1, 0]
  kw_Versions_init_row : KwB a.d_Versions_init ["self", "row"] ["row"] 1 [0]
  kw_Versions_parent_version : KwB a.d_Versions_parent ["self", "version"] ["version"] 1 [0]
  kw_Versions_row_version : KwB a.d_Versions_row ["self", "version"] ["version"] 1 [0]
  kw_Versions_total_high_low_version : KwB a.d_Versions_total ["self", "version", "low", "high"] ["high", "low", "version"] 1 [2, 1, 0]
  kw_Versions_unlike_other_one : KwB a.d_Versions_unlike ["self", "one", "other"] ["other", "one"] 1 [1, 0]
  cl_Versions : Cls K a.C_Versions
  g_Versions : mg "Versions" = some (.ref a.C_Versions)
  na_kept : NoAttr K a.C_Versions "kept"
  na_parents : NoAttr K a.C_Versions "parents"
  na_size : NoAttr K a.C_Versions "size"
  na_tops : NoAttr K a.C_Versions "tops"
  n_abs : mg "abs" = none
  n_all : mg "all" = none
  n_bool : mg "bool" = none
  n_dict : mg "dict" = none
  n_int : mg "int" = none
  n_isinstance : mg "isinstance" = none
  n_len : mg "len" = none
  n_list : mg "list" = none
  n_max : mg "max" = none
  n_min : mg "min" = none
  n_range : mg "range" = none
  n_sorted : mg "sorted" = none
  n_str : mg "str" = none
  n_sum : mg "sum" = none
  n_tuple : mg "tuple" = none
  c_MOST_ROW : ∃ u, mg "MOST_ROW" = some u ∧ RelV (.int 32) u
  c_MOST_VERSIONS : ∃ u, mg "MOST_VERSIONS" = some u ∧ RelV (.int 100) u
  e_InvalidIndex : Err P w K mg base "InvalidIndex" "given"
  e_InvalidNumber : Err P w K mg base "InvalidNumber" "given"
  e_InvalidRange : Err P w K mg base "InvalidRange" "given"
  e_InvalidRow : Err P w K mg base "InvalidRow" "given"
  e_InvalidVersion : Err P w K mg base "InvalidVersion" "given"
  e_TooMany : Err P w K mg base "TooMany" "count"
  hv_InvalidIndex : ∃ C, mg "InvalidIndex" = some (.ref C) ∧ ErrX K C "given"
  hv_InvalidNumber : ∃ C, mg "InvalidNumber" = some (.ref C) ∧ ErrX K C "given"
  hv_InvalidRange : ∃ C, mg "InvalidRange" = some (.ref C) ∧ ErrX K C "given"
  hv_InvalidRow : ∃ C, mg "InvalidRow" = some (.ref C) ∧ ErrX K C "given"
  hv_InvalidVersion : ∃ C, mg "InvalidVersion" = some (.ref C) ∧ ErrX K C "given"
  hv_TooMany : ∃ C, mg "TooMany" = some (.ref C) ∧ ErrX K C "count"
  su__law_asked : ∀ (x : Str) (c : Value), x ∈ kn__law_asked → mg x = some c → SubOk K mg kn__law_asked subE x c
  su__law_made : ∀ (x : Str) (c : Value), x ∈ kn__law_made → mg x = some c → SubOk K mg kn__law_made subE x c
section
variable {P : Program} {w : World} {K : PySem.W.Frag} {mg : Str → Option Value} {base : Heap} {a : Ad}
end
end K80


set_option Elab.async false
set_option linter.all false
set_option maxRecDepth 100000
set_option maxHeartbeats 4000000
namespace K80
open PySem PySem.Spec PyProof.Rows L2 DL
section
variable {P : Program} {w : World} {K : PySem.W.Frag} {mg : Str → Option Value} {base : Heap} {a : Ad}
theorem ok__law_box (t : Tx P w K mg base a) : FnOk P w K mg base (L2.CX P w) 1 a.f__law_box a.d__law_box ["great"] (spF K mg 1 (F__law_box)) :=
  fnE (N := ["great"]) (m := 1) (k := 0) (g := m__law_box) t.fn__law_box sc__law_box rfl rfl rfl (by
    rintro cdv A outer s H E hr X rfl tk po
    have hu := hr.units
    exact (ds_one (ds_ret (de_alloc (dn_lst (da_cons (de_callB call_abs oAbs_ok rfl t.n_abs (by rfl) (da_cons (de_var (pe_var (i := 0) rfl (.inl rfl))) da_nil)) (da_cons (de_cmp op_ge oGe_ok (de_callB call_abs oAbs_ok rfl t.n_abs (by rfl) (da_cons (de_var (pe_var (i := 0) rfl (.inl rfl))) da_nil)) (de_op op_pow oPow_ok de_int de_int) (nomark _)) (da_cons (de_op op_mod oMod_ok (de_callTy call_int1 oInt_ok rfl t.n_int (by rfl) (da_cons (de_callB call_abs oAbs_ok rfl t.n_abs (by rfl) (da_cons (de_var (pe_var (i := 0) rfl (.inl rfl))) da_nil)) da_nil)) de_int) (da_cons de_int da_nil)))))))))
end
end K80


set_option Elab.async false
set_option linter.all false
set_option maxRecDepth 100000
set_option maxHeartbeats 4000000
namespace K80
open PySem PySem.Spec PyProof.Rows L2 DL
section
variable {P : Program} {w : World} {K : PySem.W.Frag} {mg : Str → Option Value} {base : Heap} {a : Ad}
theorem ok__law_cell (t : Tx P w K mg base a) : FnOk P w K mg base (L2.CX P w) 1 a.f__law_cell a.d__law_cell ["script", "k"] (spF K mg 2 (F__law_cell)) :=
  fnE (N := ["script", "k"]) (m := 2) (k := 0) (g := m__law_cell) t.fn__law_cell sc__law_cell rfl rfl rfl (by
    rintro cdv A outer s H E hr X rfl tk po
    have hu := hr.units
    exact (ds_one (ds_ret (de_if (dt_cmp op_lt oLt_ok (de_var (pe_var (i := 1) rfl (.inl rfl))) (de_callB call_len2 oLen2_ok rfl t.n_len (by rfl) (da_cons (de_var (pe_var (i := 0) rfl (.inl rfl))) da_nil)) (nomark _)) (de_ix ix_seq oIx_ok (de_var (pe_var (i := 0) rfl (.inl rfl))) (de_var (pe_var (i := 1) rfl (.inl rfl))) (fun _ _ => rfl)) (de_op op_addAll oAdd_ok (de_op op_mulAll oMul_ok de_int (de_var (pe_var (i := 1) rfl (.inl rfl)))) (de_op op_mod oMod_ok (de_callTy call_int1 oInt_ok rfl t.n_int (by rfl) (da_cons (de_callB (cr_sum2 rfl) oSum2_ok rfl t.n_sum (by rfl) (da_cons (de_slice sl_all oSl_ok (de_var (pe_var (i := 0) rfl (.inl rfl))) do_none (do_some de_int)) da_nil)) da_nil)) de_int))))))
end
end K80


set_option Elab.async false
set_option linter.all false
set_option maxRecDepth 100000
set_option maxHeartbeats 4000000
namespace K80
open PySem PySem.Spec PyProof.Rows L2 DL
section
variable {P : Program} {w : World} {K : PySem.W.Frag} {mg : Str → Option Value} {base : Heap} {a : Ad}
theorem ok_Versions_nodes (t : Tx P w K mg base a) : FnOk P w K mg base (L2.CX P w) 1 a.f_Versions_nodes a.d_Versions_nodes ["self"] (spF K mg 1 (F_Versions_nodes a.C_Versions)) :=
  fnE (N := ["self"]) (m := 1) (k := 0) (g := m_Versions_nodes a.C_Versions) t.fn_Versions_nodes sc_Versions_nodes rfl rfl rfl (by
    rintro cdv A outer s H E hr X rfl tk po
    have hu := hr.units
    exact (ds_one (ds_ret (de_callB call_len2 oLen2_ok rfl t.n_len (by rfl) (da_cons (de_fld t.cl_Versions t.na_kept (de_var (pe_var (i := 0) rfl (.inl rfl)))) da_nil)))))
end
end K80


set_option Elab.async false
set_option linter.all false
set_option maxRecDepth 100000
set_option maxHeartbeats 4000000
namespace K80
open PySem PySem.Spec PyProof.Rows L2 DL
section
variable {P : Program} {w : World} {K : PySem.W.Frag} {mg : Str → Option Value} {base : Heap} {a : Ad}
theorem ok_is_integer (t : Tx P w K mg base a) : FnOk P w K mg base (L2.CX P w) 1 a.f_is_integer a.d_is_integer ["value"] (spF K mg 1 (F_is_integer)) :=
  fnE (N := ["value"]) (m := 1) (k := 0) (g := m_is_integer) t.fn_is_integer sc_is_integer rfl rfl rfl (by
    rintro cdv A outer s H E hr X rfl tk po
    have hu := hr.units
    exact (ds_one (ds_ret (de_and (de_callB call_isi oIsi_ok rfl t.n_isinstance (by rfl) (da_cons (de_var (pe_var (i := 0) rfl (.inl rfl))) (da_cons (de_tyName rfl t.n_int (by rfl)) da_nil))) (de_one (de_not (de_callB call_isi oIsi_ok rfl t.n_isinstance (by rfl) (da_cons (de_var (pe_var (i := 0) rfl (.inl rfl))) (da_cons (de_tyName rfl t.n_bool (by rfl)) da_nil)))))))))
end
end K80

set_option Elab.async false
set_option linter.all false
set_option maxRecDepth 100000
set_option maxHeartbeats 4000000
namespace K80
open PySem PySem.Spec PyProof.Rows L2 DL
section
variable {P : Program} {w : World} {K : PySem.W.Frag} {mg : Str → Option Value} {base : Heap} {a : Ad}
theorem ok_is_between (t : Tx P w K mg base a) : FnOk P w K mg base (L2.CX P w) 2 a.f_is_between a.d_is_between ["value", "least", "most"] (spF K mg 3 (F_is_between)) :=
  fnE (N := ["value", "least", "most"]) (m := 3) (k := 1) (g := m_is_between) t.fn_is_between sc_is_between rfl rfl rfl (by
    rintro cdv A outer s H E hr X rfl tk po
    have hu := hr.units
    exact (ds_one (ds_ret (de_and (de_call (ok_is_integer t) t.d_is_integer (hr.mono (by omega)) rfl tk (da_cons (de_var (pe_var (i := 0) rfl (.inl rfl))) da_nil) (Len.for (len_cons len_nil))) (de_one (de_chain op_le op_le oI_chain oLe_ok (de_var (pe_var (i := 1) rfl (.inl rfl))) (de_var (pe_var (i := 0) rfl (.inl rfl))) (de_var (pe_var (i := 2) rfl (.inl rfl)))))))))
end
end K80

set_option Elab.async false
set_option linter.all false
set_option maxRecDepth 100000
set_option maxHeartbeats 4000000
namespace K80
open PySem PySem.Spec PyProof.Rows L2 DL
section
variable {P : Program} {w : World} {K : PySem.W.Frag} {mg : Str → Option Value} {base : Heap} {a : Ad}
theorem ok_Versions_check_version (t : Tx P w K mg base a) : FnOk P w K mg base (L2.CX P w) 3 a.f_Versions_check_version a.d_Versions_check_version ["self", "version"] (spF K mg 2 (F_Versions_check_version a.C_Versions)) :=
  fnE (N := ["self", "version"]) (m := 2) (k := 2) (g := m_Versions_check_version a.C_Versions) t.fn_Versions_check_version sc_Versions_check_version rfl rfl rfl (by
    rintro cdv A outer s H E hr X rfl tk po
    have hu := hr.units
    exact (ds_one (ds_if (dt_not (dt_val (de_call (ok_is_between t) t.d_is_between (hr.mono (by omega)) rfl tk (da_cons (de_var (pe_var (i := 1) rfl (.inl rfl))) (da_cons de_int (da_cons (de_op op_sub oSub_ok (de_callB call_len2 oLen2_ok rfl t.n_len (by rfl) (da_cons (de_fld t.cl_Versions t.na_tops (de_var (pe_var (i := 0) rfl (.inl rfl)))) da_nil)) de_int) da_nil))) (Len.for (len_cons (len_cons (len_cons len_nil))))))) (ds_one (ds_raise t.e_InvalidVersion rfl (hr.mono (j := 2) (by omega)) (by decide) tk rfl (da_cons (de_var (pe_var (i := 1) rfl (.inl rfl))) da_nil) (len_cons len_nil))) ds_nil)))
end
end K80


set_option Elab.async false
set_option linter.all false
set_option maxRecDepth 100000
set_option maxHeartbeats 4000000
namespace K80
open PySem PySem.Spec PyProof.Rows L2 DL
section
variable {P : Program} {w : World} {K : PySem.W.Frag} {mg : Str → Option Value} {base : Heap} {a : Ad}
theorem ok_Versions_keep (t : Tx P w K mg base a) : FnOk P w K mg base (L2.CX P w) 1 a.f_Versions_keep a.d_Versions_keep ["self", "total", "left", "right"] (spF K mg 4 (F_Versions_keep a.C_Versions)) :=
  fnE (N := ["self", "total", "left", "right"]) (m := 4) (k := 0) (g := m_Versions_keep a.C_Versions) t.fn_Versions_keep sc_Versions_keep rfl rfl rfl (by
    rintro cdv A outer s H E hr X rfl tk po
    have hu := hr.units
    exact (ds_cons (ds_expr (de_mt PySem.F.slot_list_append PySem.F.type_list_append mt_append mAppend_ok (de_fld t.cl_Versions t.na_kept (de_var (pe_var (i := 0) rfl (.inl rfl)))) (da_cons (de_tup (da_cons (de_var (pe_var (i := 1) rfl (.inl rfl))) (da_cons (de_var (pe_var (i := 2) rfl (.inl rfl))) (da_cons (de_var (pe_var (i := 3) rfl (.inl rfl))) da_nil)))) da_nil))) (ds_one (ds_ret (de_op op_sub oSub_ok (de_callB call_len2 oLen2_ok rfl t.n_len (by rfl) (da_cons (de_fld t.cl_Versions t.na_kept (de_var (pe_var (i := 0) rfl (.inl rfl)))) da_nil)) de_int)))))
end
end K80


set_option Elab.async false
set_option linter.all false
set_option maxRecDepth 100000
set_option maxHeartbeats 4000000
namespace K80
open PySem PySem.Spec PyProof.Rows L2 DL
section
variable {P : Program} {w : World} {K : PySem.W.Frag} {mg : Str → Option Value} {base : Heap} {a : Ad}
theorem ok_Versions_way_to (t : Tx P w K mg base a) : FnOk P w K mg base (L2.CX P w) 1 a.f_Versions_way_to a.d_Versions_way_to ["self", "version", "index"] (spF K mg 3 (F_Versions_way_to a.C_Versions)) :=
  fnE (N := ["self", "version", "index", "found", "here", "low", "high", "middle"]) (m := 8) (k := 0) (g := m_Versions_way_to a.C_Versions) t.fn_Versions_way_to sc_Versions_way_to rfl rfl rfl (by
    rintro cdv A outer s H E hr X rfl tk po
    have hu := hr.units
    exact (ds_cons (ds_asg (t := .tp [3, 4, 5, 6]) (de_tup (da_cons (de_alloc (dn_lst da_nil)) (da_cons (de_ix ix_seq oIx_ok (de_fld t.cl_Versions t.na_tops (de_var (pe_var (i := 0) rfl (.inl rfl)))) (de_var (pe_var (i := 1) rfl (.inl rfl))) (fun _ _ => rfl)) (da_cons de_int (da_cons (de_fld t.cl_Versions t.na_size (de_var (pe_var (i := 0) rfl (.inl rfl)))) da_nil))))) (pg_tup rfl (pgs_cons (pg_name (i := 3) sc_Versions_way_to.nd rfl (.inl rfl)) (pgs_cons (pg_name (i := 4) sc_Versions_way_to.nd rfl (.inl rfl)) (pgs_cons (pg_name (i := 5) sc_Versions_way_to.nd rfl (.inl rfl)) (pgs_cons (pg_name (i := 6) sc_Versions_way_to.nd rfl (.inl rfl)) pgs_nil)))))) (ds_cons (ds_while 50 po (dt_cmp op_gt oGt_ok (de_op op_sub oSub_ok (de_var (pe_var (i := 6) rfl (.inl rfl))) (de_var (pe_var (i := 5) rfl (.inl rfl)))) de_int (nomark _)) (ds_cons (ds_set (i := 7) sc_Versions_way_to.nd rfl (.inl rfl) (de_op op_fdiv oFdiv_ok (de_op op_addAll oAdd_ok (de_var (pe_var (i := 5) rfl (.inl rfl))) (de_var (pe_var (i := 6) rfl (.inl rfl)))) de_int)) (ds_cons (ds_expr (de_mt PySem.F.slot_list_append PySem.F.type_list_append mt_append mAppend_ok (de_var (pe_var (i := 3) rfl (.inl rfl))) (da_cons (de_tup (da_cons (de_var (pe_var (i := 4) rfl (.inl rfl))) (da_cons (de_cmp op_ge oGe_ok (de_var (pe_var (i := 2) rfl (.inl rfl))) (de_var (pe_var (i := 7) rfl (.inl rfl))) (nomark _)) da_nil))) da_nil))) (ds_cons (ds_asg (t := .tp [5, 6]) (de_if (dt_cmp op_ge oGe_ok (de_var (pe_var (i := 2) rfl (.inl rfl))) (de_var (pe_var (i := 7) rfl (.inl rfl))) (nomark _)) (de_tup (da_cons (de_var (pe_var (i := 7) rfl (.inl rfl))) (da_cons (de_var (pe_var (i := 6) rfl (.inl rfl))) da_nil))) (de_tup (da_cons (de_var (pe_var (i := 5) rfl (.inl rfl))) (da_cons (de_var (pe_var (i := 7) rfl (.inl rfl))) da_nil)))) (pg_tup rfl (pgs_cons (pg_name (i := 5) sc_Versions_way_to.nd rfl (.inl rfl)) (pgs_cons (pg_name (i := 6) sc_Versions_way_to.nd rfl (.inl rfl)) pgs_nil)))) (ds_one (ds_set (i := 4) sc_Versions_way_to.nd rfl (.inl rfl) (de_if (dt_val (de_ix ix_seq oIx_ok (de_ix ix_seq oIx_ok (de_var (pe_var (i := 3) rfl (.inl rfl))) (de_un un_neg oNeg_ok de_int) (fun _ _ => rfl)) de_int (fun _ _ => rfl))) (de_ix ix_seq oIx_ok (de_ix ix_seq oIx_ok (de_fld t.cl_Versions t.na_kept (de_var (pe_var (i := 0) rfl (.inl rfl)))) (de_var (pe_var (i := 4) rfl (.inl rfl))) (fun _ _ => rfl)) de_int (fun _ _ => rfl)) (de_ix ix_seq oIx_ok (de_ix ix_seq oIx_ok (de_fld t.cl_Versions t.na_kept (de_var (pe_var (i := 0) rfl (.inl rfl)))) (de_var (pe_var (i := 4) rfl (.inl rfl))) (fun _ _ => rfl)) de_int (fun _ _ => rfl))))))))) (ds_one (ds_ret (de_var (pe_var (i := 3) rfl (.inl rfl))))))))
end
end K80

set_option Elab.async false
set_option linter.all false
set_option maxRecDepth 100000
set_option maxHeartbeats 4000000
namespace K80
open PySem PySem.Spec PyProof.Rows L2 DL
section
variable {P : Program} {w : World} {K : PySem.W.Frag} {mg : Str → Option Value} {base : Heap} {a : Ad}
theorem ok_Versions_change (t : Tx P w K mg base a) : FnOk P w K mg base (L2.CX P w) 4 a.f_Versions_change a.d_Versions_change ["self", "version", "index", "number"] (spF K mg 4 (F_Versions_change a.C_Versions)) :=
  fnE (N := ["self", "version", "index", "number", "made", "node", "to_right", "total", "left", "right"]) (m := 10) (k := 3) (g := m_Versions_change a.C_Versions) t.fn_Versions_change sc_Versions_change rfl rfl rfl (by
    rintro cdv A outer s H E hr X rfl tk po
    have hu := hr.units
    exact (ds_cons (ds_expr (de_meth (ok_Versions_check_version t) t.cl_Versions t.me_Versions_check_version t.b_Versions_check_version (hr.mono (by omega)) tk (de_var (pe_var (i := 0) rfl (.inl rfl))) (da_cons (de_var (pe_var (i := 1) rfl (.inl rfl))) da_nil) (len_cons len_nil) (by decide))) (ds_cons (ds_if (dt_not (dt_val (de_call (ok_is_between t) t.d_is_between (hr.mono (by omega)) rfl tk (da_cons (de_var (pe_var (i := 2) rfl (.inl rfl))) (da_cons de_int (da_cons (de_op op_sub oSub_ok (de_fld t.cl_Versions t.na_size (de_var (pe_var (i := 0) rfl (.inl rfl)))) de_int) da_nil))) (Len.for (len_cons (len_cons (len_cons len_nil))))))) (ds_one (ds_raise t.e_InvalidIndex rfl (hr.mono (j := 2) (by omega)) (by decide) tk rfl (da_cons (de_var (pe_var (i := 2) rfl (.inl rfl))) da_nil) (len_cons len_nil))) ds_nil) (ds_cons (ds_if (dt_not (dt_val (de_call (ok_is_integer t) t.d_is_integer (hr.mono (by omega)) rfl tk (da_cons (de_var (pe_var (i := 3) rfl (.inl rfl))) da_nil) (Len.for (len_cons len_nil))))) (ds_one (ds_raise t.e_InvalidNumber rfl (hr.mono (j := 2) (by omega)) (by decide) tk rfl (da_cons (de_var (pe_var (i := 3) rfl (.inl rfl))) da_nil) (len_cons len_nil))) ds_nil) (ds_cons (ds_if (dt_cmp (op_eqM hu) oEq_ok (de_callB call_len2 oLen2_ok rfl t.n_len (by rfl) (da_cons (de_fld t.cl_Versions t.na_tops (de_var (pe_var (i := 0) rfl (.inl rfl)))) da_nil)) (de_gl rfl t.c_MOST_VERSIONS fun _ _ _ => rp_int) (nomark _)) (ds_one (ds_raise t.e_TooMany rfl (hr.mono (j := 2) (by omega)) (by decide) tk rfl (da_cons (de_callB call_len2 oLen2_ok rfl t.n_len (by rfl) (da_cons (de_fld t.cl_Versions t.na_tops (de_var (pe_var (i := 0) rfl (.inl rfl)))) da_nil)) da_nil) (len_cons len_nil))) ds_nil) (ds_cons (ds_set (i := 4) sc_Versions_change.nd rfl (.inl rfl) (de_meth (ok_Versions_keep t) t.cl_Versions t.me_Versions_keep t.b_Versions_keep (hr.mono (by omega)) tk (de_var (pe_var (i := 0) rfl (.inl rfl))) (da_cons (de_var (pe_var (i := 3) rfl (.inl rfl))) (da_cons de_non (da_cons de_non da_nil))) (len_cons (len_cons (len_cons len_nil))) (by decide))) (ds_cons (ds_for po rfl (di_list (de_rev (de_meth (ok_Versions_way_to t) t.cl_Versions t.me_Versions_way_to t.b_Versions_way_to (hr.mono (by omega)) tk (de_var (pe_var (i := 0) rfl (.inl rfl))) (da_cons (de_var (pe_var (i := 1) rfl (.inl rfl))) (da_cons (de_var (pe_var (i := 2) rfl (.inl rfl))) da_nil)) (len_cons (len_cons len_nil)) (by decide)))) (pg_tup rfl (pgs_cons (pg_name (i := 5) sc_Versions_change.nd rfl (.inl rfl)) (pgs_cons (pg_name (i := 6) sc_Versions_change.nd rfl (.inl rfl)) pgs_nil))) (ds_cons (ds_asg (t := .tp [7, 8, 9]) (de_ix ix_seq oIx_ok (de_fld t.cl_Versions t.na_kept (de_var (pe_var (i := 0) rfl (.inl rfl)))) (de_var (pe_var (i := 5) rfl (.inl rfl))) (fun _ _ => rfl)) (pg_tup rfl (pgs_cons (pg_name (i := 7) sc_Versions_change.nd rfl (.inl rfl)) (pgs_cons (pg_name (i := 8) sc_Versions_change.nd rfl (.inl rfl)) (pgs_cons (pg_name (i := 9) sc_Versions_change.nd rfl (.inl rfl)) pgs_nil))))) (ds_cons (ds_asg (t := .tp [8, 9]) (de_if (dt_val (de_var (pe_var (i := 6) rfl (.inl rfl)))) (de_tup (da_cons (de_var (pe_var (i := 8) rfl (.inl rfl))) (da_cons (de_var (pe_var (i := 4) rfl (.inl rfl))) da_nil))) (de_tup (da_cons (de_var (pe_var (i := 4) rfl (.inl rfl))) (da_cons (de_var (pe_var (i := 9) rfl (.inl rfl))) da_nil)))) (pg_tup rfl (pgs_cons (pg_name (i := 8) sc_Versions_change.nd rfl (.inl rfl)) (pgs_cons (pg_name (i := 9) sc_Versions_change.nd rfl (.inl rfl)) pgs_nil)))) (ds_one (ds_set (i := 4) sc_Versions_change.nd rfl (.inl rfl) (de_meth (ok_Versions_keep t) t.cl_Versions t.me_Versions_keep t.b_Versions_keep (hr.mono (by omega)) tk (de_var (pe_var (i := 0) rfl (.inl rfl))) (da_cons (de_op op_addAll oAdd_ok (de_ix ix_seq oIx_ok (de_ix ix_seq oIx_ok (de_fld t.cl_Versions t.na_kept (de_var (pe_var (i := 0) rfl (.inl rfl)))) (de_var (pe_var (i := 8) rfl (.inl rfl))) (fun _ _ => rfl)) de_int (fun _ _ => rfl)) (de_ix ix_seq oIx_ok (de_ix ix_seq oIx_ok (de_fld t.cl_Versions t.na_kept (de_var (pe_var (i := 0) rfl (.inl rfl)))) (de_var (pe_var (i := 9) rfl (.inl rfl))) (fun _ _ => rfl)) de_int (fun _ _ => rfl))) (da_cons (de_var (pe_var (i := 8) rfl (.inl rfl))) (da_cons (de_var (pe_var (i := 9) rfl (.inl rfl))) da_nil))) (len_cons (len_cons (len_cons len_nil))) (by decide))))))) (ds_cons (ds_expr (de_mt PySem.F.slot_list_append PySem.F.type_list_append mt_append mAppend_ok (de_fld t.cl_Versions t.na_tops (de_var (pe_var (i := 0) rfl (.inl rfl)))) (da_cons (de_var (pe_var (i := 4) rfl (.inl rfl))) da_nil))) (ds_cons (ds_expr (de_mt PySem.F.slot_list_append PySem.F.type_list_append mt_append mAppend_ok (de_fld t.cl_Versions t.na_parents (de_var (pe_var (i := 0) rfl (.inl rfl)))) (da_cons (de_var (pe_var (i := 1) rfl (.inl rfl))) da_nil))) (ds_one (ds_ret (de_op op_sub oSub_ok (de_callB call_len2 oLen2_ok rfl t.n_len (by rfl) (da_cons (de_fld t.cl_Versions t.na_tops (de_var (pe_var (i := 0) rfl (.inl rfl)))) da_nil)) de_int))))))))))))
end
end K80

set_option Elab.async false
set_option linter.all false
set_option maxRecDepth 100000
set_option maxHeartbeats 4000000
namespace K80
open PySem PySem.Spec PyProof.Rows L2 DL
section
variable {P : Program} {w : World} {K : PySem.W.Frag} {mg : Str → Option Value} {base : Heap} {a : Ad}
theorem ok_Versions_parent (t : Tx P w K mg base a) : FnOk P w K mg base (L2.CX P w) 4 a.f_Versions_parent a.d_Versions_parent ["self", "version"] (spF K mg 2 (F_Versions_parent a.C_Versions)) :=
  fnE (N := ["self", "version"]) (m := 2) (k := 3) (g := m_Versions_parent a.C_Versions) t.fn_Versions_parent sc_Versions_parent rfl rfl rfl (by
    rintro cdv A outer s H E hr X rfl tk po
    have hu := hr.units
    exact (ds_cons (ds_expr (de_meth (ok_Versions_check_version t) t.cl_Versions t.me_Versions_check_version t.b_Versions_check_version (hr.mono (by omega)) tk (de_var (pe_var (i := 0) rfl (.inl rfl))) (da_cons (de_var (pe_var (i := 1) rfl (.inl rfl))) da_nil) (len_cons len_nil) (by decide))) (ds_one (ds_ret (de_ix ix_seq oIx_ok (de_fld t.cl_Versions t.na_parents (de_var (pe_var (i := 0) rfl (.inl rfl)))) (de_var (pe_var (i := 1) rfl (.inl rfl))) (fun _ _ => rfl))))))
end
end K80


set_option Elab.async false
set_option linter.all false
set_option maxRecDepth 100000
set_option maxHeartbeats 4000000
namespace K80
open PySem PySem.Spec PyProof.Rows L2 DL
section
variable {P : Program} {w : World} {K : PySem.W.Frag} {mg : Str → Option Value} {base : Heap} {a : Ad}
theorem ok_Versions_items (t : Tx P w K mg base a) : FnOk P w K mg base (L2.CX P w) 1 a.f_Versions_items a.d_Versions_items ["self", "version"] (spF K mg 2 (F_Versions_items a.C_Versions)) :=
  fnE (N := ["self", "version", "found", "waits", "total", "left", "right"]) (m := 7) (k := 0) (g := m_Versions_items a.C_Versions) t.fn_Versions_items sc_Versions_items rfl rfl rfl (by
    rintro cdv A outer s H E hr X rfl tk po
    have hu := hr.units
    exact (ds_cons (ds_par (i := 2) (j := 3) rfl sc_Versions_items.nd rfl rfl (by decide) rfl rfl (da_cons (de_alloc (dn_lst da_nil)) (da_cons (de_alloc (dn_lst (da_cons (de_ix ix_seq oIx_ok (de_fld t.cl_Versions t.na_tops (de_var (pe_var (i := 0) rfl (.inl rfl)))) (de_var (pe_var (i := 1) rfl (.inl rfl))) (fun _ _ => rfl)) da_nil))) da_nil)) rfl) (ds_cons (ds_while 1000 po (dt_cmp (op_ne0 hu) oE0_ok (de_var (pe_var (i := 3) rfl (.inl rfl))) (de_new (dn_lst da_nil)) (nomark _)) (ds_cons (ds_asg (t := .tp [4, 5, 6]) (de_ix ix_seq oIx_ok (de_fld t.cl_Versions t.na_kept (de_var (pe_var (i := 0) rfl (.inl rfl)))) (de_mt0 PySem.F.slot_list_pop PySem.F.type_list_pop mt_pop mPop_ok (de_var (pe_var (i := 3) rfl (.inl rfl)))) (fun _ _ => rfl)) (pg_tup rfl (pgs_cons (pg_name (i := 4) sc_Versions_items.nd rfl (.inl rfl)) (pgs_cons (pg_name (i := 5) sc_Versions_items.nd rfl (.inl rfl)) (pgs_cons (pg_name (i := 6) sc_Versions_items.nd rfl (.inl rfl)) pgs_nil))))) (ds_one (ds_if (dt_cmp op_isN oIsN_ok (de_var (pe_var (i := 5) rfl (.inl rfl))) de_non (nomark _)) (ds_one (ds_expr (de_mt PySem.F.slot_list_append PySem.F.type_list_append mt_append mAppend_ok (de_var (pe_var (i := 2) rfl (.inl rfl))) (da_cons (de_var (pe_var (i := 4) rfl (.inl rfl))) da_nil)))) (ds_one (ds_expr (de_mt PySem.F.slot_list_extend PySem.F.type_list_extend mt_extend mExtend_ok (de_var (pe_var (i := 3) rfl (.inl rfl))) (da_cons (de_new (dn_lst (da_cons (de_var (pe_var (i := 6) rfl (.inl rfl))) (da_cons (de_var (pe_var (i := 5) rfl (.inl rfl))) da_nil)))) da_nil)))))))) (ds_one (ds_ret (de_var (pe_var (i := 2) rfl (.inl rfl))))))))
end
end K80

set_option Elab.async false
set_option linter.all false
set_option maxRecDepth 100000
set_option maxHeartbeats 4000000
namespace K80
open PySem PySem.Spec PyProof.Rows L2 DL
section
variable {P : Program} {w : World} {K : PySem.W.Frag} {mg : Str → Option Value} {base : Heap} {a : Ad}
theorem ok_Versions_row (t : Tx P w K mg base a) : FnOk P w K mg base (L2.CX P w) 4 a.f_Versions_row a.d_Versions_row ["self", "version"] (spF K mg 2 (F_Versions_row a.C_Versions)) :=
  fnE (N := ["self", "version"]) (m := 2) (k := 3) (g := m_Versions_row a.C_Versions) t.fn_Versions_row sc_Versions_row rfl rfl rfl (by
    rintro cdv A outer s H E hr X rfl tk po
    have hu := hr.units
    exact (ds_cons (ds_expr (de_meth (ok_Versions_check_version t) t.cl_Versions t.me_Versions_check_version t.b_Versions_check_version (hr.mono (by omega)) tk (de_var (pe_var (i := 0) rfl (.inl rfl))) (da_cons (de_var (pe_var (i := 1) rfl (.inl rfl))) da_nil) (len_cons len_nil) (by decide))) (ds_one (ds_ret (de_callTy call_tuple_of oTuple_ok rfl t.n_tuple (by rfl) (da_cons (de_meth (ok_Versions_items t) t.cl_Versions t.me_Versions_items t.b_Versions_items (hr.mono (by omega)) tk (de_var (pe_var (i := 0) rfl (.inl rfl))) (da_cons (de_var (pe_var (i := 1) rfl (.inl rfl))) da_nil) (len_cons len_nil) (by decide)) da_nil))))))
end
end K80

set_option Elab.async false
set_option linter.all false
set_option maxRecDepth 100000
set_option maxHeartbeats 4000000
namespace K80
open PySem PySem.Spec PyProof.Rows L2 DL
section
variable {P : Program} {w : World} {K : PySem.W.Frag} {mg : Str → Option Value} {base : Heap} {a : Ad}
theorem ok_check_range (t : Tx P w K mg base a) : FnOk P w K mg base (L2.CX P w) 3 a.f_check_range a.d_check_range ["low", "high", "size"] (spF K mg 3 (F_check_range)) :=
  fnE (N := ["low", "high", "size"]) (m := 3) (k := 2) (g := m_check_range) t.fn_check_range sc_check_range rfl rfl rfl (by
    rintro cdv A outer s H E hr X rfl tk po
    have hu := hr.units
    exact (ds_cons (ds_if (dt_not (dt_val (de_call (ok_is_between t) t.d_is_between (hr.mono (by omega)) rfl tk (da_cons (de_var (pe_var (i := 0) rfl (.inl rfl))) (da_cons de_int (da_cons (de_var (pe_var (i := 2) rfl (.inl rfl))) da_nil))) (Len.for (len_cons (len_cons (len_cons len_nil))))))) (ds_one (ds_raise t.e_InvalidRange rfl (hr.mono (j := 2) (by omega)) (by decide) tk rfl (da_cons (de_var (pe_var (i := 0) rfl (.inl rfl))) da_nil) (len_cons len_nil))) ds_nil) (ds_one (ds_if (dt_not (dt_val (de_call (ok_is_between t) t.d_is_between (hr.mono (by omega)) rfl tk (da_cons (de_var (pe_var (i := 1) rfl (.inl rfl))) (da_cons (de_var (pe_var (i := 0) rfl (.inl rfl))) (da_cons (de_var (pe_var (i := 2) rfl (.inl rfl))) da_nil))) (Len.for (len_cons (len_cons (len_cons len_nil))))))) (ds_one (ds_raise t.e_InvalidRange rfl (hr.mono (j := 2) (by omega)) (by decide) tk rfl (da_cons (de_var (pe_var (i := 1) rfl (.inl rfl))) da_nil) (len_cons len_nil))) ds_nil))))
end
end K80

set_option Elab.async false
set_option linter.all false
set_option maxRecDepth 100000
set_option maxHeartbeats 4000000
namespace K80
open PySem PySem.Spec PyProof.Rows L2 DL
section
variable {P : Program} {w : World} {K : PySem.W.Frag} {mg : Str → Option Value} {base : Heap} {a : Ad}
theorem ok_Versions_total (t : Tx P w K mg base a) : FnOk P w K mg base (L2.CX P w) 4 a.f_Versions_total a.d_Versions_total ["self", "version", "low", "high"] (spF K mg 4 (F_Versions_total a.C_Versions)) :=
  fnE (N := ["self", "version", "low", "high", "found", "waits", "node", "first", "last", "total", "left", "right", "middle"]) (m := 13) (k := 3) (g := m_Versions_total a.C_Versions) t.fn_Versions_total sc_Versions_total rfl rfl rfl (by
    rintro cdv A outer s H E hr X rfl tk po
    have hu := hr.units
    exact (ds_cons (ds_expr (de_meth (ok_Versions_check_version t) t.cl_Versions t.me_Versions_check_version t.b_Versions_check_version (hr.mono (by omega)) tk (de_var (pe_var (i := 0) rfl (.inl rfl))) (da_cons (de_var (pe_var (i := 1) rfl (.inl rfl))) da_nil) (len_cons len_nil) (by decide))) (ds_cons (ds_expr (de_call (ok_check_range t) t.d_check_range (hr.mono (by omega)) rfl tk (da_cons (de_var (pe_var (i := 2) rfl (.inl rfl))) (da_cons (de_var (pe_var (i := 3) rfl (.inl rfl))) (da_cons (de_fld t.cl_Versions t.na_size (de_var (pe_var (i := 0) rfl (.inl rfl)))) da_nil))) (Len.for (len_cons (len_cons (len_cons len_nil)))))) (ds_cons (ds_par (i := 4) (j := 5) rfl sc_Versions_total.nd rfl rfl (by decide) rfl rfl (da_cons de_int (da_cons (de_alloc (dn_lst (da_cons (de_tup (da_cons (de_ix ix_seq oIx_ok (de_fld t.cl_Versions t.na_tops (de_var (pe_var (i := 0) rfl (.inl rfl)))) (de_var (pe_var (i := 1) rfl (.inl rfl))) (fun _ _ => rfl)) (da_cons de_int (da_cons (de_fld t.cl_Versions t.na_size (de_var (pe_var (i := 0) rfl (.inl rfl)))) da_nil)))) da_nil))) da_nil)) rfl) (ds_cons (ds_while 1000 po (dt_cmp (op_ne0 hu) oE0_ok (de_var (pe_var (i := 5) rfl (.inl rfl))) (de_new (dn_lst da_nil)) (nomark _)) (ds_cons (ds_asg (t := .tp [6, 7, 8]) (de_mt0 PySem.F.slot_list_pop PySem.F.type_list_pop mt_pop mPop_ok (de_var (pe_var (i := 5) rfl (.inl rfl)))) (pg_tup rfl (pgs_cons (pg_name (i := 6) sc_Versions_total.nd rfl (.inl rfl)) (pgs_cons (pg_name (i := 7) sc_Versions_total.nd rfl (.inl rfl)) (pgs_cons (pg_name (i := 8) sc_Versions_total.nd rfl (.inl rfl)) pgs_nil))))) (ds_cons (ds_asg (t := .tp [9, 10, 11]) (de_ix ix_seq oIx_ok (de_fld t.cl_Versions t.na_kept (de_var (pe_var (i := 0) rfl (.inl rfl)))) (de_var (pe_var (i := 6) rfl (.inl rfl))) (fun _ _ => rfl)) (pg_tup rfl (pgs_cons (pg_name (i := 9) sc_Versions_total.nd rfl (.inl rfl)) (pgs_cons (pg_name (i := 10) sc_Versions_total.nd rfl (.inl rfl)) (pgs_cons (pg_name (i := 11) sc_Versions_total.nd rfl (.inl rfl)) pgs_nil))))) (ds_one (ds_if (dt_w (dw_and (dt_cmp op_le oLe_ok (de_var (pe_var (i := 2) rfl (.inl rfl))) (de_var (pe_var (i := 7) rfl (.inl rfl))) (nomark _)) (dw_and1 (dt_cmp op_le oLe_ok (de_var (pe_var (i := 8) rfl (.inl rfl))) (de_var (pe_var (i := 3) rfl (.inl rfl))) (nomark _))))) (ds_one (ds_set (i := 4) sc_Versions_total.nd rfl (.inl rfl) (de_op op_addAll oAdd_ok (de_var (pe_var (i := 4) rfl (.inl rfl))) (de_var (pe_var (i := 9) rfl (.inl rfl)))))) (ds_one (ds_if (dt_w (dw_and (dt_cmp op_lt oLt_ok (de_var (pe_var (i := 7) rfl (.inl rfl))) (de_var (pe_var (i := 3) rfl (.inl rfl))) (nomark _)) (dw_and1 (dt_cmp op_lt oLt_ok (de_var (pe_var (i := 2) rfl (.inl rfl))) (de_var (pe_var (i := 8) rfl (.inl rfl))) (nomark _))))) (ds_cons (ds_set (i := 12) sc_Versions_total.nd rfl (.inl rfl) (de_op op_fdiv oFdiv_ok (de_op op_addAll oAdd_ok (de_var (pe_var (i := 7) rfl (.inl rfl))) (de_var (pe_var (i := 8) rfl (.inl rfl)))) de_int)) (ds_one (ds_expr (de_mt PySem.F.slot_list_extend PySem.F.type_list_extend mt_extend mExtend_ok (de_var (pe_var (i := 5) rfl (.inl rfl))) (da_cons (de_new (dn_lst (da_cons (de_tup (da_cons (de_var (pe_var (i := 10) rfl (.inl rfl))) (da_cons (de_var (pe_var (i := 7) rfl (.inl rfl))) (da_cons (de_var (pe_var (i := 12) rfl (.inl rfl))) da_nil)))) (da_cons (de_tup (da_cons (de_var (pe_var (i := 11) rfl (.inl rfl))) (da_cons (de_var (pe_var (i := 12) rfl (.inl rfl))) (da_cons (de_var (pe_var (i := 8) rfl (.inl rfl))) da_nil)))) da_nil)))) da_nil))))) ds_nil))))))) (ds_one (ds_ret (de_var (pe_var (i := 4) rfl (.inl rfl))))))))))
end
end K80

set_option Elab.async false
set_option linter.all false
set_option maxRecDepth 100000
set_option maxHeartbeats 4000000
namespace K80
open PySem PySem.Spec PyProof.Rows L2 DL
section
variable {P : Program} {w : World} {K : PySem.W.Frag} {mg : Str → Option Value} {base : Heap} {a : Ad}
theorem ok_Versions_unlike (t : Tx P w K mg base a) : FnOk P w K mg base (L2.CX P w) 4 a.f_Versions_unlike a.d_Versions_unlike ["self", "one", "other"] (spF K mg 3 (F_Versions_unlike a.C_Versions)) :=
  fnE (N := ["self", "one", "other", "found", "waits", "first", "second", "low", "high", "middle"]) (m := 10) (k := 3) (g := m_Versions_unlike a.C_Versions) t.fn_Versions_unlike sc_Versions_unlike rfl rfl rfl (by
    rintro cdv A outer s H E hr X rfl tk po
    have hu := hr.units
    exact (ds_cons (ds_expr (de_meth (ok_Versions_check_version t) t.cl_Versions t.me_Versions_check_version t.b_Versions_check_version (hr.mono (by omega)) tk (de_var (pe_var (i := 0) rfl (.inl rfl))) (da_cons (de_var (pe_var (i := 1) rfl (.inl rfl))) da_nil) (len_cons len_nil) (by decide))) (ds_cons (ds_expr (de_meth (ok_Versions_check_version t) t.cl_Versions t.me_Versions_check_version t.b_Versions_check_version (hr.mono (by omega)) tk (de_var (pe_var (i := 0) rfl (.inl rfl))) (da_cons (de_var (pe_var (i := 2) rfl (.inl rfl))) da_nil) (len_cons len_nil) (by decide))) (ds_cons (ds_par (i := 3) (j := 4) rfl sc_Versions_unlike.nd rfl rfl (by decide) rfl rfl (da_cons (de_alloc (dn_lst da_nil)) (da_cons (de_alloc (dn_lst (da_cons (de_tup (da_cons (de_ix ix_seq oIx_ok (de_fld t.cl_Versions t.na_tops (de_var (pe_var (i := 0) rfl (.inl rfl)))) (de_var (pe_var (i := 1) rfl (.inl rfl))) (fun _ _ => rfl)) (da_cons (de_ix ix_seq oIx_ok (de_fld t.cl_Versions t.na_tops (de_var (pe_var (i := 0) rfl (.inl rfl)))) (de_var (pe_var (i := 2) rfl (.inl rfl))) (fun _ _ => rfl)) (da_cons de_int (da_cons (de_fld t.cl_Versions t.na_size (de_var (pe_var (i := 0) rfl (.inl rfl)))) da_nil))))) da_nil))) da_nil)) rfl) (ds_cons (ds_while 1000 po (dt_cmp (op_ne0 hu) oE0_ok (de_var (pe_var (i := 4) rfl (.inl rfl))) (de_new (dn_lst da_nil)) (nomark _)) (ds_cons (ds_asg (t := .tp [5, 6, 7, 8]) (de_mt0 PySem.F.slot_list_pop PySem.F.type_list_pop mt_pop mPop_ok (de_var (pe_var (i := 4) rfl (.inl rfl)))) (pg_tup rfl (pgs_cons (pg_name (i := 5) sc_Versions_unlike.nd rfl (.inl rfl)) (pgs_cons (pg_name (i := 6) sc_Versions_unlike.nd rfl (.inl rfl)) (pgs_cons (pg_name (i := 7) sc_Versions_unlike.nd rfl (.inl rfl)) (pgs_cons (pg_name (i := 8) sc_Versions_unlike.nd rfl (.inl rfl)) pgs_nil)))))) (ds_one (ds_if (dt_w (dw_and (dt_cmp (op_neM hu) oNe_ok (de_var (pe_var (i := 5) rfl (.inl rfl))) (de_var (pe_var (i := 6) rfl (.inl rfl))) (nomark _)) (dw_and (dt_cmp (op_eqM hu) oEq_ok (de_op op_sub oSub_ok (de_var (pe_var (i := 8) rfl (.inl rfl))) (de_var (pe_var (i := 7) rfl (.inl rfl)))) de_int (nomark _)) (dw_and1 (dt_cmp (op_neM hu) oNe_ok (de_ix ix_seq oIx_ok (de_ix ix_seq oIx_ok (de_fld t.cl_Versions t.na_kept (de_var (pe_var (i := 0) rfl (.inl rfl)))) (de_var (pe_var (i := 5) rfl (.inl rfl))) (fun _ _ => rfl)) de_int (fun _ _ => rfl)) (de_ix ix_seq oIx_ok (de_ix ix_seq oIx_ok (de_fld t.cl_Versions t.na_kept (de_var (pe_var (i := 0) rfl (.inl rfl)))) (de_var (pe_var (i := 6) rfl (.inl rfl))) (fun _ _ => rfl)) de_int (fun _ _ => rfl)) (nomark _)))))) (ds_one (ds_expr (de_mt PySem.F.slot_list_append PySem.F.type_list_append mt_append mAppend_ok (de_var (pe_var (i := 3) rfl (.inl rfl))) (da_cons (de_var (pe_var (i := 7) rfl (.inl rfl))) da_nil)))) (ds_one (ds_if (dt_w (dw_and (dt_cmp (op_neM hu) oNe_ok (de_var (pe_var (i := 5) rfl (.inl rfl))) (de_var (pe_var (i := 6) rfl (.inl rfl))) (nomark _)) (dw_and1 (dt_cmp op_gt oGt_ok (de_op op_sub oSub_ok (de_var (pe_var (i := 8) rfl (.inl rfl))) (de_var (pe_var (i := 7) rfl (.inl rfl)))) de_int (nomark _))))) (ds_cons (ds_set (i := 9) sc_Versions_unlike.nd rfl (.inl rfl) (de_op op_fdiv oFdiv_ok (de_op op_addAll oAdd_ok (de_var (pe_var (i := 7) rfl (.inl rfl))) (de_var (pe_var (i := 8) rfl (.inl rfl)))) de_int)) (ds_cons (ds_expr (de_mt PySem.F.slot_list_append PySem.F.type_list_append mt_append mAppend_ok (de_var (pe_var (i := 4) rfl (.inl rfl))) (da_cons (de_tup (da_cons (de_ix ix_seq oIx_ok (de_ix ix_seq oIx_ok (de_fld t.cl_Versions t.na_kept (de_var (pe_var (i := 0) rfl (.inl rfl)))) (de_var (pe_var (i := 5) rfl (.inl rfl))) (fun _ _ => rfl)) de_int (fun _ _ => rfl)) (da_cons (de_ix ix_seq oIx_ok (de_ix ix_seq oIx_ok (de_fld t.cl_Versions t.na_kept (de_var (pe_var (i := 0) rfl (.inl rfl)))) (de_var (pe_var (i := 6) rfl (.inl rfl))) (fun _ _ => rfl)) de_int (fun _ _ => rfl)) (da_cons (de_var (pe_var (i := 7) rfl (.inl rfl))) (da_cons (de_var (pe_var (i := 9) rfl (.inl rfl))) da_nil))))) da_nil))) (ds_one (ds_expr (de_mt PySem.F.slot_list_append PySem.F.type_list_append mt_append mAppend_ok (de_var (pe_var (i := 4) rfl (.inl rfl))) (da_cons (de_tup (da_cons (de_ix ix_seq oIx_ok (de_ix ix_seq oIx_ok (de_fld t.cl_Versions t.na_kept (de_var (pe_var (i := 0) rfl (.inl rfl)))) (de_var (pe_var (i := 5) rfl (.inl rfl))) (fun _ _ => rfl)) de_int (fun _ _ => rfl)) (da_cons (de_ix ix_seq oIx_ok (de_ix ix_seq oIx_ok (de_fld t.cl_Versions t.na_kept (de_var (pe_var (i := 0) rfl (.inl rfl)))) (de_var (pe_var (i := 6) rfl (.inl rfl))) (fun _ _ => rfl)) de_int (fun _ _ => rfl)) (da_cons (de_var (pe_var (i := 9) rfl (.inl rfl))) (da_cons (de_var (pe_var (i := 8) rfl (.inl rfl))) da_nil))))) da_nil)))))) ds_nil)))))) (ds_one (ds_ret (de_callTy call_tuple_of oTuple_ok rfl t.n_tuple (by rfl) (da_cons (de_new (dn_callB cr_sortedI oSorted_ok rfl t.n_sorted (by rfl) (da_cons (de_var (pe_var (i := 3) rfl (.inl rfl))) da_nil))) da_nil)))))))))
end
end K80

set_option Elab.async false
set_option linter.all false
set_option maxRecDepth 100000
set_option maxHeartbeats 4000000
namespace K80
open PySem PySem.Spec PyProof.Rows L2 DL
section
variable {P : Program} {w : World} {K : PySem.W.Frag} {mg : Str → Option Value} {base : Heap} {a : Ad}
theorem ok__law_asked (t : Tx P w K mg base a) : FnOk P w K mg base (L2.CX P w) 5 a.f__law_asked a.d__law_asked ["kept", "word", "args", "by_name"] (spF K mg 4 (F__law_asked a.C_Versions)) :=
  fnE (N := ["kept", "word", "args", "by_name", "e"]) (m := 5) (k := 4) (g := m__law_asked a.C_Versions) t.fn__law_asked sc__law_asked rfl rfl rfl (by
    rintro cdv A outer s H E hr X rfl tk po
    have hu := hr.units
    obtain ⟨C_InvalidVersion_, hv_InvalidVersion_, hx_InvalidVersion_⟩ := t.hv_InvalidVersion
    obtain ⟨C_InvalidIndex_, hv_InvalidIndex_, hx_InvalidIndex_⟩ := t.hv_InvalidIndex
    obtain ⟨C_InvalidNumber_, hv_InvalidNumber_, hx_InvalidNumber_⟩ := t.hv_InvalidNumber
    obtain ⟨C_InvalidRange_, hv_InvalidRange_, hx_InvalidRange_⟩ := t.hv_InvalidRange
    obtain ⟨C_TooMany_, hv_TooMany_, hx_TooMany_⟩ := t.hv_TooMany
    exact (ds_one (ds_try rfl rfl sc__law_asked.nd tk (fun W2 pn xe tk2 po2 => (ds_cons (ds_if (dt_cmp (op_eqM hu) oEq_ok (de_var (pe_var (i := 1) rfl (.inl rfl))) de_str (nomark _)) (ds_one (ds_ret (de_new (dn_lst (da_cons de_str (da_cons (de_if (dt_val (de_var (pe_var (i := 3) rfl (.inl rfl)))) (de_methK (ok_Versions_change t) t.cl_Versions t.me_Versions_change t.kw_Versions_change_number_index_version (hr.mono (by omega)) tk2 (de_var (pe_var (i := 0) rfl (.inl rfl))) (dk_cons (de_ix ix_seq oIx_ok (de_var (pe_var (i := 2) rfl (.inl rfl))) de_int (fun _ _ => rfl)) (dk_cons (de_ix ix_seq oIx_ok (de_var (pe_var (i := 2) rfl (.inl rfl))) de_int (fun _ _ => rfl)) (dk_cons (de_ix ix_seq oIx_ok (de_var (pe_var (i := 2) rfl (.inl rfl))) de_int (fun _ _ => rfl)) dk_nil))) (len_cons (len_cons (len_cons len_nil))) (permL_len1 (by decide))) (de_meth (ok_Versions_change t) t.cl_Versions t.me_Versions_change t.b_Versions_change (hr.mono (by omega)) tk2 (de_var (pe_var (i := 0) rfl (.inl rfl))) (da_cons (de_ix ix_seq oIx_ok (de_var (pe_var (i := 2) rfl (.inl rfl))) de_int (fun _ _ => rfl)) (da_cons (de_ix ix_seq oIx_ok (de_var (pe_var (i := 2) rfl (.inl rfl))) de_int (fun _ _ => rfl)) (da_cons (de_ix ix_seq oIx_ok (de_var (pe_var (i := 2) rfl (.inl rfl))) de_int (fun _ _ => rfl)) da_nil))) (len_cons (len_cons (len_cons len_nil))) (by decide))) da_nil)))))) ds_nil) (ds_cons (ds_if (dt_cmp (op_eqM hu) oEq_ok (de_var (pe_var (i := 1) rfl (.inl rfl))) de_str (nomark _)) (ds_one (ds_ret (de_new (dn_lst (da_cons de_str (da_cons (de_if (dt_val (de_var (pe_var (i := 3) rfl (.inl rfl)))) (de_methK (ok_Versions_row t) t.cl_Versions t.me_Versions_row t.kw_Versions_row_version (hr.mono (by omega)) tk2 (de_var (pe_var (i := 0) rfl (.inl rfl))) (dk_cons (de_ix ix_seq oIx_ok (de_var (pe_var (i := 2) rfl (.inl rfl))) de_int (fun _ _ => rfl)) dk_nil) (len_cons len_nil) (permL_len1 (by decide))) (de_meth (ok_Versions_row t) t.cl_Versions t.me_Versions_row t.b_Versions_row (hr.mono (by omega)) tk2 (de_var (pe_var (i := 0) rfl (.inl rfl))) (da_cons (de_ix ix_seq oIx_ok (de_var (pe_var (i := 2) rfl (.inl rfl))) de_int (fun _ _ => rfl)) da_nil) (len_cons len_nil) (by decide))) da_nil)))))) ds_nil) (ds_cons (ds_if (dt_cmp (op_eqM hu) oEq_ok (de_var (pe_var (i := 1) rfl (.inl rfl))) de_str (nomark _)) (ds_one (ds_ret (de_new (dn_lst (da_cons de_str (da_cons (de_if (dt_val (de_var (pe_var (i := 3) rfl (.inl rfl)))) (de_methK (ok_Versions_total t) t.cl_Versions t.me_Versions_total t.kw_Versions_total_high_low_version (hr.mono (by omega)) tk2 (de_var (pe_var (i := 0) rfl (.inl rfl))) (dk_cons (de_ix ix_seq oIx_ok (de_var (pe_var (i := 2) rfl (.inl rfl))) de_int (fun _ _ => rfl)) (dk_cons (de_ix ix_seq oIx_ok (de_var (pe_var (i := 2) rfl (.inl rfl))) de_int (fun _ _ => rfl)) (dk_cons (de_ix ix_seq oIx_ok (de_var (pe_var (i := 2) rfl (.inl rfl))) de_int (fun _ _ => rfl)) dk_nil))) (len_cons (len_cons (len_cons len_nil))) (permL_len1 (by decide))) (de_meth (ok_Versions_total t) t.cl_Versions t.me_Versions_total t.b_Versions_total (hr.mono (by omega)) tk2 (de_var (pe_var (i := 0) rfl (.inl rfl))) (da_cons (de_ix ix_seq oIx_ok (de_var (pe_var (i := 2) rfl (.inl rfl))) de_int (fun _ _ => rfl)) (da_cons (de_ix ix_seq oIx_ok (de_var (pe_var (i := 2) rfl (.inl rfl))) de_int (fun _ _ => rfl)) (da_cons (de_ix ix_seq oIx_ok (de_var (pe_var (i := 2) rfl (.inl rfl))) de_int (fun _ _ => rfl)) da_nil))) (len_cons (len_cons (len_cons len_nil))) (by decide))) da_nil)))))) ds_nil) (ds_cons (ds_if (dt_cmp (op_eqM hu) oEq_ok (de_var (pe_var (i := 1) rfl (.inl rfl))) de_str (nomark _)) (ds_one (ds_ret (de_new (dn_lst (da_cons de_str (da_cons (de_if (dt_val (de_var (pe_var (i := 3) rfl (.inl rfl)))) (de_methK (ok_Versions_parent t) t.cl_Versions t.me_Versions_parent t.kw_Versions_parent_version (hr.mono (by omega)) tk2 (de_var (pe_var (i := 0) rfl (.inl rfl))) (dk_cons (de_ix ix_seq oIx_ok (de_var (pe_var (i := 2) rfl (.inl rfl))) de_int (fun _ _ => rfl)) dk_nil) (len_cons len_nil) (permL_len1 (by decide))) (de_meth (ok_Versions_parent t) t.cl_Versions t.me_Versions_parent t.b_Versions_parent (hr.mono (by omega)) tk2 (de_var (pe_var (i := 0) rfl (.inl rfl))) (da_cons (de_ix ix_seq oIx_ok (de_var (pe_var (i := 2) rfl (.inl rfl))) de_int (fun _ _ => rfl)) da_nil) (len_cons len_nil) (by decide))) da_nil)))))) ds_nil) (ds_one (ds_ret (de_new (dn_lst (da_cons de_str (da_cons (de_if (dt_val (de_var (pe_var (i := 3) rfl (.inl rfl)))) (de_methK (ok_Versions_unlike t) t.cl_Versions t.me_Versions_unlike t.kw_Versions_unlike_other_one (hr.mono (by omega)) tk2 (de_var (pe_var (i := 0) rfl (.inl rfl))) (dk_cons (de_ix ix_seq oIx_ok (de_var (pe_var (i := 2) rfl (.inl rfl))) de_int (fun _ _ => rfl)) (dk_cons (de_ix ix_seq oIx_ok (de_var (pe_var (i := 2) rfl (.inl rfl))) de_int (fun _ _ => rfl)) dk_nil)) (len_cons (len_cons len_nil)) (permL_len1 (by decide))) (de_meth (ok_Versions_unlike t) t.cl_Versions t.me_Versions_unlike t.b_Versions_unlike (hr.mono (by omega)) tk2 (de_var (pe_var (i := 0) rfl (.inl rfl))) (da_cons (de_ix ix_seq oIx_ok (de_var (pe_var (i := 2) rfl (.inl rfl))) de_int (fun _ _ => rfl)) (da_cons (de_ix ix_seq oIx_ok (de_var (pe_var (i := 2) rfl (.inl rfl))) de_int (fun _ _ => rfl)) da_nil)) (len_cons (len_cons len_nil)) (by decide))) da_nil))))))))))) (by exact (.named (i := 4) (by exact ⟨rfl, rfl, .inl (hv_InvalidVersion_)⟩) (by rfl) (by rfl) (t.su__law_asked "InvalidVersion" _ (by decide) hv_InvalidVersion_) ["InvalidVersion"] (by decide) (by exact du_word fst_c (fun z hz C e => by rw [List.mem_singleton] at hz; subst hz; cases hv_InvalidVersion_.symm.trans e; exact hx_InvalidVersion_) (fun a pn => pe_var (i := 4) rfl (.inl rfl))) (.named (i := 4) (by exact ⟨rfl, rfl, .inl (hv_InvalidIndex_)⟩) (by rfl) (by rfl) (t.su__law_asked "InvalidIndex" _ (by decide) hv_InvalidIndex_) ["InvalidIndex"] (by decide) (by exact du_word fst_c (fun z hz C e => by rw [List.mem_singleton] at hz; subst hz; cases hv_InvalidIndex_.symm.trans e; exact hx_InvalidIndex_) (fun a pn => pe_var (i := 4) rfl (.inl rfl))) (.named (i := 4) (by exact ⟨rfl, rfl, .inl (hv_InvalidNumber_)⟩) (by rfl) (by rfl) (t.su__law_asked "InvalidNumber" _ (by decide) hv_InvalidNumber_) ["InvalidNumber"] (by decide) (by exact du_word fst_c (fun z hz C e => by rw [List.mem_singleton] at hz; subst hz; cases hv_InvalidNumber_.symm.trans e; exact hx_InvalidNumber_) (fun a pn => pe_var (i := 4) rfl (.inl rfl))) (.named (i := 4) (by exact ⟨rfl, rfl, .inl (hv_InvalidRange_)⟩) (by rfl) (by rfl) (t.su__law_asked "InvalidRange" _ (by decide) hv_InvalidRange_) ["InvalidRange"] (by decide) (by exact du_word fst_c (fun z hz C e => by rw [List.mem_singleton] at hz; subst hz; cases hv_InvalidRange_.symm.trans e; exact hx_InvalidRange_) (fun a pn => pe_var (i := 4) rfl (.inl rfl))) (.named (i := 4) (by exact ⟨rfl, rfl, .inl (hv_TooMany_)⟩) (by rfl) (by rfl) (t.su__law_asked "TooMany" _ (by decide) hv_TooMany_) ["TooMany"] (by decide) (by exact du_word fst_c (fun z hz C e => by rw [List.mem_singleton] at hz; subst hz; cases hv_TooMany_.symm.trans e; exact hx_TooMany_) (fun a pn => pe_var (i := 4) rfl (.inl rfl))) .nil)))))))))
end
end K80


set_option Elab.async false
set_option linter.all false
set_option maxRecDepth 100000
set_option maxHeartbeats 4000000
namespace K80
open PySem PySem.Spec PyProof.Rows L2 DL
section
variable {P : Program} {w : World} {K : PySem.W.Frag} {mg : Str → Option Value} {base : Heap} {a : Ad}
theorem ok__law_same (t : Tx P w K mg base a) : ∀ n : Nat, FnOk P w K mg base (L2.CX P w) (1 + n) a.f__law_same a.d__law_same ["told", "due"] (spF K mg 2 (F__law_same n))
  | 0 => fnE (N := ["told", "due", "key", "k"]) (m := 4) (k := 0) (g := M.bad) t.fn__law_same sc__law_same rfl rfl rfl (by
    rintro cdv A outer s H E hr X rfl tk po
    exact dss_bad)
  | n + 1 => fnE (N := ["told", "due", "key", "k"]) (m := 4) (k := 0 + 1 + n) (g := m__law_same (F__law_same n)) t.fn__law_same sc__law_same rfl rfl rfl (by
    have ih := ok__law_same t n
    rintro cdv A outer s H E hr X rfl tk po
    have hu := hr.units
    exact (ds_cons (ds_if (dt_w (dw_or (dt_cmp op_isN oIsN_ok (de_var (pe_var (i := 1) rfl (.inr (.inl rfl)))) de_non (nomark _)) (dw_or1 (dt_val (de_callB call_isi oIsi_ok rfl t.n_isinstance (by rfl) (da_cons (de_var (pe_var (i := 1) rfl (.inr (.inl rfl)))) (da_cons (de_tyName rfl t.n_bool (by rfl)) da_nil))))))) (ds_one (ds_ret (de_if (dt_cmp op_isN oIsN_ok (de_var (pe_var (i := 1) rfl (.inr (.inl rfl)))) de_non (nomark _)) (de_cmp op_isN oIsN_ok (de_var (pe_var (i := 0) rfl (.inr (.inl rfl)))) de_non (nomark _)) (de_and (de_callB call_isi oIsi_ok rfl t.n_isinstance (by rfl) (da_cons (de_var (pe_var (i := 0) rfl (.inr (.inl rfl)))) (da_cons (de_tyName rfl t.n_bool (by rfl)) da_nil))) (de_one (de_cmp (op_eqM hu) oEq_ok (de_cmp op_isBl oIsB_ok (de_var (pe_var (i := 0) rfl (.inr (.inl rfl)))) de_bl (nomark _)) (de_cmp op_isBl oIsB_ok (de_var (pe_var (i := 1) rfl (.inr (.inl rfl)))) de_bl (nomark _)) (nomark _))))))) ds_nil) (ds_cons (ds_if (dt_val (de_callB call_isi oIsi_ok rfl t.n_isinstance (by rfl) (da_cons (de_var (pe_var (i := 1) rfl (.inr (.inl rfl)))) (da_cons (de_tyName rfl t.n_int (by rfl)) da_nil)))) (ds_one (ds_ret (de_and (de_callB call_isi oIsi_ok rfl t.n_isinstance (by rfl) (da_cons (de_var (pe_var (i := 0) rfl (.inr (.inl rfl)))) (da_cons (de_tyName rfl t.n_int (by rfl)) da_nil))) (de_and (de_not (de_callB call_isi oIsi_ok rfl t.n_isinstance (by rfl) (da_cons (de_var (pe_var (i := 0) rfl (.inr (.inl rfl)))) (da_cons (de_tyName rfl t.n_bool (by rfl)) da_nil)))) (de_one (de_cmp (op_eqM hu) oEq_ok (de_op op_sub oSub_ok (de_callTy call_int1 oInt_ok rfl t.n_int (by rfl) (da_cons (de_var (pe_var (i := 0) rfl (.inr (.inl rfl)))) da_nil)) (de_var (pe_var (i := 1) rfl (.inr (.inl rfl))))) de_int (nomark _))))))) ds_nil) (ds_cons (ds_if (dt_val (de_callB call_isi oIsi_ok rfl t.n_isinstance (by rfl) (da_cons (de_var (pe_var (i := 1) rfl (.inr (.inl rfl)))) (da_cons (de_tyName rfl t.n_str (by rfl)) da_nil)))) (ds_one (ds_ret (de_and (de_callB call_isi oIsi_ok rfl t.n_isinstance (by rfl) (da_cons (de_var (pe_var (i := 0) rfl (.inr (.inl rfl)))) (da_cons (de_tyName rfl t.n_str (by rfl)) da_nil))) (de_one (de_cmp (op_eqM hu) oEq_ok (de_var (pe_var (i := 0) rfl (.inr (.inl rfl)))) (de_var (pe_var (i := 1) rfl (.inr (.inl rfl)))) (nomark _)))))) ds_nil) (ds_cons (ds_if (dt_val (de_callB call_isi oIsi_ok rfl t.n_isinstance (by rfl) (da_cons (de_var (pe_var (i := 1) rfl (.inr (.inl rfl)))) (da_cons (de_tyName rfl t.n_dict (by rfl)) da_nil)))) (ds_cons (ds_if (dt_w (dw_or (dt_not (dt_val (de_callB call_isi oIsi_ok rfl t.n_isinstance (by rfl) (da_cons (de_var (pe_var (i := 0) rfl (.inr (.inl rfl)))) (da_cons (de_tyName rfl t.n_dict (by rfl)) da_nil))))) (dw_or1 (dt_cmp (op_neM hu) oNe_ok (de_callB call_len2 oLen2_ok rfl t.n_len (by rfl) (da_cons (de_var (pe_var (i := 0) rfl (.inr (.inl rfl)))) da_nil)) (de_callB call_len2 oLen2_ok rfl t.n_len (by rfl) (da_cons (de_var (pe_var (i := 1) rfl (.inr (.inl rfl)))) da_nil)) (nomark _))))) (ds_one (ds_ret de_bl)) ds_nil) (ds_one (ds_ret (de_cmp (op_eq0 hu) oE0_ok (de_new (dn_lcD0 (own := [("key", 2)]) (t := .nm 2) (tt := tOrM (tB (e2 oNotIn (eVar 2) (eVar 0))) (tNotM (tB (eFun (F__law_same n) (aCons (e2 oIx (eVar 0) (eVar 2)) (aCons (e2 oIx (eVar 1) (eVar 2)) aNil)))))) (te := eVar 2) rfl sc__law_same.nd (pe_var (i := 1) rfl (.inr (.inl rfl))) (by rfl) ⟨fun _ _ _ _ _ => (pg_name (i := 2) sc__law_same.nd rfl (.inl rfl)), fun _ _ _ _ _ => (dts_one (dt_w (dw_or (dt_cmp op_notIn_seq oNotIn_ok (de_var (pe_var (i := 2) rfl (.inl rfl))) (de_var (pe_var (i := 0) rfl (.inr (.inl rfl)))) (by with_unfolding_all rfl)) (dw_or1 (dt_not (dt_val (de_call ih t.d__law_same (hr.mono (by omega)) rfl takes0 (da_cons (de_ix ix_seq oIx_ok (de_var (pe_var (i := 0) rfl (.inr (.inl rfl)))) (de_var (pe_var (i := 2) rfl (.inl rfl))) (fun _ _ => rfl)) (da_cons (de_ix ix_seq oIx_ok (de_var (pe_var (i := 1) rfl (.inr (.inl rfl)))) (de_var (pe_var (i := 2) rfl (.inl rfl))) (fun _ _ => rfl)) da_nil)) (Len.for (len_cons (len_cons len_nil)))))))))), fun _ _ _ _ _ => (de_var (pe_var (i := 2) rfl (.inl rfl)))⟩)) (de_new (dn_lst da_nil)) (nomark _))))) ds_nil) (ds_cons (ds_if (dt_w (dw_or (dt_not (dt_val (de_callB call_isiT2 oIsi2_ok rfl t.n_isinstance (by rfl) (da_cons (de_var (pe_var (i := 1) rfl (.inr (.inl rfl)))) (da_cons (de_tup (da_cons (de_tyName rfl t.n_list (by rfl)) (da_cons (de_tyName rfl t.n_tuple (by rfl)) da_nil))) da_nil))))) (dw_or (dt_not (dt_val (de_callB call_isiT2 oIsi2_ok rfl t.n_isinstance (by rfl) (da_cons (de_var (pe_var (i := 0) rfl (.inr (.inl rfl)))) (da_cons (de_tup (da_cons (de_tyName rfl t.n_list (by rfl)) (da_cons (de_tyName rfl t.n_tuple (by rfl)) da_nil))) da_nil))))) (dw_or1 (dt_cmp (op_neM hu) oNe_ok (de_callB call_isi oIsi_ok rfl t.n_isinstance (by rfl) (da_cons (de_var (pe_var (i := 0) rfl (.inr (.inl rfl)))) (da_cons (de_tyName rfl t.n_list (by rfl)) da_nil))) (de_callB call_isi oIsi_ok rfl t.n_isinstance (by rfl) (da_cons (de_var (pe_var (i := 1) rfl (.inr (.inl rfl)))) (da_cons (de_tyName rfl t.n_list (by rfl)) da_nil))) (nomark _)))))) (ds_one (ds_ret de_bl)) ds_nil) (ds_one (ds_ret (de_and (de_cmp (op_eqM hu) oEq_ok (de_callB call_len2 oLen2_ok rfl t.n_len (by rfl) (da_cons (de_var (pe_var (i := 0) rfl (.inr (.inl rfl)))) da_nil)) (de_callB call_len2 oLen2_ok rfl t.n_len (by rfl) (da_cons (de_var (pe_var (i := 1) rfl (.inr (.inl rfl)))) da_nil)) (nomark _)) (de_one (de_cmp (op_eq0 hu) oE0_ok (de_new (dn_lc (own := [("k", 3)]) rfl sc__law_same.nd (di_range1 rfl t.n_range (da_cons (de_callB call_len2 oLen2_ok rfl t.n_len (by rfl) (da_cons (de_var (pe_var (i := 1) rfl (.inr (.inl rfl)))) da_nil)) da_nil)) (by rfl) ⟨fun _ _ _ _ _ => (pg_name (i := 3) sc__law_same.nd rfl (.inl rfl)), fun _ _ _ _ _ => (dts_one (dt_not (dt_val (de_call ih t.d__law_same (hr.mono (by omega)) rfl takes0 (da_cons (de_ix ix_seq oIx_ok (de_var (pe_var (i := 0) rfl (.inr (.inl rfl)))) (de_var (pe_var (i := 3) rfl (.inl rfl))) (fun _ _ => rfl)) (da_cons (de_ix ix_seq oIx_ok (de_var (pe_var (i := 1) rfl (.inr (.inl rfl)))) (de_var (pe_var (i := 3) rfl (.inl rfl))) (fun _ _ => rfl)) da_nil)) (Len.for (len_cons (len_cons len_nil))))))), fun _ _ _ _ _ => (de_var (pe_var (i := 3) rfl (.inl rfl)))⟩ (by decide))) (de_new (dn_lst da_nil)) (nomark _))))))))))))
end
end K80


set_option Elab.async false
set_option linter.all false
set_option maxRecDepth 100000
set_option maxHeartbeats 4000000
namespace K80
open PySem PySem.Spec PyProof.Rows L2 DL
section
variable {P : Program} {w : World} {K : PySem.W.Frag} {mg : Str → Option Value} {base : Heap} {a : Ad}
theorem ok__law_take (t : Tx P w K mg base a) : FnOk P w K mg base (L2.CX P w) 1 a.f__law_take a.d__law_take ["box", "many"] (spF K mg 2 (F__law_take)) :=
  fnE (N := ["box", "many", "digit", "mixed"]) (m := 4) (k := 0) (g := m__law_take) t.fn__law_take sc__law_take rfl rfl rfl (by
    rintro cdv A outer s H E hr X rfl tk po
    have hu := hr.units
    exact (ds_cons (ds_if (dt_w (dw_and (dt_val (de_ix ix_seq oIx_ok (de_var (pe_var (i := 0) rfl (.inl rfl))) de_int (fun _ _ => rfl))) (dw_and1 (dt_cmp op_gt oGt_ok (de_ix ix_seq oIx_ok (de_var (pe_var (i := 0) rfl (.inl rfl))) de_int (fun _ _ => rfl)) de_int (nomark _))))) (ds_cons (ds_set (i := 2) sc__law_take.nd rfl (.inl rfl) (de_op op_mod oMod_ok (de_callTy call_int1 oInt_ok rfl t.n_int (by rfl) (da_cons (de_ix ix_seq oIx_ok (de_var (pe_var (i := 0) rfl (.inl rfl))) de_int (fun _ _ => rfl)) da_nil)) (de_var (pe_var (i := 1) rfl (.inl rfl))))) (ds_cons (ds_sub (de_op op_fdiv oFdiv_ok (de_ix ix_seq oIx_ok (de_var (pe_var (i := 0) rfl (.inl rfl))) de_int (fun _ _ => rfl)) (de_var (pe_var (i := 1) rfl (.inl rfl)))) (de_var (pe_var (i := 0) rfl (.inl rfl))) de_int) (ds_one (ds_ret (de_var (pe_var (i := 2) rfl (.inl rfl))))))) ds_nil) (ds_cons (ds_sub (de_op op_addAll oAdd_ok (de_ix ix_seq oIx_ok (de_var (pe_var (i := 0) rfl (.inl rfl))) de_int (fun _ _ => rfl)) de_int) (de_var (pe_var (i := 0) rfl (.inl rfl))) de_int) (ds_cons (ds_set (i := 3) sc__law_take.nd rfl (.inl rfl) (de_op op_mod oMod_ok (de_callTy call_int1 oInt_ok rfl t.n_int (by rfl) (da_cons (de_op op_pow oPow_ok (de_op op_addAll oAdd_ok (de_op op_addAll oAdd_ok (de_ix ix_seq oIx_ok (de_var (pe_var (i := 0) rfl (.inl rfl))) de_int (fun _ _ => rfl)) (de_op op_mulAll oMul_ok de_int (de_ix ix_seq oIx_ok (de_var (pe_var (i := 0) rfl (.inl rfl))) de_int (fun _ _ => rfl)))) de_int) de_int) da_nil)) de_int)) (ds_one (ds_ret (de_op op_mod oMod_ok (de_callTy call_int1 oInt_ok rfl t.n_int (by rfl) (da_cons (de_op op_fdiv oFdiv_ok (de_op op_mod oMod_ok (de_callTy call_int1 oInt_ok rfl t.n_int (by rfl) (da_cons (de_op op_pow oPow_ok (de_op op_addAll oAdd_ok (de_op op_mulAll oMul_ok (de_var (pe_var (i := 3) rfl (.inl rfl))) de_int) (de_op op_mulAll oMul_ok de_int (de_ix ix_seq oIx_ok (de_var (pe_var (i := 0) rfl (.inl rfl))) de_int (fun _ _ => rfl)))) de_int) da_nil)) de_int) de_int) da_nil)) (de_var (pe_var (i := 1) rfl (.inl rfl))))))))))
end
end K80

set_option Elab.async false
set_option linter.all false
set_option maxRecDepth 100000
set_option maxHeartbeats 4000000
namespace K80
open PySem PySem.Spec PyProof.Rows L2 DL
section
variable {P : Program} {w : World} {K : PySem.W.Frag} {mg : Str → Option Value} {base : Heap} {a : Ad}
theorem ok__law_all_right (t : Tx P w K mg base a) : FnOk P w K mg base (L2.CX P w) 11 a.f__law_all_right a.d__law_all_right ["box", "kept", "rows", "parents", "by_name"] (spF K mg 5 (F__law_all_right a.C_Versions)) :=
  fnE (N := ["box", "kept", "rows", "parents", "by_name", "turn", "version", "other", "low", "high", "told", "due", "k"]) (m := 13) (k := 10) (g := m__law_all_right a.C_Versions) t.fn__law_all_right sc__law_all_right rfl rfl rfl (by
    rintro cdv A outer s H E hr X rfl tk po
    have hu := hr.units
    exact (ds_cons (ds_for po rfl (di_range1 rfl t.n_range (da_cons de_int da_nil)) (pg_name (i := 5) sc__law_all_right.nd rfl (.inl rfl)) (ds_cons (ds_asg (t := .tp [6, 7]) (de_tup (da_cons (de_call (ok__law_take t) t.d__law_take (hr.mono (by omega)) rfl tk (da_cons (de_var (pe_var (i := 0) rfl (.inl rfl))) (da_cons (de_callB call_len2 oLen2_ok rfl t.n_len (by rfl) (da_cons (de_var (pe_var (i := 2) rfl (.inr (.inl rfl)))) da_nil)) da_nil)) (Len.for (len_cons (len_cons len_nil)))) (da_cons (de_call (ok__law_take t) t.d__law_take (hr.mono (by omega)) rfl tk (da_cons (de_var (pe_var (i := 0) rfl (.inl rfl))) (da_cons (de_callB call_len2 oLen2_ok rfl t.n_len (by rfl) (da_cons (de_var (pe_var (i := 2) rfl (.inr (.inl rfl)))) da_nil)) da_nil)) (Len.for (len_cons (len_cons len_nil)))) da_nil))) (pg_tup rfl (pgs_cons (pg_name (i := 6) sc__law_all_right.nd rfl (.inr rfl)) (pgs_cons (pg_name (i := 7) sc__law_all_right.nd rfl (.inr rfl)) pgs_nil)))) (ds_cons (ds_set (i := 8) sc__law_all_right.nd rfl (.inl rfl) (de_call (ok__law_take t) t.d__law_take (hr.mono (by omega)) rfl tk (da_cons (de_var (pe_var (i := 0) rfl (.inl rfl))) (da_cons (de_op op_addAll oAdd_ok (de_callB call_len2 oLen2_ok rfl t.n_len (by rfl) (da_cons (de_ix ix_seq oIx_ok (de_var (pe_var (i := 2) rfl (.inr (.inl rfl)))) de_int (fun _ _ => rfl)) da_nil)) de_int) da_nil)) (Len.for (len_cons (len_cons len_nil))))) (ds_cons (ds_set (i := 9) sc__law_all_right.nd rfl (.inl rfl) (de_op op_addAll oAdd_ok (de_var (pe_var (i := 8) rfl (.inl rfl))) (de_call (ok__law_take t) t.d__law_take (hr.mono (by omega)) rfl tk (da_cons (de_var (pe_var (i := 0) rfl (.inl rfl))) (da_cons (de_op op_sub oSub_ok (de_op op_addAll oAdd_ok (de_callB call_len2 oLen2_ok rfl t.n_len (by rfl) (da_cons (de_ix ix_seq oIx_ok (de_var (pe_var (i := 2) rfl (.inr (.inl rfl)))) de_int (fun _ _ => rfl)) da_nil)) de_int) (de_var (pe_var (i := 8) rfl (.inl rfl)))) da_nil)) (Len.for (len_cons (len_cons len_nil)))))) (ds_cons (ds_set (i := 10) sc__law_all_right.nd rfl (.inl rfl) (de_new (dn_lst (da_cons (de_call (ok__law_asked t) t.d__law_asked (hr.mono (by omega)) rfl tk (da_cons (de_var (pe_var (i := 1) rfl (.inl rfl))) (da_cons de_str (da_cons (de_new (dn_lst (da_cons (de_var (pe_var (i := 6) rfl (.inr (.inl rfl)))) da_nil))) (da_cons (de_var (pe_var (i := 4) rfl (.inl rfl))) da_nil)))) (Len.for (len_cons (len_cons (len_cons (len_cons len_nil)))))) (da_cons (de_call (ok__law_asked t) t.d__law_asked (hr.mono (by omega)) rfl tk (da_cons (de_var (pe_var (i := 1) rfl (.inl rfl))) (da_cons de_str (da_cons (de_new (dn_lst (da_cons (de_var (pe_var (i := 6) rfl (.inr (.inl rfl)))) da_nil))) (da_cons (de_var (pe_var (i := 4) rfl (.inl rfl))) da_nil)))) (Len.for (len_cons (len_cons (len_cons (len_cons len_nil)))))) (da_cons (de_call (ok__law_asked t) t.d__law_asked (hr.mono (by omega)) rfl tk (da_cons (de_var (pe_var (i := 1) rfl (.inl rfl))) (da_cons de_str (da_cons (de_new (dn_lst (da_cons (de_var (pe_var (i := 6) rfl (.inr (.inl rfl)))) (da_cons (de_var (pe_var (i := 8) rfl (.inl rfl))) (da_cons (de_var (pe_var (i := 9) rfl (.inl rfl))) da_nil))))) (da_cons (de_not (de_var (pe_var (i := 4) rfl (.inl rfl)))) da_nil)))) (Len.for (len_cons (len_cons (len_cons (len_cons len_nil)))))) da_nil)))))) (ds_cons (ds_if (dt_not (dt_val (de_call (ok__law_same t 9) t.d__law_same (hr.mono (by omega)) rfl tk (da_cons (de_var (pe_var (i := 10) rfl (.inl rfl))) (da_cons (de_new (dn_lst (da_cons (de_new (dn_lst (da_cons de_str (da_cons (de_ix ix_seq oIx_ok (de_var (pe_var (i := 2) rfl (.inr (.inl rfl)))) (de_var (pe_var (i := 6) rfl (.inr (.inl rfl)))) (fun _ _ => rfl)) da_nil)))) (da_cons (de_new (dn_lst (da_cons de_str (da_cons (de_ix ix_seq oIx_ok (de_var (pe_var (i := 3) rfl (.inl rfl))) (de_var (pe_var (i := 6) rfl (.inr (.inl rfl)))) (fun _ _ => rfl)) da_nil)))) (da_cons (de_new (dn_lst (da_cons de_str (da_cons (de_callB (cr_sum2 rfl) oSum2_ok rfl t.n_sum (by rfl) (da_cons (de_slice sl_all oSl_ok (de_ix ix_seq oIx_ok (de_var (pe_var (i := 2) rfl (.inr (.inl rfl)))) (de_var (pe_var (i := 6) rfl (.inr (.inl rfl)))) (fun _ _ => rfl)) (do_some (de_var (pe_var (i := 8) rfl (.inl rfl)))) (do_some (de_var (pe_var (i := 9) rfl (.inl rfl))))) da_nil)) da_nil)))) da_nil))))) da_nil)) (Len.for (len_cons (len_cons len_nil)))))) (ds_one (ds_ret de_bl)) ds_nil) (ds_cons (ds_set (i := 11) sc__law_all_right.nd rfl (.inl rfl) (de_callTy call_tuple_of oTuple_ok rfl t.n_tuple (by rfl) (da_cons (de_new (dn_lc (own := [("k", 12)]) rfl sc__law_all_right.nd (di_range1 rfl t.n_range (da_cons (de_callB call_len2 oLen2_ok rfl t.n_len (by rfl) (da_cons (de_ix ix_seq oIx_ok (de_var (pe_var (i := 2) rfl (.inr (.inl rfl)))) de_int (fun _ _ => rfl)) da_nil)) da_nil)) (by rfl) ⟨fun _ _ _ _ _ => (pg_name (i := 12) sc__law_all_right.nd rfl (.inl rfl)), fun _ _ _ _ _ => (dts_one (dt_cmp (op_neM hu) oNe_ok (de_ix ix_seq oIx_ok (de_ix ix_seq oIx_ok (de_var (pe_var (i := 2) rfl (.inr (.inl rfl)))) (de_var (pe_var (i := 6) rfl (.inr (.inl rfl)))) (fun _ _ => rfl)) (de_var (pe_var (i := 12) rfl (.inl rfl))) (fun _ _ => rfl)) (de_ix ix_seq oIx_ok (de_ix ix_seq oIx_ok (de_var (pe_var (i := 2) rfl (.inr (.inl rfl)))) (de_var (pe_var (i := 7) rfl (.inr (.inl rfl)))) (fun _ _ => rfl)) (de_var (pe_var (i := 12) rfl (.inl rfl))) (fun _ _ => rfl)) (nomark _))), fun _ _ _ _ _ => (de_var (pe_var (i := 12) rfl (.inl rfl)))⟩ (by decide))) da_nil))) (ds_cons (ds_if (dt_not (dt_val (de_call (ok__law_same t 9) t.d__law_same (hr.mono (by omega)) rfl tk (da_cons (de_new (dn_lst (da_cons (de_call (ok__law_asked t) t.d__law_asked (hr.mono (by omega)) rfl tk (da_cons (de_var (pe_var (i := 1) rfl (.inl rfl))) (da_cons de_str (da_cons (de_new (dn_lst (da_cons (de_var (pe_var (i := 6) rfl (.inr (.inl rfl)))) (da_cons (de_var (pe_var (i := 7) rfl (.inr (.inl rfl)))) da_nil)))) (da_cons (de_var (pe_var (i := 4) rfl (.inl rfl))) da_nil)))) (Len.for (len_cons (len_cons (len_cons (len_cons len_nil)))))) (da_cons (de_call (ok__law_asked t) t.d__law_asked (hr.mono (by omega)) rfl tk (da_cons (de_var (pe_var (i := 1) rfl (.inl rfl))) (da_cons de_str (da_cons (de_new (dn_lst (da_cons (de_var (pe_var (i := 7) rfl (.inr (.inl rfl)))) (da_cons (de_var (pe_var (i := 6) rfl (.inr (.inl rfl)))) da_nil)))) (da_cons (de_not (de_var (pe_var (i := 4) rfl (.inl rfl)))) da_nil)))) (Len.for (len_cons (len_cons (len_cons (len_cons len_nil)))))) da_nil)))) (da_cons (de_op op_mulAll oMul_ok (de_new (dn_lst (da_cons (de_new (dn_lst (da_cons de_str (da_cons (de_var (pe_var (i := 11) rfl (.inl rfl))) da_nil)))) da_nil))) de_int) da_nil)) (Len.for (len_cons (len_cons len_nil)))))) (ds_one (ds_ret de_bl)) ds_nil) (ds_one (ds_set (i := 4) sc__law_all_right.nd rfl (.inl rfl) (de_not (de_var (pe_var (i := 4) rfl (.inl rfl)))))))))))))) (ds_one (ds_ret de_bl))))
end
end K80


set_option Elab.async false
set_option linter.all false
set_option maxRecDepth 100000
set_option maxHeartbeats 4000000
namespace K80
open PySem PySem.Spec PyProof.Rows L2 DL
section
variable {P : Program} {w : World} {K : PySem.W.Frag} {mg : Str → Option Value} {base : Heap} {a : Ad}
theorem ok__law_digits (t : Tx P w K mg base a) : FnOk P w K mg base (L2.CX P w) 1 a.f__law_digits a.d__law_digits ["size"] (spF K mg 1 (F__law_digits)) :=
  fnE (N := ["size", "found"]) (m := 2) (k := 0) (g := m__law_digits) t.fn__law_digits sc__law_digits rfl rfl rfl (by
    rintro cdv A outer s H E hr X rfl tk po
    have hu := hr.units
    exact (ds_cons (ds_set (i := 1) sc__law_digits.nd rfl (.inl rfl) de_int) (ds_cons (ds_while 50 po (dt_cmp op_gt oGt_ok (de_var (pe_var (i := 0) rfl (.inl rfl))) de_int (nomark _)) (ds_one (ds_par (i := 1) (j := 0) rfl sc__law_digits.nd rfl rfl (by decide) rfl rfl (da_cons (de_op op_addAll oAdd_ok (de_var (pe_var (i := 1) rfl (.inl rfl))) de_int) (da_cons (de_op op_fdiv oFdiv_ok (de_var (pe_var (i := 0) rfl (.inl rfl))) de_int) da_nil)) rfl))) (ds_one (ds_ret (de_var (pe_var (i := 1) rfl (.inl rfl))))))))
end
end K80

set_option Elab.async false
set_option linter.all false
set_option maxRecDepth 100000
set_option maxHeartbeats 4000000
namespace K80
open PySem PySem.Spec PyProof.Rows L2 DL
section
variable {P : Program} {w : World} {K : PySem.W.Frag} {mg : Str → Option Value} {base : Heap} {a : Ad}
theorem ok_Versions_grow (t : Tx P w K mg base a) : ∀ n : Nat, FnOk P w K mg base (L2.CX P w) (2 + n) a.f_Versions_grow a.d_Versions_grow ["self", "row", "low", "high"] (spF K mg 4 (F_Versions_grow a.C_Versions n))
  | 0 => fnE (N := ["self", "row", "low", "high", "middle", "left", "right"]) (m := 7) (k := 1) (g := M.bad) t.fn_Versions_grow sc_Versions_grow rfl rfl rfl (by
    rintro cdv A outer s H E hr X rfl tk po
    exact dss_bad)
  | n + 1 => fnE (N := ["self", "row", "low", "high", "middle", "left", "right"]) (m := 7) (k := 1 + 1 + n) (g := m_Versions_grow a.C_Versions (F_Versions_grow a.C_Versions n)) t.fn_Versions_grow sc_Versions_grow rfl rfl rfl (by
    have ih := ok_Versions_grow t n
    rintro cdv A outer s H E hr X rfl tk po
    have hu := hr.units
    exact (ds_cons (ds_if (dt_cmp (op_eqM hu) oEq_ok (de_op op_sub oSub_ok (de_var (pe_var (i := 3) rfl (.inl rfl))) (de_var (pe_var (i := 2) rfl (.inl rfl)))) de_int (nomark _)) (ds_one (ds_ret (de_meth (ok_Versions_keep t) t.cl_Versions t.me_Versions_keep t.b_Versions_keep (hr.mono (by omega)) tk (de_var (pe_var (i := 0) rfl (.inl rfl))) (da_cons (de_ix ix_seq oIx_ok (de_var (pe_var (i := 1) rfl (.inl rfl))) (de_var (pe_var (i := 2) rfl (.inl rfl))) (fun _ _ => rfl)) (da_cons de_non (da_cons de_non da_nil))) (len_cons (len_cons (len_cons len_nil))) (by decide)))) ds_nil) (ds_cons (ds_set (i := 4) sc_Versions_grow.nd rfl (.inl rfl) (de_op op_fdiv oFdiv_ok (de_op op_addAll oAdd_ok (de_var (pe_var (i := 2) rfl (.inl rfl))) (de_var (pe_var (i := 3) rfl (.inl rfl)))) de_int)) (ds_cons (ds_par (i := 5) (j := 6) rfl sc_Versions_grow.nd rfl rfl (by decide) rfl rfl (da_cons (de_meth ih t.cl_Versions t.me_Versions_grow t.b_Versions_grow (hr.mono (by omega)) tk (de_var (pe_var (i := 0) rfl (.inl rfl))) (da_cons (de_var (pe_var (i := 1) rfl (.inl rfl))) (da_cons (de_var (pe_var (i := 2) rfl (.inl rfl))) (da_cons (de_var (pe_var (i := 4) rfl (.inl rfl))) da_nil))) (len_cons (len_cons (len_cons len_nil))) (by decide)) (da_cons (de_meth ih t.cl_Versions t.me_Versions_grow t.b_Versions_grow (hr.mono (by omega)) tk (de_var (pe_var (i := 0) rfl (.inl rfl))) (da_cons (de_var (pe_var (i := 1) rfl (.inl rfl))) (da_cons (de_var (pe_var (i := 4) rfl (.inl rfl))) (da_cons (de_var (pe_var (i := 3) rfl (.inl rfl))) da_nil))) (len_cons (len_cons (len_cons len_nil))) (by decide)) da_nil)) rfl) (ds_one (ds_ret (de_meth (ok_Versions_keep t) t.cl_Versions t.me_Versions_keep t.b_Versions_keep (hr.mono (by omega)) tk (de_var (pe_var (i := 0) rfl (.inl rfl))) (da_cons (de_op op_addAll oAdd_ok (de_ix ix_seq oIx_ok (de_ix ix_seq oIx_ok (de_fld t.cl_Versions t.na_kept (de_var (pe_var (i := 0) rfl (.inl rfl)))) (de_var (pe_var (i := 5) rfl (.inl rfl))) (fun _ _ => rfl)) de_int (fun _ _ => rfl)) (de_ix ix_seq oIx_ok (de_ix ix_seq oIx_ok (de_fld t.cl_Versions t.na_kept (de_var (pe_var (i := 0) rfl (.inl rfl)))) (de_var (pe_var (i := 6) rfl (.inl rfl))) (fun _ _ => rfl)) de_int (fun _ _ => rfl))) (da_cons (de_var (pe_var (i := 5) rfl (.inl rfl))) (da_cons (de_var (pe_var (i := 6) rfl (.inl rfl))) da_nil))) (len_cons (len_cons (len_cons len_nil))) (by decide))))))))
end
end K80

set_option Elab.async false
set_option linter.all false
set_option maxRecDepth 100000
set_option maxHeartbeats 4000000
namespace K80
open PySem PySem.Spec PyProof.Rows L2 DL
section
variable {P : Program} {w : World} {K : PySem.W.Frag} {mg : Str → Option Value} {base : Heap} {a : Ad}
theorem ok_check_row (t : Tx P w K mg base a) : FnOk P w K mg base (L2.CX P w) 3 a.f_check_row a.d_check_row ["row"] (spF K mg 1 (F_check_row)) :=
  fnE (N := ["row", "number"]) (m := 2) (k := 2) (g := m_check_row) t.fn_check_row sc_check_row rfl rfl rfl (by
    rintro cdv A outer s H E hr X rfl tk po
    have hu := hr.units
    exact (ds_one (ds_if (dt_w (dw_or (dt_not (dt_val (de_callB call_isi oIsi_ok rfl t.n_isinstance (by rfl) (da_cons (de_var (pe_var (i := 0) rfl (.inl rfl))) (da_cons (de_tyName rfl t.n_tuple (by rfl)) da_nil))))) (dw_or (dt_not (dt_chain op_le op_le oI_chain oLe_ok de_int (de_callB call_len2 oLen2_ok rfl t.n_len (by rfl) (da_cons (de_var (pe_var (i := 0) rfl (.inl rfl))) da_nil)) (de_gl rfl t.c_MOST_ROW fun _ _ _ => rp_int))) (dw_or1 (dt_not (dt_val (de_callB (cr_all rfl) oAll_ok rfl t.n_all (by rfl) (da_cons (de_new (dn_lc (own := [("number", 1)]) rfl sc_check_row.nd (di_tup (de_var (pe_var (i := 0) rfl (.inl rfl)))) (by rfl) ⟨fun _ _ _ _ _ => (pg_name (i := 1) sc_check_row.nd rfl (.inl rfl)), fun _ _ _ _ _ => dts_nil, fun _ _ _ _ _ => (de_call (ok_is_integer t) t.d_is_integer (hr.mono (by omega)) rfl takes0 (da_cons (de_var (pe_var (i := 1) rfl (.inl rfl))) da_nil) (Len.for (len_cons len_nil)))⟩ (by decide))) da_nil)))))))) (ds_one (ds_raise t.e_InvalidRow rfl (hr.mono (j := 2) (by omega)) (by decide) tk rfl (da_cons (de_var (pe_var (i := 0) rfl (.inl rfl))) da_nil) (len_cons len_nil))) ds_nil)))
end
end K80

set_option Elab.async false
set_option linter.all false
set_option maxRecDepth 100000
set_option maxHeartbeats 4000000
namespace K80
open PySem PySem.Spec PyProof.Rows L2 DL
section
variable {P : Program} {w : World} {K : PySem.W.Frag} {mg : Str → Option Value} {base : Heap} {a : Ad}
theorem ok_Versions_init (t : Tx P w K mg base a) : FnOk P w K mg base (L2.CX P w) 10 a.f_Versions_init a.d_Versions_init ["self", "row"] (spF K mg 2 (F_Versions_init a.C_Versions)) :=
  fnE (N := ["self", "row"]) (m := 2) (k := 9) (g := m_Versions_init a.C_Versions) t.fn_Versions_init sc_Versions_init rfl rfl rfl (by
    rintro cdv A outer s H E hr X rfl tk po
    have hu := hr.units
    exact (ds_cons (ds_expr (de_call (ok_check_row t) t.d_check_row (hr.mono (by omega)) rfl tk (da_cons (de_var (pe_var (i := 1) rfl (.inl rfl))) da_nil) (Len.for (len_cons len_nil)))) (ds_cons (ds_fld t.cl_Versions t.na_size (de_var (pe_var (i := 0) rfl (.inl rfl))) (de_callB call_len2 oLen2_ok rfl t.n_len (by rfl) (da_cons (de_var (pe_var (i := 1) rfl (.inl rfl))) da_nil))) (ds_cons (ds_fld t.cl_Versions t.na_kept (de_var (pe_var (i := 0) rfl (.inl rfl))) (de_alloc (dn_lst da_nil))) (ds_cons (ds_fld t.cl_Versions t.na_tops (de_var (pe_var (i := 0) rfl (.inl rfl))) (de_alloc (dn_lst (da_cons (de_meth (ok_Versions_grow t 7) t.cl_Versions t.me_Versions_grow t.b_Versions_grow (hr.mono (by omega)) tk (de_var (pe_var (i := 0) rfl (.inl rfl))) (da_cons (de_var (pe_var (i := 1) rfl (.inl rfl))) (da_cons de_int (da_cons (de_callB call_len2 oLen2_ok rfl t.n_len (by rfl) (da_cons (de_var (pe_var (i := 1) rfl (.inl rfl))) da_nil)) da_nil))) (len_cons (len_cons (len_cons len_nil))) (by decide)) da_nil)))) (ds_one (ds_fld t.cl_Versions t.na_parents (de_var (pe_var (i := 0) rfl (.inl rfl))) (de_alloc (dn_lst (da_cons de_non da_nil))))))))))
end
end K80

set_option Elab.async false
set_option linter.all false
set_option maxRecDepth 100000
set_option maxHeartbeats 4000000
namespace K80
open PySem PySem.Spec PyProof.Rows L2 DL
section
variable {P : Program} {w : World} {K : PySem.W.Frag} {mg : Str → Option Value} {base : Heap} {a : Ad}
theorem ok__law_made (t : Tx P w K mg base a) : FnOk P w K mg base (L2.CX P w) 12 a.f__law_made a.d__law_made ["row", "by_name"] (spF K mg 2 (F__law_made a.C_Versions)) :=
  fnE (N := ["row", "by_name", "e"]) (m := 3) (k := 11) (g := m__law_made a.C_Versions) t.fn__law_made sc__law_made rfl rfl rfl (by
    rintro cdv A outer s H E hr X rfl tk po
    have hu := hr.units
    obtain ⟨C_InvalidRow_, hv_InvalidRow_, hx_InvalidRow_⟩ := t.hv_InvalidRow
    exact (ds_one (ds_try rfl rfl sc__law_made.nd tk (fun W2 pn xe tk2 po2 => (ds_one (ds_ret (de_new (dn_lst (da_cons de_str (da_cons (de_if (dt_val (de_var (pe_var (i := 1) rfl (.inl rfl)))) (de_makeK t.mk_Versions (ok_Versions_init t) (hr.mono (by omega)) rfl t.g_Versions t.kw_Versions_init_row tk2 (dk_cons (de_var (pe_var (i := 0) rfl (.inl rfl))) dk_nil) (len_cons len_nil) (permL_len1 (by decide))) (de_make t.mk_Versions (ok_Versions_init t) (hr.mono (by omega)) rfl t.g_Versions t.b_Versions_init tk2 (da_cons (de_var (pe_var (i := 0) rfl (.inl rfl))) da_nil) (len_cons len_nil) (by decide))) da_nil))))))) (by exact (.named (i := 2) (by exact ⟨rfl, rfl, .inl (hv_InvalidRow_)⟩) (by rfl) (by rfl) (t.su__law_made "InvalidRow" _ (by decide) hv_InvalidRow_) ["InvalidRow"] (by decide) (by exact du_word fst_c (fun z hz C e => by rw [List.mem_singleton] at hz; subst hz; cases hv_InvalidRow_.symm.trans e; exact hx_InvalidRow_) (fun a pn => pe_var (i := 2) rfl (.inl rfl))) .nil)))))
end
end K80

set_option Elab.async false
set_option linter.all false
set_option maxRecDepth 100000
set_option maxHeartbeats 4000000
namespace K80
open PySem PySem.Spec PyProof.Rows L2 DL
section
variable {P : Program} {w : World} {K : PySem.W.Frag} {mg : Str → Option Value} {base : Heap} {a : Ad}
theorem ok__law_number (t : Tx P w K mg base a) : FnOk P w K mg base (L2.CX P w) 2 a.f__law_number a.d__law_number ["box"] (spF K mg 1 (F__law_number)) :=
  fnE (N := ["box"]) (m := 1) (k := 1) (g := m__law_number) t.fn__law_number sc__law_number rfl rfl rfl (by
    rintro cdv A outer s H E hr X rfl tk po
    have hu := hr.units
    exact (ds_one (ds_ret (de_ix ix_seq oIx_ok (de_new (dn_lst (da_cons de_int (da_cons de_int (da_cons (de_un un_neg oNeg_ok de_int) (da_cons (de_call (ok__law_take t) t.d__law_take (hr.mono (by omega)) rfl tk (da_cons (de_var (pe_var (i := 0) rfl (.inl rfl))) (da_cons de_int da_nil)) (Len.for (len_cons (len_cons len_nil)))) (da_cons (de_un un_neg oNeg_ok (de_call (ok__law_take t) t.d__law_take (hr.mono (by omega)) rfl tk (da_cons (de_var (pe_var (i := 0) rfl (.inl rfl))) (da_cons de_int da_nil)) (Len.for (len_cons (len_cons len_nil))))) (da_cons (de_op op_addAll oAdd_ok (de_op op_pow oPow_ok de_int de_int) (de_call (ok__law_take t) t.d__law_take (hr.mono (by omega)) rfl tk (da_cons (de_var (pe_var (i := 0) rfl (.inl rfl))) (da_cons de_int da_nil)) (Len.for (len_cons (len_cons len_nil))))) (da_cons (de_call (ok__law_take t) t.d__law_take (hr.mono (by omega)) rfl tk (da_cons (de_var (pe_var (i := 0) rfl (.inl rfl))) (da_cons de_int da_nil)) (Len.for (len_cons (len_cons len_nil)))) da_nil))))))))) (de_call (ok__law_take t) t.d__law_take (hr.mono (by omega)) rfl tk (da_cons (de_var (pe_var (i := 0) rfl (.inl rfl))) (da_cons de_int da_nil)) (Len.for (len_cons (len_cons len_nil)))) (fun _ _ => rfl)))))
end
end K80

set_option Elab.async false
set_option linter.all false
set_option maxRecDepth 100000
set_option maxHeartbeats 4000000
namespace K80
open PySem PySem.Spec PyProof.Rows L2 DL
section
variable {P : Program} {w : World} {K : PySem.W.Frag} {mg : Str → Option Value} {base : Heap} {a : Ad}
theorem ok__law_mixed (t : Tx P w K mg base a) : FnOk P w K mg base (L2.CX P w) 2 a.f__law_mixed a.d__law_mixed ["box", "items"] (spF K mg 2 (F__law_mixed)) :=
  fnE (N := ["box", "items", "left", "found"]) (m := 4) (k := 1) (g := m__law_mixed) t.fn__law_mixed sc__law_mixed rfl rfl rfl (by
    rintro cdv A outer s H E hr X rfl tk po
    have hu := hr.units
    exact (ds_cons (ds_par (i := 2) (j := 3) rfl sc__law_mixed.nd rfl rfl (by decide) rfl rfl (da_cons (de_alloc (dn_callTy call_list_of oList_ok rfl t.n_list (by rfl) (da_cons (de_var (pe_var (i := 1) rfl (.inl rfl))) da_nil))) (da_cons (de_alloc (dn_lst da_nil)) da_nil)) rfl) (ds_cons (ds_while 100 po (dt_cmp (op_ne0 hu) oE0_ok (de_var (pe_var (i := 2) rfl (.inl rfl))) (de_new (dn_lst da_nil)) (nomark _)) (ds_one (ds_expr (de_mt PySem.F.slot_list_append PySem.F.type_list_append mt_append mAppend_ok (de_var (pe_var (i := 3) rfl (.inl rfl))) (da_cons (de_mt PySem.F.slot_list_pop PySem.F.type_list_pop mt_popAt mPopAt_ok (de_var (pe_var (i := 2) rfl (.inl rfl))) (da_cons (de_call (ok__law_take t) t.d__law_take (hr.mono (by omega)) rfl tk (da_cons (de_var (pe_var (i := 0) rfl (.inl rfl))) (da_cons (de_callB call_len2 oLen2_ok rfl t.n_len (by rfl) (da_cons (de_var (pe_var (i := 2) rfl (.inl rfl))) da_nil)) da_nil)) (Len.for (len_cons (len_cons len_nil)))) da_nil)) da_nil))))) (ds_one (ds_ret (de_var (pe_var (i := 3) rfl (.inl rfl))))))))
end
end K80

set_option Elab.async false
set_option linter.all false
set_option maxRecDepth 100000
set_option maxHeartbeats 4000000
namespace K80
open PySem PySem.Spec PyProof.Rows L2 DL
section
variable {P : Program} {w : World} {K : PySem.W.Frag} {mg : Str → Option Value} {base : Heap} {a : Ad}
theorem ok__law_refused_right (t : Tx P w K mg base a) : FnOk P w K mg base (L2.CX P w) 11 a.f__law_refused_right a.d__law_refused_right ["box", "kept", "rows", "by_name"] (spF K mg 4 (F__law_refused_right a.C_Versions)) :=
  fnE (N := ["box", "kept", "rows", "by_name", "size", "before", "bad", "told", "index", "number", "low", "high", "k"]) (m := 13) (k := 10) (g := m__law_refused_right a.C_Versions) t.fn__law_refused_right sc__law_refused_right rfl rfl rfl (by
    rintro cdv A outer s H E hr X rfl tk po
    have hu := hr.units
    exact (ds_cons (ds_par (i := 4) (j := 5) rfl sc__law_refused_right.nd rfl rfl (by decide) rfl rfl (da_cons (de_callB call_len2 oLen2_ok rfl t.n_len (by rfl) (da_cons (de_ix ix_seq oIx_ok (de_var (pe_var (i := 2) rfl (.inl rfl))) de_int (fun _ _ => rfl)) da_nil)) (da_cons (de_meth0 (ok_Versions_nodes t) t.cl_Versions t.me_Versions_nodes t.b_Versions_nodes (hr.mono (by omega)) tk (de_var (pe_var (i := 1) rfl (.inl rfl)))) da_nil)) rfl) (ds_cons (ds_set (i := 6) sc__law_refused_right.nd rfl (.inr rfl) (de_call (ok__law_mixed t) t.d__law_mixed (hr.mono (by omega)) rfl tk (da_cons (de_var (pe_var (i := 0) rfl (.inl rfl))) (da_cons (de_new (dn_lst (da_cons de_non (da_cons (de_un un_neg oNeg_ok de_int) (da_cons (de_callB call_len2 oLen2_ok rfl t.n_len (by rfl) (da_cons (de_var (pe_var (i := 2) rfl (.inl rfl))) da_nil)) (da_cons de_bl (da_cons de_str (da_cons (de_new (dn_lst (da_cons de_int da_nil))) (da_cons (de_tup (da_cons de_int da_nil)) (da_cons (de_op op_pow oPow_ok de_int de_int) da_nil)))))))))) da_nil)) (Len.for (len_cons (len_cons len_nil))))) (ds_cons (ds_set (i := 7) sc__law_refused_right.nd rfl (.inl rfl) (de_new (dn_lst (da_cons (de_call (ok__law_asked t) t.d__law_asked (hr.mono (by omega)) rfl tk (da_cons (de_var (pe_var (i := 1) rfl (.inl rfl))) (da_cons de_str (da_cons (de_new (dn_lst (da_cons (de_ix ix_seq oIx_ok (de_var (pe_var (i := 6) rfl (.inr (.inl rfl)))) de_int (fun _ _ => rfl)) (da_cons de_non (da_cons de_non da_nil))))) (da_cons (de_var (pe_var (i := 3) rfl (.inl rfl))) da_nil)))) (Len.for (len_cons (len_cons (len_cons (len_cons len_nil)))))) (da_cons (de_call (ok__law_asked t) t.d__law_asked (hr.mono (by omega)) rfl tk (da_cons (de_var (pe_var (i := 1) rfl (.inl rfl))) (da_cons de_str (da_cons (de_new (dn_lst (da_cons (de_ix ix_seq oIx_ok (de_var (pe_var (i := 6) rfl (.inr (.inl rfl)))) de_int (fun _ _ => rfl)) da_nil))) (da_cons (de_var (pe_var (i := 3) rfl (.inl rfl))) da_nil)))) (Len.for (len_cons (len_cons (len_cons (len_cons len_nil)))))) (da_cons (de_call (ok__law_asked t) t.d__law_asked (hr.mono (by omega)) rfl tk (da_cons (de_var (pe_var (i := 1) rfl (.inl rfl))) (da_cons de_str (da_cons (de_new (dn_lst (da_cons (de_ix ix_seq oIx_ok (de_var (pe_var (i := 6) rfl (.inr (.inl rfl)))) de_int (fun _ _ => rfl)) (da_cons de_non (da_cons de_non da_nil))))) (da_cons (de_not (de_var (pe_var (i := 3) rfl (.inl rfl)))) da_nil)))) (Len.for (len_cons (len_cons (len_cons (len_cons len_nil)))))) da_nil)))))) (ds_cons (ds_set (i := 7) sc__law_refused_right.nd rfl (.inl rfl) (de_op op_addAll oAdd_ok (de_var (pe_var (i := 7) rfl (.inl rfl))) (de_new (dn_lst (da_cons (de_call (ok__law_asked t) t.d__law_asked (hr.mono (by omega)) rfl tk (da_cons (de_var (pe_var (i := 1) rfl (.inl rfl))) (da_cons de_str (da_cons (de_new (dn_lst (da_cons (de_ix ix_seq oIx_ok (de_var (pe_var (i := 6) rfl (.inr (.inl rfl)))) de_int (fun _ _ => rfl)) da_nil))) (da_cons (de_var (pe_var (i := 3) rfl (.inl rfl))) da_nil)))) (Len.for (len_cons (len_cons (len_cons (len_cons len_nil)))))) (da_cons (de_call (ok__law_asked t) t.d__law_asked (hr.mono (by omega)) rfl tk (da_cons (de_var (pe_var (i := 1) rfl (.inl rfl))) (da_cons de_str (da_cons (de_new (dn_lst (da_cons (de_ix ix_seq oIx_ok (de_var (pe_var (i := 6) rfl (.inr (.inl rfl)))) de_int (fun _ _ => rfl)) (da_cons (de_ix ix_seq oIx_ok (de_var (pe_var (i := 6) rfl (.inr (.inl rfl)))) de_int (fun _ _ => rfl)) da_nil)))) (da_cons (de_var (pe_var (i := 3) rfl (.inl rfl))) da_nil)))) (Len.for (len_cons (len_cons (len_cons (len_cons len_nil)))))) (da_cons (de_call (ok__law_asked t) t.d__law_asked (hr.mono (by omega)) rfl tk (da_cons (de_var (pe_var (i := 1) rfl (.inl rfl))) (da_cons de_str (da_cons (de_new (dn_lst (da_cons de_int (da_cons (de_ix ix_seq oIx_ok (de_var (pe_var (i := 6) rfl (.inr (.inl rfl)))) de_int (fun _ _ => rfl)) da_nil)))) (da_cons (de_not (de_var (pe_var (i := 3) rfl (.inl rfl)))) da_nil)))) (Len.for (len_cons (len_cons (len_cons (len_cons len_nil)))))) da_nil))))))) (ds_cons (ds_if (dt_not (dt_val (de_call (ok__law_same t 9) t.d__law_same (hr.mono (by omega)) rfl tk (da_cons (de_var (pe_var (i := 7) rfl (.inl rfl))) (da_cons (de_new (dn_lc (own := [("k", 12)]) rfl sc__law_refused_right.nd (di_range1 rfl t.n_range (da_cons de_int da_nil)) (by rfl) ⟨fun _ _ _ _ _ => (pg_name (i := 12) sc__law_refused_right.nd rfl (.inl rfl)), fun _ _ _ _ _ => dts_nil, fun _ _ _ _ _ => (de_new (dn_lst (da_cons de_str (da_cons (de_ix ix_seq oIx_ok (de_var (pe_var (i := 6) rfl (.inr (.inl rfl)))) (de_var (pe_var (i := 12) rfl (.inl rfl))) (fun _ _ => rfl)) da_nil))))⟩ (by decide))) da_nil)) (Len.for (len_cons (len_cons len_nil)))))) (ds_one (ds_ret de_bl)) ds_nil) (ds_cons (ds_par (i := 8) (j := 9) rfl sc__law_refused_right.nd rfl rfl (by decide) rfl rfl (da_cons (de_ix ix_seq oIx_ok (de_call (ok__law_mixed t) t.d__law_mixed (hr.mono (by omega)) rfl tk (da_cons (de_var (pe_var (i := 0) rfl (.inl rfl))) (da_cons (de_new (dn_lst (da_cons de_non (da_cons (de_un un_neg oNeg_ok de_int) (da_cons (de_var (pe_var (i := 4) rfl (.inl rfl))) (da_cons de_bl (da_cons de_str (da_cons (de_new (dn_lst (da_cons de_int da_nil))) da_nil)))))))) da_nil)) (Len.for (len_cons (len_cons len_nil)))) de_int (fun _ _ => rfl)) (da_cons (de_ix ix_seq oIx_ok (de_call (ok__law_mixed t) t.d__law_mixed (hr.mono (by omega)) rfl tk (da_cons (de_var (pe_var (i := 0) rfl (.inl rfl))) (da_cons (de_new (dn_lst (da_cons de_non (da_cons de_bl (da_cons de_str (da_cons (de_new (dn_lst (da_cons de_int da_nil))) (da_cons (de_tup (da_cons de_int da_nil)) (da_cons (de_tup da_nil) da_nil)))))))) da_nil)) (Len.for (len_cons (len_cons len_nil)))) de_int (fun _ _ => rfl)) da_nil)) rfl) (ds_cons (ds_set (i := 7) sc__law_refused_right.nd rfl (.inl rfl) (de_new (dn_lst (da_cons (de_call (ok__law_asked t) t.d__law_asked (hr.mono (by omega)) rfl tk (da_cons (de_var (pe_var (i := 1) rfl (.inl rfl))) (da_cons de_str (da_cons (de_new (dn_lst (da_cons de_int (da_cons (de_var (pe_var (i := 8) rfl (.inl rfl))) (da_cons (de_var (pe_var (i := 9) rfl (.inl rfl))) da_nil))))) (da_cons (de_var (pe_var (i := 3) rfl (.inl rfl))) da_nil)))) (Len.for (len_cons (len_cons (len_cons (len_cons len_nil)))))) (da_cons (de_call (ok__law_asked t) t.d__law_asked (hr.mono (by omega)) rfl tk (da_cons (de_var (pe_var (i := 1) rfl (.inl rfl))) (da_cons de_str (da_cons (de_new (dn_lst (da_cons de_int (da_cons (de_op op_sub oSub_ok (de_var (pe_var (i := 4) rfl (.inl rfl))) de_int) (da_cons (de_var (pe_var (i := 9) rfl (.inl rfl))) da_nil))))) (da_cons (de_not (de_var (pe_var (i := 3) rfl (.inl rfl)))) da_nil)))) (Len.for (len_cons (len_cons (len_cons (len_cons len_nil)))))) da_nil))))) (ds_cons (ds_if (dt_not (dt_val (de_call (ok__law_same t 9) t.d__law_same (hr.mono (by omega)) rfl tk (da_cons (de_var (pe_var (i := 7) rfl (.inl rfl))) (da_cons (de_new (dn_lst (da_cons (de_new (dn_lst (da_cons de_str (da_cons (de_var (pe_var (i := 8) rfl (.inl rfl))) da_nil)))) (da_cons (de_new (dn_lst (da_cons de_str (da_cons (de_var (pe_var (i := 9) rfl (.inl rfl))) da_nil)))) da_nil)))) da_nil)) (Len.for (len_cons (len_cons len_nil)))))) (ds_one (ds_ret de_bl)) ds_nil) (ds_cons (ds_par (i := 10) (j := 11) rfl sc__law_refused_right.nd rfl rfl (by decide) rfl rfl (da_cons (de_ix ix_seq oIx_ok (de_call (ok__law_mixed t) t.d__law_mixed (hr.mono (by omega)) rfl tk (da_cons (de_var (pe_var (i := 0) rfl (.inl rfl))) (da_cons (de_new (dn_lst (da_cons de_non (da_cons (de_un un_neg oNeg_ok de_int) (da_cons (de_op op_addAll oAdd_ok (de_var (pe_var (i := 4) rfl (.inl rfl))) de_int) (da_cons de_bl (da_cons de_str (da_cons (de_new (dn_lst (da_cons de_int da_nil))) da_nil)))))))) da_nil)) (Len.for (len_cons (len_cons len_nil)))) de_int (fun _ _ => rfl)) (da_cons (de_ix ix_seq oIx_ok (de_call (ok__law_mixed t) t.d__law_mixed (hr.mono (by omega)) rfl tk (da_cons (de_var (pe_var (i := 0) rfl (.inl rfl))) (da_cons (de_new (dn_lst (da_cons de_non (da_cons (de_un un_neg oNeg_ok de_int) (da_cons (de_op op_addAll oAdd_ok (de_var (pe_var (i := 4) rfl (.inl rfl))) de_int) (da_cons de_bl (da_cons de_str (da_cons (de_new (dn_lst (da_cons de_int da_nil))) da_nil)))))))) da_nil)) (Len.for (len_cons (len_cons len_nil)))) de_int (fun _ _ => rfl)) da_nil)) rfl) (ds_cons (ds_set (i := 7) sc__law_refused_right.nd rfl (.inl rfl) (de_new (dn_lst (da_cons (de_call (ok__law_asked t) t.d__law_asked (hr.mono (by omega)) rfl tk (da_cons (de_var (pe_var (i := 1) rfl (.inl rfl))) (da_cons de_str (da_cons (de_new (dn_lst (da_cons de_int (da_cons (de_var (pe_var (i := 10) rfl (.inl rfl))) (da_cons (de_var (pe_var (i := 11) rfl (.inl rfl))) da_nil))))) (da_cons (de_var (pe_var (i := 3) rfl (.inl rfl))) da_nil)))) (Len.for (len_cons (len_cons (len_cons (len_cons len_nil)))))) (da_cons (de_call (ok__law_asked t) t.d__law_asked (hr.mono (by omega)) rfl tk (da_cons (de_var (pe_var (i := 1) rfl (.inl rfl))) (da_cons de_str (da_cons (de_new (dn_lst (da_cons de_int (da_cons de_int (da_cons (de_var (pe_var (i := 11) rfl (.inl rfl))) da_nil))))) (da_cons (de_not (de_var (pe_var (i := 3) rfl (.inl rfl)))) da_nil)))) (Len.for (len_cons (len_cons (len_cons (len_cons len_nil)))))) da_nil))))) (ds_one (ds_ret (de_and (de_call (ok__law_same t 9) t.d__law_same (hr.mono (by omega)) rfl tk (da_cons (de_var (pe_var (i := 7) rfl (.inl rfl))) (da_cons (de_new (dn_lst (da_cons (de_new (dn_lst (da_cons de_str (da_cons (de_var (pe_var (i := 10) rfl (.inl rfl))) da_nil)))) (da_cons (de_new (dn_lst (da_cons de_str (da_cons (de_var (pe_var (i := 11) rfl (.inl rfl))) da_nil)))) da_nil)))) da_nil)) (Len.for (len_cons (len_cons len_nil)))) (de_one (de_call (ok__law_same t 9) t.d__law_same (hr.mono (by omega)) rfl tk (da_cons (de_meth0 (ok_Versions_nodes t) t.cl_Versions t.me_Versions_nodes t.b_Versions_nodes (hr.mono (by omega)) tk (de_var (pe_var (i := 1) rfl (.inl rfl)))) (da_cons (de_var (pe_var (i := 5) rfl (.inl rfl))) da_nil)) (Len.for (len_cons (len_cons len_nil)))))))))))))))))))
end
end K80

set_option Elab.async false
set_option linter.all false
set_option maxRecDepth 100000
set_option maxHeartbeats 4000000
namespace K80
open PySem PySem.Spec PyProof.Rows L2 DL
section
variable {P : Program} {w : World} {K : PySem.W.Frag} {mg : Str → Option Value} {base : Heap} {a : Ad}
theorem ok__law_life_right (t : Tx P w K mg base a) : FnOk P w K mg base (L2.CX P w) 13 a.f__law_life_right a.d__law_life_right ["box", "row", "steps", "by_name"] (spF K mg 4 (F__law_life_right a.C_Versions)) :=
  fnE (N := ["box", "row", "steps", "by_name", "kept", "rows", "parents", "most", "nodes", "turn", "version", "index", "number", "now", "told"]) (m := 15) (k := 12) (g := m__law_life_right a.C_Versions) t.fn__law_life_right sc__law_life_right rfl rfl rfl (by
    rintro cdv A outer s H E hr X rfl tk po
    have hu := hr.units
    exact (ds_cons (ds_set (i := 4) sc__law_life_right.nd rfl (.inl rfl) (de_ix ix_seq oIx_ok (de_call (ok__law_made t) t.d__law_made (hr.mono (by omega)) rfl tk (da_cons (de_var (pe_var (i := 1) rfl (.inl rfl))) (da_cons (de_var (pe_var (i := 3) rfl (.inl rfl))) da_nil)) (Len.for (len_cons (len_cons len_nil)))) de_int (fun _ _ => rfl))) (ds_cons (ds_par3 (i := 5) (j := 6) (l := 7) rfl sc__law_life_right.nd rfl rfl rfl (by decide) (by decide) (by decide) rfl rfl rfl (da_cons (de_alloc (dn_lst (da_cons (de_var (pe_var (i := 1) rfl (.inl rfl))) da_nil))) (da_cons (de_alloc (dn_lst (da_cons de_non da_nil))) (da_cons (de_op op_addAll oAdd_ok (de_call (ok__law_digits t) t.d__law_digits (hr.mono (by omega)) rfl tk (da_cons (de_callB call_len2 oLen2_ok rfl t.n_len (by rfl) (da_cons (de_var (pe_var (i := 1) rfl (.inl rfl))) da_nil)) da_nil) (Len.for (len_cons len_nil))) de_int) da_nil))) rfl) (ds_cons (ds_set (i := 8) sc__law_life_right.nd rfl (.inl rfl) (de_meth0 (ok_Versions_nodes t) t.cl_Versions t.me_Versions_nodes t.b_Versions_nodes (hr.mono (by omega)) tk (de_var (pe_var (i := 4) rfl (.inl rfl))))) (ds_cons (ds_if (dt_w (dw_or (dt_not (dt_val (de_call (ok__law_same t 9) t.d__law_same (hr.mono (by omega)) rfl tk (da_cons (de_var (pe_var (i := 8) rfl (.inl rfl))) (da_cons (de_op op_sub oSub_ok (de_op op_mulAll oMul_ok de_int (de_callB call_len2 oLen2_ok rfl t.n_len (by rfl) (da_cons (de_var (pe_var (i := 1) rfl (.inl rfl))) da_nil))) de_int) da_nil)) (Len.for (len_cons (len_cons len_nil)))))) (dw_or1 (dt_not (dt_val (de_call (ok__law_all_right t) t.d__law_all_right (hr.mono (by omega)) rfl tk (da_cons (de_var (pe_var (i := 0) rfl (.inl rfl))) (da_cons (de_var (pe_var (i := 4) rfl (.inl rfl))) (da_cons (de_var (pe_var (i := 5) rfl (.inl rfl))) (da_cons (de_var (pe_var (i := 6) rfl (.inl rfl))) (da_cons (de_var (pe_var (i := 3) rfl (.inl rfl))) da_nil))))) (Len.for (len_cons (len_cons (len_cons (len_cons (len_cons len_nil)))))))))))) (ds_one (ds_ret de_bl)) ds_nil) (ds_cons (ds_for po rfl (di_range1 rfl t.n_range (da_cons (de_var (pe_var (i := 2) rfl (.inl rfl))) da_nil)) (pg_name (i := 9) sc__law_life_right.nd rfl (.inl rfl)) (ds_cons (ds_par3 (i := 10) (j := 11) (l := 12) rfl sc__law_life_right.nd rfl rfl rfl (by decide) (by decide) (by decide) rfl rfl rfl (da_cons (de_call (ok__law_take t) t.d__law_take (hr.mono (by omega)) rfl tk (da_cons (de_var (pe_var (i := 0) rfl (.inl rfl))) (da_cons (de_callB call_len2 oLen2_ok rfl t.n_len (by rfl) (da_cons (de_var (pe_var (i := 5) rfl (.inl rfl))) da_nil)) da_nil)) (Len.for (len_cons (len_cons len_nil)))) (da_cons (de_call (ok__law_take t) t.d__law_take (hr.mono (by omega)) rfl tk (da_cons (de_var (pe_var (i := 0) rfl (.inl rfl))) (da_cons (de_callB call_len2 oLen2_ok rfl t.n_len (by rfl) (da_cons (de_var (pe_var (i := 1) rfl (.inl rfl))) da_nil)) da_nil)) (Len.for (len_cons (len_cons len_nil)))) (da_cons (de_call (ok__law_number t) t.d__law_number (hr.mono (by omega)) rfl tk (da_cons (de_var (pe_var (i := 0) rfl (.inl rfl))) da_nil) (Len.for (len_cons len_nil))) da_nil))) rfl) (ds_cons (ds_set (i := 12) sc__law_life_right.nd rfl (.inl rfl) (de_if (dt_cmp (op_eqM hu) oEq_ok (de_call (ok__law_take t) t.d__law_take (hr.mono (by omega)) rfl tk (da_cons (de_var (pe_var (i := 0) rfl (.inl rfl))) (da_cons de_int da_nil)) (Len.for (len_cons (len_cons len_nil)))) de_int (nomark _)) (de_ix ix_seq oIx_ok (de_ix ix_seq oIx_ok (de_var (pe_var (i := 5) rfl (.inl rfl))) (de_var (pe_var (i := 10) rfl (.inl rfl))) (fun _ _ => rfl)) (de_var (pe_var (i := 11) rfl (.inl rfl))) (fun _ _ => rfl)) (de_var (pe_var (i := 12) rfl (.inl rfl))))) (ds_cons (ds_if (dt_not (dt_val (de_call (ok__law_same t 9) t.d__law_same (hr.mono (by omega)) rfl tk (da_cons (de_call (ok__law_asked t) t.d__law_asked (hr.mono (by omega)) rfl tk (da_cons (de_var (pe_var (i := 4) rfl (.inl rfl))) (da_cons de_str (da_cons (de_new (dn_lst (da_cons (de_var (pe_var (i := 10) rfl (.inl rfl))) (da_cons (de_var (pe_var (i := 11) rfl (.inl rfl))) (da_cons (de_var (pe_var (i := 12) rfl (.inl rfl))) da_nil))))) (da_cons (de_var (pe_var (i := 3) rfl (.inl rfl))) da_nil)))) (Len.for (len_cons (len_cons (len_cons (len_cons len_nil)))))) (da_cons (de_new (dn_lst (da_cons de_str (da_cons (de_callB call_len2 oLen2_ok rfl t.n_len (by rfl) (da_cons (de_var (pe_var (i := 5) rfl (.inl rfl))) da_nil)) da_nil)))) da_nil)) (Len.for (len_cons (len_cons len_nil)))))) (ds_one (ds_ret de_bl)) ds_nil) (ds_cons (ds_expr (de_mt PySem.F.slot_list_append PySem.F.type_list_append mt_append mAppend_ok (de_var (pe_var (i := 5) rfl (.inl rfl))) (da_cons (de_op op_addAll oAdd_ok (de_op op_addAll oAdd_ok (de_slice sl_all oSl_ok (de_ix ix_seq oIx_ok (de_var (pe_var (i := 5) rfl (.inl rfl))) (de_var (pe_var (i := 10) rfl (.inl rfl))) (fun _ _ => rfl)) do_none (do_some (de_var (pe_var (i := 11) rfl (.inl rfl))))) (de_tup (da_cons (de_var (pe_var (i := 12) rfl (.inl rfl))) da_nil))) (de_slice sl_all oSl_ok (de_ix ix_seq oIx_ok (de_var (pe_var (i := 5) rfl (.inl rfl))) (de_var (pe_var (i := 10) rfl (.inl rfl))) (fun _ _ => rfl)) (do_some (de_op op_addAll oAdd_ok (de_var (pe_var (i := 11) rfl (.inl rfl))) de_int)) do_none)) da_nil))) (ds_cons (ds_expr (de_mt PySem.F.slot_list_append PySem.F.type_list_append mt_append mAppend_ok (de_var (pe_var (i := 6) rfl (.inl rfl))) (da_cons (de_var (pe_var (i := 10) rfl (.inl rfl))) da_nil))) (ds_cons (ds_set (i := 13) sc__law_life_right.nd rfl (.inl rfl) (de_meth0 (ok_Versions_nodes t) t.cl_Versions t.me_Versions_nodes t.b_Versions_nodes (hr.mono (by omega)) tk (de_var (pe_var (i := 4) rfl (.inl rfl))))) (ds_cons (ds_if (dt_w (dw_or (dt_not (dt_val (de_callB call_isi oIsi_ok rfl t.n_isinstance (by rfl) (da_cons (de_var (pe_var (i := 13) rfl (.inl rfl))) (da_cons (de_tyName rfl t.n_int (by rfl)) da_nil))))) (dw_or (dt_val (de_callB call_isi oIsi_ok rfl t.n_isinstance (by rfl) (da_cons (de_var (pe_var (i := 13) rfl (.inl rfl))) (da_cons (de_tyName rfl t.n_bool (by rfl)) da_nil)))) (dw_or1 (dt_not (dt_chain op_lt op_le oI_chain oLe_ok (de_var (pe_var (i := 8) rfl (.inl rfl))) (de_var (pe_var (i := 13) rfl (.inl rfl))) (de_op op_addAll oAdd_ok (de_var (pe_var (i := 8) rfl (.inl rfl))) (de_var (pe_var (i := 7) rfl (.inl rfl)))))))))) (ds_one (ds_ret de_bl)) ds_nil) (ds_cons (ds_par (i := 8) (j := 3) rfl sc__law_life_right.nd rfl rfl (by decide) rfl rfl (da_cons (de_var (pe_var (i := 13) rfl (.inl rfl))) (da_cons (de_not (de_var (pe_var (i := 3) rfl (.inl rfl)))) da_nil)) rfl) (ds_one (ds_if (dt_w (dw_and (dt_w (dw_or (dt_cmp op_lt oLt_ok (de_var (pe_var (i := 2) rfl (.inl rfl))) de_int (nomark _)) (dw_or1 (dt_cmp (op_eqM hu) oEq_ok (de_op op_mod oMod_ok (de_callTy call_int1 oInt_ok rfl t.n_int (by rfl) (da_cons (de_var (pe_var (i := 9) rfl (.inl rfl))) da_nil)) de_int) de_int (nomark _))))) (dw_and1 (dt_not (dt_val (de_call (ok__law_all_right t) t.d__law_all_right (hr.mono (by omega)) rfl tk (da_cons (de_var (pe_var (i := 0) rfl (.inl rfl))) (da_cons (de_var (pe_var (i := 4) rfl (.inl rfl))) (da_cons (de_var (pe_var (i := 5) rfl (.inl rfl))) (da_cons (de_var (pe_var (i := 6) rfl (.inl rfl))) (da_cons (de_var (pe_var (i := 3) rfl (.inl rfl))) da_nil))))) (Len.for (len_cons (len_cons (len_cons (len_cons (len_cons len_nil)))))))))))) (ds_one (ds_ret de_bl)) ds_nil))))))))))) (ds_cons (ds_if (dt_w (dw_or (dt_not (dt_val (de_call (ok__law_all_right t) t.d__law_all_right (hr.mono (by omega)) rfl tk (da_cons (de_var (pe_var (i := 0) rfl (.inl rfl))) (da_cons (de_var (pe_var (i := 4) rfl (.inl rfl))) (da_cons (de_var (pe_var (i := 5) rfl (.inl rfl))) (da_cons (de_var (pe_var (i := 6) rfl (.inl rfl))) (da_cons (de_var (pe_var (i := 3) rfl (.inl rfl))) da_nil))))) (Len.for (len_cons (len_cons (len_cons (len_cons (len_cons len_nil))))))))) (dw_or1 (dt_not (dt_val (de_call (ok__law_refused_right t) t.d__law_refused_right (hr.mono (by omega)) rfl tk (da_cons (de_var (pe_var (i := 0) rfl (.inl rfl))) (da_cons (de_var (pe_var (i := 4) rfl (.inl rfl))) (da_cons (de_var (pe_var (i := 5) rfl (.inl rfl))) (da_cons (de_var (pe_var (i := 3) rfl (.inl rfl))) da_nil)))) (Len.for (len_cons (len_cons (len_cons (len_cons len_nil))))))))))) (ds_one (ds_ret de_bl)) ds_nil) (ds_cons (ds_if (dt_cmp op_lt oLt_ok (de_var (pe_var (i := 2) rfl (.inl rfl))) de_int (nomark _)) (ds_one (ds_ret de_bl)) ds_nil) (ds_cons (ds_set (i := 14) sc__law_life_right.nd rfl (.inl rfl) (de_new (dn_lst (da_cons (de_call (ok__law_asked t) t.d__law_asked (hr.mono (by omega)) rfl tk (da_cons (de_var (pe_var (i := 4) rfl (.inl rfl))) (da_cons de_str (da_cons (de_new (dn_lst (da_cons de_int (da_cons de_int (da_cons de_int da_nil))))) (da_cons (de_var (pe_var (i := 3) rfl (.inl rfl))) da_nil)))) (Len.for (len_cons (len_cons (len_cons (len_cons len_nil)))))) (da_cons (de_call (ok__law_asked t) t.d__law_asked (hr.mono (by omega)) rfl tk (da_cons (de_var (pe_var (i := 4) rfl (.inl rfl))) (da_cons de_str (da_cons (de_new (dn_lst (da_cons de_int (da_cons de_int (da_cons de_int da_nil))))) (da_cons (de_not (de_var (pe_var (i := 3) rfl (.inl rfl)))) da_nil)))) (Len.for (len_cons (len_cons (len_cons (len_cons len_nil)))))) (da_cons (de_call (ok__law_asked t) t.d__law_asked (hr.mono (by omega)) rfl tk (da_cons (de_var (pe_var (i := 4) rfl (.inl rfl))) (da_cons de_str (da_cons (de_new (dn_lst (da_cons de_int (da_cons de_int (da_cons de_non da_nil))))) (da_cons (de_var (pe_var (i := 3) rfl (.inl rfl))) da_nil)))) (Len.for (len_cons (len_cons (len_cons (len_cons len_nil)))))) da_nil)))))) (ds_one (ds_ret (de_and (de_call (ok__law_same t 9) t.d__law_same (hr.mono (by omega)) rfl tk (da_cons (de_var (pe_var (i := 14) rfl (.inl rfl))) (da_cons (de_new (dn_lst (da_cons (de_new (dn_lst (da_cons de_str (da_cons de_int da_nil)))) (da_cons (de_new (dn_lst (da_cons de_str (da_cons de_int da_nil)))) (da_cons (de_new (dn_lst (da_cons de_str (da_cons de_non da_nil)))) da_nil))))) da_nil)) (Len.for (len_cons (len_cons len_nil)))) (de_one (de_call (ok__law_all_right t) t.d__law_all_right (hr.mono (by omega)) rfl tk (da_cons (de_var (pe_var (i := 0) rfl (.inl rfl))) (da_cons (de_var (pe_var (i := 4) rfl (.inl rfl))) (da_cons (de_var (pe_var (i := 5) rfl (.inl rfl))) (da_cons (de_var (pe_var (i := 6) rfl (.inl rfl))) (da_cons (de_var (pe_var (i := 3) rfl (.inl rfl))) da_nil))))) (Len.for (len_cons (len_cons (len_cons (len_cons (len_cons len_nil))))))))))))))))))))
end
end K80

set_option Elab.async false
set_option linter.all false
set_option maxRecDepth 100000
set_option maxHeartbeats 4000000
namespace K80
open PySem PySem.Spec PyProof.Rows L2 DL
section
variable {P : Program} {w : World} {K : PySem.W.Frag} {mg : Str → Option Value} {base : Heap} {a : Ad}
theorem ok_law (t : Tx P w K mg base a) : FnOk P w K mg base (L2.CX P w) 14 a.f_law a.d_law ["script"] (spF K mg 1 (F_law a.C_Versions)) :=
  fnE (N := ["script", "k", "box", "by_name", "great", "size", "row", "bad", "turn"]) (m := 9) (k := 13) (g := m_law a.C_Versions) t.fn_law sc_law rfl rfl rfl (by
    rintro cdv A outer s H E hr X rfl tk po
    have hu := hr.units
    exact (ds_cons (ds_for po rfl (di_range1 rfl t.n_range (da_cons (de_callB (call_max2 rfl) oMax2_ok rfl t.n_max (by rfl) (da_cons de_int (da_cons (de_callB (call_min2 rfl) oMin2_ok rfl t.n_min (by rfl) (da_cons de_int (da_cons (de_callB call_len2 oLen2_ok rfl t.n_len (by rfl) (da_cons (de_var (pe_var (i := 0) rfl (.inl rfl))) da_nil)) da_nil))) da_nil))) da_nil)) (pg_name (i := 1) sc_law.nd rfl (.inl rfl)) (ds_cons (ds_set (i := 2) sc_law.nd rfl (.inr rfl) (de_call (ok__law_box t) t.d__law_box (hr.mono (by omega)) rfl tk (da_cons (de_call (ok__law_cell t) t.d__law_cell (hr.mono (by omega)) rfl tk (da_cons (de_var (pe_var (i := 0) rfl (.inl rfl))) (da_cons (de_var (pe_var (i := 1) rfl (.inl rfl))) da_nil)) (Len.for (len_cons (len_cons len_nil)))) da_nil) (Len.for (len_cons len_nil)))) (ds_cons (ds_par (i := 3) (j := 4) rfl sc_law.nd rfl rfl (by decide) rfl rfl (da_cons (de_cmp (op_eqM hu) oEq_ok (de_call (ok__law_take t) t.d__law_take (hr.mono (by omega)) rfl tk (da_cons (de_var (pe_var (i := 2) rfl (.inr (.inl rfl)))) (da_cons de_int da_nil)) (Len.for (len_cons (len_cons len_nil)))) de_int (nomark _)) (da_cons (de_cmp (op_eqM hu) oEq_ok (de_call (ok__law_take t) t.d__law_take (hr.mono (by omega)) rfl tk (da_cons (de_var (pe_var (i := 2) rfl (.inr (.inl rfl)))) (da_cons de_int da_nil)) (Len.for (len_cons (len_cons len_nil)))) de_int (nomark _)) da_nil)) rfl) (ds_cons (ds_set (i := 5) sc_law.nd rfl (.inl rfl) (de_if (dt_val (de_var (pe_var (i := 4) rfl (.inl rfl)))) (de_op op_addAll oAdd_ok de_int (de_call (ok__law_take t) t.d__law_take (hr.mono (by omega)) rfl tk (da_cons (de_var (pe_var (i := 2) rfl (.inr (.inl rfl)))) (da_cons de_int da_nil)) (Len.for (len_cons (len_cons len_nil))))) (de_op op_addAll oAdd_ok de_int (de_call (ok__law_take t) t.d__law_take (hr.mono (by omega)) rfl tk (da_cons (de_var (pe_var (i := 2) rfl (.inr (.inl rfl)))) (da_cons de_int da_nil)) (Len.for (len_cons (len_cons len_nil))))))) (ds_cons (ds_set (i := 6) sc_law.nd rfl (.inl rfl) (de_callTy call_tuple_of oTuple_ok rfl t.n_tuple (by rfl) (da_cons (de_new (dn_lc (own := [("turn", 8)]) rfl sc_law.nd (di_range1 rfl t.n_range (da_cons (de_var (pe_var (i := 5) rfl (.inl rfl))) da_nil)) (by rfl) ⟨fun _ _ _ _ _ => (pg_name (i := 8) sc_law.nd rfl (.inl rfl)), fun _ _ _ _ _ => dts_nil, fun _ _ _ _ _ => (de_call (ok__law_number t) t.d__law_number (hr.mono (by omega)) rfl takes0 (da_cons (de_var (pe_var (i := 2) rfl (.inr (.inl rfl)))) da_nil) (Len.for (len_cons len_nil)))⟩ (by decide))) da_nil))) (ds_cons (ds_if (dt_not (dt_val (de_call (ok__law_life_right t) t.d__law_life_right (hr.mono (by omega)) rfl tk (da_cons (de_var (pe_var (i := 2) rfl (.inr (.inl rfl)))) (da_cons (de_var (pe_var (i := 6) rfl (.inl rfl))) (da_cons (de_if (dt_w (dw_and (dt_val (de_var (pe_var (i := 4) rfl (.inl rfl)))) (dw_and1 (dt_cmp op_lt oLt_ok (de_var (pe_var (i := 1) rfl (.inl rfl))) de_int (nomark _))))) de_int (de_op op_addAll oAdd_ok de_int (de_call (ok__law_take t) t.d__law_take (hr.mono (by omega)) rfl tk (da_cons (de_var (pe_var (i := 2) rfl (.inr (.inl rfl)))) (da_cons de_int da_nil)) (Len.for (len_cons (len_cons len_nil)))))) (da_cons (de_var (pe_var (i := 3) rfl (.inl rfl))) da_nil)))) (Len.for (len_cons (len_cons (len_cons (len_cons len_nil)))))))) (ds_one (ds_ret de_bl)) ds_nil) (ds_cons (ds_set (i := 7) sc_law.nd rfl (.inl rfl) (de_ix ix_seq oIx_ok (de_call (ok__law_mixed t) t.d__law_mixed (hr.mono (by omega)) rfl tk (da_cons (de_var (pe_var (i := 2) rfl (.inr (.inl rfl)))) (da_cons (de_new (dn_lst (da_cons de_non (da_cons de_int (da_cons (de_new (dn_callTy call_list_of oList_ok rfl t.n_list (by rfl) (da_cons (de_var (pe_var (i := 6) rfl (.inl rfl))) da_nil))) (da_cons (de_tup da_nil) (da_cons (de_op op_mulAll oMul_ok (de_tup (da_cons de_int da_nil)) de_int) (da_cons (de_op op_addAll oAdd_ok (de_slice sl_all oSl_ok (de_var (pe_var (i := 6) rfl (.inl rfl))) do_none (do_some (de_un un_neg oNeg_ok de_int))) (de_tup (da_cons de_non da_nil))) (da_cons (de_op op_addAll oAdd_ok (de_slice sl_all oSl_ok (de_var (pe_var (i := 6) rfl (.inl rfl))) do_none (do_some (de_un un_neg oNeg_ok de_int))) (de_tup (da_cons de_bl da_nil))) (da_cons de_str (da_cons de_dic0 (da_cons (de_op op_addAll oAdd_ok (de_slice sl_all oSl_ok (de_var (pe_var (i := 6) rfl (.inl rfl))) do_none (do_some (de_un un_neg oNeg_ok de_int))) (de_tup (da_cons (de_new (dn_lst (da_cons de_int da_nil))) da_nil))) da_nil)))))))))))) da_nil)) (Len.for (len_cons (len_cons len_nil)))) de_int (fun _ _ => rfl))) (ds_one (ds_if (dt_not (dt_val (de_call (ok__law_same t 9) t.d__law_same (hr.mono (by omega)) rfl tk (da_cons (de_call (ok__law_made t) t.d__law_made (hr.mono (by omega)) rfl tk (da_cons (de_var (pe_var (i := 7) rfl (.inl rfl))) (da_cons (de_var (pe_var (i := 3) rfl (.inl rfl))) da_nil)) (Len.for (len_cons (len_cons len_nil)))) (da_cons (de_new (dn_lst (da_cons de_str (da_cons (de_var (pe_var (i := 7) rfl (.inl rfl))) da_nil)))) da_nil)) (Len.for (len_cons (len_cons len_nil)))))) (ds_one (ds_ret de_bl)) ds_nil))))))))) (ds_one (ds_ret de_bl))))
end
end K80

set_option Elab.async false
set_option linter.all false
set_option maxRecDepth 100000
set_option maxHeartbeats 4000000
namespace K80
open PySem PySem.Spec PyProof.Rows L2 DL
abbrev si_InvalidIndex : Stmt := inClass (top 2) 0
theorem sci_InvalidIndex : FnScope ["self", "given"] ["self", "given"] (defScope si_InvalidIndex) := ⟨rfl, rfl, rfl, by decide +kernel, rfl, by decide +kernel, by decide +kernel⟩
abbrev si_InvalidNumber : Stmt := inClass (top 3) 0
theorem sci_InvalidNumber : FnScope ["self", "given"] ["self", "given"] (defScope si_InvalidNumber) := ⟨rfl, rfl, rfl, by decide +kernel, rfl, by decide +kernel, by decide +kernel⟩
abbrev si_InvalidRange : Stmt := inClass (top 4) 0
theorem sci_InvalidRange : FnScope ["self", "given"] ["self", "given"] (defScope si_InvalidRange) := ⟨rfl, rfl, rfl, by decide +kernel, rfl, by decide +kernel, by decide +kernel⟩
abbrev si_InvalidRow : Stmt := inClass (top 5) 0
theorem sci_InvalidRow : FnScope ["self", "given"] ["self", "given"] (defScope si_InvalidRow) := ⟨rfl, rfl, rfl, by decide +kernel, rfl, by decide +kernel, by decide +kernel⟩
abbrev si_InvalidVersion : Stmt := inClass (top 12) 0
theorem sci_InvalidVersion : FnScope ["self", "given"] ["self", "given"] (defScope si_InvalidVersion) := ⟨rfl, rfl, rfl, by decide +kernel, rfl, by decide +kernel, by decide +kernel⟩
abbrev si_TooMany : Stmt := inClass (top 7) 0
theorem sci_TooMany : FnScope ["self", "count"] ["self", "count"] (defScope si_TooMany) := ⟨rfl, rfl, rfl, by decide +kernel, rfl, by decide +kernel, by decide +kernel⟩
theorem kn_cases__law_asked (y : Str) (h : y ∈ kn__law_asked) : y = "InvalidIndex" ∨ y = "InvalidNumber" ∨ y = "InvalidRange" ∨ y = "InvalidVersion" ∨ y = "TooMany" := by
  unfold kn__law_asked at h
  simp only [List.mem_cons, List.not_mem_nil, or_false] at h
  exact h
theorem kn_cases__law_made (y : Str) (h : y ∈ kn__law_made) : y = "InvalidRow" := by
  unfold kn__law_made at h
  simp only [List.mem_cons, List.not_mem_nil, or_false] at h
  exact h
theorem all_mk {l : PySem.W.OpenLaw} {w : World} {K : PySem.W.Frag} {h : Heap} {mg : Str → Option Value} {fa C_Versions f__law_box f__law_cell f_Versions_nodes f_is_integer f_is_between f_Versions_check_version f_Versions_keep f_Versions_way_to f_Versions_change f_Versions_parent f_Versions_items f_Versions_row f_check_range f_Versions_total f_Versions_unlike f__law_asked f__law_same f__law_take f__law_all_right f__law_digits f_Versions_grow f_check_row f_Versions_init f__law_made f__law_number f__law_mixed f__law_refused_right f__law_life_right f_law E_InvalidIndex E_InvalidNumber E_InvalidRange E_InvalidRow E_InvalidVersion E_TooMany I_InvalidIndex I_InvalidNumber I_InvalidRange I_InvalidRow I_InvalidVersion I_TooMany E_TreeError : Addr} {od__law_box an__law_box : Option Addr} {sl__law_box : Array (Option Value)} {oc__law_box kV__law_box dc__law_box pm__law_box cd__law_box ct__law_box : Value} {od__law_cell an__law_cell : Option Addr} {sl__law_cell : Array (Option Value)} {oc__law_cell kV__law_cell dc__law_cell pm__law_cell cd__law_cell ct__law_cell : Value} {od_Versions_nodes an_Versions_nodes : Option Addr} {sl_Versions_nodes : Array (Option Value)} {oc_Versions_nodes kV_Versions_nodes dc_Versions_nodes pm_Versions_nodes cd_Versions_nodes ct_Versions_nodes : Value} {od_is_integer an_is_integer : Option Addr} {sl_is_integer : Array (Option Value)} {oc_is_integer kV_is_integer dc_is_integer pm_is_integer cd_is_integer ct_is_integer : Value} {od_is_between an_is_between : Option Addr} {sl_is_between : Array (Option Value)} {oc_is_between kV_is_between dc_is_between pm_is_between cd_is_between ct_is_between : Value} {od_Versions_check_version an_Versions_check_version : Option Addr} {sl_Versions_check_version : Array (Option Value)} {oc_Versions_check_version kV_Versions_check_version dc_Versions_check_version pm_Versions_check_version cd_Versions_check_version ct_Versions_check_version : Value} {od_Versions_keep an_Versions_keep : Option Addr} {sl_Versions_keep : Array (Option Value)} {oc_Versions_keep kV_Versions_keep dc_Versions_keep pm_Versions_keep cd_Versions_keep ct_Versions_keep : Value} {od_Versions_way_to an_Versions_way_to : Option Addr} {sl_Versions_way_to : Array (Option Value)} {oc_Versions_way_to kV_Versions_way_to dc_Versions_way_to pm_Versions_way_to cd_Versions_way_to ct_Versions_way_to : Value} {od_Versions_change an_Versions_change : Option Addr} {sl_Versions_change : Array (Option Value)} {oc_Versions_change kV_Versions_change dc_Versions_change pm_Versions_change cd_Versions_change ct_Versions_change : Value} {od_Versions_parent an_Versions_parent : Option Addr} {sl_Versions_parent : Array (Option Value)} {oc_Versions_parent kV_Versions_parent dc_Versions_parent pm_Versions_parent cd_Versions_parent ct_Versions_parent : Value} {od_Versions_items an_Versions_items : Option Addr} {sl_Versions_items : Array (Option Value)} {oc_Versions_items kV_Versions_items dc_Versions_items pm_Versions_items cd_Versions_items ct_Versions_items : Value} {od_Versions_row an_Versions_row : Option Addr} {sl_Versions_row : Array (Option Value)} {oc_Versions_row kV_Versions_row dc_Versions_row pm_Versions_row cd_Versions_row ct_Versions_row : Value} {od_check_range an_check_range : Option Addr} {sl_check_range : Array (Option Value)} {oc_check_range kV_check_range dc_check_range pm_check_range cd_check_range ct_check_range : Value} {od_Versions_total an_Versions_total : Option Addr} {sl_Versions_total : Array (Option Value)} {oc_Versions_total kV_Versions_total dc_Versions_total pm_Versions_total cd_Versions_total ct_Versions_total : Value} {od_Versions_unlike an_Versions_unlike : Option Addr} {sl_Versions_unlike : Array (Option Value)} {oc_Versions_unlike kV_Versions_unlike dc_Versions_unlike pm_Versions_unlike cd_Versions_unlike ct_Versions_unlike : Value} {od__law_asked an__law_asked : Option Addr} {sl__law_asked : Array (Option Value)} {oc__law_asked kV__law_asked dc__law_asked pm__law_asked cd__law_asked ct__law_asked : Value} {od__law_same an__law_same : Option Addr} {sl__law_same : Array (Option Value)} {oc__law_same kV__law_same dc__law_same pm__law_same cd__law_same ct__law_same : Value} {od__law_take an__law_take : Option Addr} {sl__law_take : Array (Option Value)} {oc__law_take kV__law_take dc__law_take pm__law_take cd__law_take ct__law_take : Value} {od__law_all_right an__law_all_right : Option Addr} {sl__law_all_right : Array (Option Value)} {oc__law_all_right kV__law_all_right dc__law_all_right pm__law_all_right cd__law_all_right ct__law_all_right : Value} {od__law_digits an__law_digits : Option Addr} {sl__law_digits : Array (Option Value)} {oc__law_digits kV__law_digits dc__law_digits pm__law_digits cd__law_digits ct__law_digits : Value} {od_Versions_grow an_Versions_grow : Option Addr} {sl_Versions_grow : Array (Option Value)} {oc_Versions_grow kV_Versions_grow dc_Versions_grow pm_Versions_grow cd_Versions_grow ct_Versions_grow : Value} {od_check_row an_check_row : Option Addr} {sl_check_row : Array (Option Value)} {oc_check_row kV_check_row dc_check_row pm_check_row cd_check_row ct_check_row : Value} {od_Versions_init an_Versions_init : Option Addr} {sl_Versions_init : Array (Option Value)} {oc_Versions_init kV_Versions_init dc_Versions_init pm_Versions_init cd_Versions_init ct_Versions_init : Value} {od__law_made an__law_made : Option Addr} {sl__law_made : Array (Option Value)} {oc__law_made kV__law_made dc__law_made pm__law_made cd__law_made ct__law_made : Value} {od__law_number an__law_number : Option Addr} {sl__law_number : Array (Option Value)} {oc__law_number kV__law_number dc__law_number pm__law_number cd__law_number ct__law_number : Value} {od__law_mixed an__law_mixed : Option Addr} {sl__law_mixed : Array (Option Value)} {oc__law_mixed kV__law_mixed dc__law_mixed pm__law_mixed cd__law_mixed ct__law_mixed : Value} {od__law_refused_right an__law_refused_right : Option Addr} {sl__law_refused_right : Array (Option Value)} {oc__law_refused_right kV__law_refused_right dc__law_refused_right pm__law_refused_right cd__law_refused_right ct__law_refused_right : Value} {od__law_life_right an__law_life_right : Option Addr} {sl__law_life_right : Array (Option Value)} {oc__law_life_right kV__law_life_right dc__law_life_right pm__law_life_right cd__law_life_right ct__law_life_right : Value} {od_law an_law : Option Addr} {sl_law : Array (Option Value)} {oc_law kV_law dc_law pm_law cd_law ct_law : Value} {u_MOST_ROW : Value} {u_MOST_VERSIONS : Value} {nm_InvalidIndex q_InvalidIndex : Str} {N_InvalidIndex : Addr} {bs_InvalidIndex : List Value} {sn_InvalidIndex : List Str} {sub_InvalidIndex : List Value} {ab_InvalidIndex : Bool} {col_InvalidIndex : Option Bool} {dd_InvalidIndex : Option Addr} {k0_InvalidIndex k1_InvalidIndex k2_InvalidIndex k3_InvalidIndex k5_InvalidIndex : Option Value} {odi_InvalidIndex ani_InvalidIndex : Option Addr} {sli_InvalidIndex : Array (Option Value)} {oci_InvalidIndex kVi_InvalidIndex dci_InvalidIndex pmi_InvalidIndex cdi_InvalidIndex cti_InvalidIndex : Value} {nm_InvalidNumber q_InvalidNumber : Str} {N_InvalidNumber : Addr} {bs_InvalidNumber : List Value} {sn_InvalidNumber : List Str} {sub_InvalidNumber : List Value} {ab_InvalidNumber : Bool} {col_InvalidNumber : Option Bool} {dd_InvalidNumber : Option Addr} {k0_InvalidNumber k1_InvalidNumber k2_InvalidNumber k3_InvalidNumber k5_InvalidNumber : Option Value} {odi_InvalidNumber ani_InvalidNumber : Option Addr} {sli_InvalidNumber : Array (Option Value)} {oci_InvalidNumber kVi_InvalidNumber dci_InvalidNumber pmi_InvalidNumber cdi_InvalidNumber cti_InvalidNumber : Value} {nm_InvalidRange q_InvalidRange : Str} {N_InvalidRange : Addr} {bs_InvalidRange : List Value} {sn_InvalidRange : List Str} {sub_InvalidRange : List Value} {ab_InvalidRange : Bool} {col_InvalidRange : Option Bool} {dd_InvalidRange : Option Addr} {k0_InvalidRange k1_InvalidRange k2_InvalidRange k3_InvalidRange k5_InvalidRange : Option Value} {odi_InvalidRange ani_InvalidRange : Option Addr} {sli_InvalidRange : Array (Option Value)} {oci_InvalidRange kVi_InvalidRange dci_InvalidRange pmi_InvalidRange cdi_InvalidRange cti_InvalidRange : Value} {nm_InvalidRow q_InvalidRow : Str} {N_InvalidRow : Addr} {bs_InvalidRow : List Value} {sn_InvalidRow : List Str} {sub_InvalidRow : List Value} {ab_InvalidRow : Bool} {col_InvalidRow : Option Bool} {dd_InvalidRow : Option Addr} {k0_InvalidRow k1_InvalidRow k2_InvalidRow k3_InvalidRow k5_InvalidRow : Option Value} {odi_InvalidRow ani_InvalidRow : Option Addr} {sli_InvalidRow : Array (Option Value)} {oci_InvalidRow kVi_InvalidRow dci_InvalidRow pmi_InvalidRow cdi_InvalidRow cti_InvalidRow : Value} {nm_InvalidVersion q_InvalidVersion : Str} {N_InvalidVersion : Addr} {bs_InvalidVersion : List Value} {sn_InvalidVersion : List Str} {sub_InvalidVersion : List Value} {ab_InvalidVersion : Bool} {col_InvalidVersion : Option Bool} {dd_InvalidVersion : Option Addr} {k0_InvalidVersion k1_InvalidVersion k2_InvalidVersion k3_InvalidVersion k5_InvalidVersion : Option Value} {odi_InvalidVersion ani_InvalidVersion : Option Addr} {sli_InvalidVersion : Array (Option Value)} {oci_InvalidVersion kVi_InvalidVersion dci_InvalidVersion pmi_InvalidVersion cdi_InvalidVersion cti_InvalidVersion : Value} {nm_TooMany q_TooMany : Str} {N_TooMany : Addr} {bs_TooMany : List Value} {sn_TooMany : List Str} {sub_TooMany : List Value} {ab_TooMany : Bool} {col_TooMany : Option Bool} {dd_TooMany : Option Addr} {k0_TooMany k1_TooMany k2_TooMany k3_TooMany k5_TooMany : Option Value} {odi_TooMany ani_TooMany : Option Addr} {sli_TooMany : Array (Option Value)} {oci_TooMany kVi_TooMany dci_TooMany pmi_TooMany cdi_TooMany cti_TooMany : Value} (hlaw : ∀ C_Versions, LawIs (F_law C_Versions)) (X : K.In h) (G : h.Ns mainGlobals mg) (hfa : mg "law" = some (.ref fa))
    (aC_Versions : PySem.W.nsIn K mainGlobals "Versions" = some (some (.ref C_Versions)))
    (pg_Versions : PySem.W.plainGet K C_Versions Str.empty = true)
    (hd_Versions : PySem.W.hasDictIn K C_Versions = true)
    (po_Versions : PySem.W.plainOver K C_Versions = true)
    (sa_Versions : PySem.W.findIn K (.ref C_Versions) "__setattr__" = some (some (.builtin "object.__setattr__")))
    (mkc_Versions : PySem.W.makesIn K C_Versions = true)
    (kc_Versions : PySem.W.keepIn K (.ref C_Versions) = true)
    (na_kept : PySem.W.findIn K (.ref C_Versions) "kept" = some none)
    (na_parents : PySem.W.findIn K (.ref C_Versions) "parents" = some none)
    (na_size : PySem.W.findIn K (.ref C_Versions) "size" = some none)
    (na_tops : PySem.W.findIn K (.ref C_Versions) "tops" = some none)
    (a__law_box : PySem.W.nsIn K mainGlobals "_law_box" = some (some (.ref f__law_box)))
    (l__law_box : K.lookup f__law_box = some ⟨oc__law_box, od__law_box, .func (PySem.W.fnOf "_law_box" "_law_box" (defArgs s__law_box) (defBody s__law_box) (defScope s__law_box) .none kV__law_box dc__law_box pm__law_box an__law_box cd__law_box ct__law_box), sl__law_box⟩)
    (c__law_box : PySem.W.codeIn K cd__law_box "_law_box" = true)
    (k__law_box : PySem.W.keepIn K (.ref f__law_box) = true)
    (a__law_cell : PySem.W.nsIn K mainGlobals "_law_cell" = some (some (.ref f__law_cell)))
    (l__law_cell : K.lookup f__law_cell = some ⟨oc__law_cell, od__law_cell, .func (PySem.W.fnOf "_law_cell" "_law_cell" (defArgs s__law_cell) (defBody s__law_cell) (defScope s__law_cell) .none kV__law_cell dc__law_cell pm__law_cell an__law_cell cd__law_cell ct__law_cell), sl__law_cell⟩)
    (c__law_cell : PySem.W.codeIn K cd__law_cell "_law_cell" = true)
    (k__law_cell : PySem.W.keepIn K (.ref f__law_cell) = true)
    (a_Versions_nodes : PySem.W.findIn K (.ref C_Versions) "nodes" = some (some (.ref f_Versions_nodes)))
    (i_Versions_nodes : PySem.W.isFn K (.ref f_Versions_nodes) = true)
    (l_Versions_nodes : K.lookup f_Versions_nodes = some ⟨oc_Versions_nodes, od_Versions_nodes, .func (PySem.W.fnOf "nodes" "Versions.nodes" (defArgs s_Versions_nodes) (defBody s_Versions_nodes) (defScope s_Versions_nodes) .none kV_Versions_nodes dc_Versions_nodes pm_Versions_nodes an_Versions_nodes cd_Versions_nodes ct_Versions_nodes), sl_Versions_nodes⟩)
    (c_Versions_nodes : PySem.W.codeIn K cd_Versions_nodes "Versions.nodes" = true)
    (k_Versions_nodes : PySem.W.keepIn K (.ref f_Versions_nodes) = true)
    (a_is_integer : PySem.W.nsIn K mainGlobals "is_integer" = some (some (.ref f_is_integer)))
    (l_is_integer : K.lookup f_is_integer = some ⟨oc_is_integer, od_is_integer, .func (PySem.W.fnOf "is_integer" "is_integer" (defArgs s_is_integer) (defBody s_is_integer) (defScope s_is_integer) .none kV_is_integer dc_is_integer pm_is_integer an_is_integer cd_is_integer ct_is_integer), sl_is_integer⟩)
    (c_is_integer : PySem.W.codeIn K cd_is_integer "is_integer" = true)
    (k_is_integer : PySem.W.keepIn K (.ref f_is_integer) = true)
    (a_is_between : PySem.W.nsIn K mainGlobals "is_between" = some (some (.ref f_is_between)))
    (l_is_between : K.lookup f_is_between = some ⟨oc_is_between, od_is_between, .func (PySem.W.fnOf "is_between" "is_between" (defArgs s_is_between) (defBody s_is_between) (defScope s_is_between) .none kV_is_between dc_is_between pm_is_between an_is_between cd_is_between ct_is_between), sl_is_between⟩)
    (c_is_between : PySem.W.codeIn K cd_is_between "is_between" = true)
    (k_is_between : PySem.W.keepIn K (.ref f_is_between) = true)
    (a_Versions_check_version : PySem.W.findIn K (.ref C_Versions) "check_version" = some (some (.ref f_Versions_check_version)))
    (i_Versions_check_version : PySem.W.isFn K (.ref f_Versions_check_version) = true)
    (l_Versions_check_version : K.lookup f_Versions_check_version = some ⟨oc_Versions_check_version, od_Versions_check_version, .func (PySem.W.fnOf "check_version" "Versions.check_version" (defArgs s_Versions_check_version) (defBody s_Versions_check_version) (defScope s_Versions_check_version) .none kV_Versions_check_version dc_Versions_check_version pm_Versions_check_version an_Versions_check_version cd_Versions_check_version ct_Versions_check_version), sl_Versions_check_version⟩)
    (c_Versions_check_version : PySem.W.codeIn K cd_Versions_check_version "Versions.check_version" = true)
    (k_Versions_check_version : PySem.W.keepIn K (.ref f_Versions_check_version) = true)
    (a_Versions_keep : PySem.W.findIn K (.ref C_Versions) "keep" = some (some (.ref f_Versions_keep)))
    (i_Versions_keep : PySem.W.isFn K (.ref f_Versions_keep) = true)
    (l_Versions_keep : K.lookup f_Versions_keep = some ⟨oc_Versions_keep, od_Versions_keep, .func (PySem.W.fnOf "keep" "Versions.keep" (defArgs s_Versions_keep) (defBody s_Versions_keep) (defScope s_Versions_keep) .none kV_Versions_keep dc_Versions_keep pm_Versions_keep an_Versions_keep cd_Versions_keep ct_Versions_keep), sl_Versions_keep⟩)
    (c_Versions_keep : PySem.W.codeIn K cd_Versions_keep "Versions.keep" = true)
    (k_Versions_keep : PySem.W.keepIn K (.ref f_Versions_keep) = true)
    (a_Versions_way_to : PySem.W.findIn K (.ref C_Versions) "way_to" = some (some (.ref f_Versions_way_to)))
    (i_Versions_way_to : PySem.W.isFn K (.ref f_Versions_way_to) = true)
    (l_Versions_way_to : K.lookup f_Versions_way_to = some ⟨oc_Versions_way_to, od_Versions_way_to, .func (PySem.W.fnOf "way_to" "Versions.way_to" (defArgs s_Versions_way_to) (defBody s_Versions_way_to) (defScope s_Versions_way_to) .none kV_Versions_way_to dc_Versions_way_to pm_Versions_way_to an_Versions_way_to cd_Versions_way_to ct_Versions_way_to), sl_Versions_way_to⟩)
    (c_Versions_way_to : PySem.W.codeIn K cd_Versions_way_to "Versions.way_to" = true)
    (k_Versions_way_to : PySem.W.keepIn K (.ref f_Versions_way_to) = true)
    (a_Versions_change : PySem.W.findIn K (.ref C_Versions) "change" = some (some (.ref f_Versions_change)))
    (i_Versions_change : PySem.W.isFn K (.ref f_Versions_change) = true)
    (l_Versions_change : K.lookup f_Versions_change = some ⟨oc_Versions_change, od_Versions_change, .func (PySem.W.fnOf "change" "Versions.change" (defArgs s_Versions_change) (defBody s_Versions_change) (defScope s_Versions_change) .none kV_Versions_change dc_Versions_change pm_Versions_change an_Versions_change cd_Versions_change ct_Versions_change), sl_Versions_change⟩)
    (c_Versions_change : PySem.W.codeIn K cd_Versions_change "Versions.change" = true)
    (k_Versions_change : PySem.W.keepIn K (.ref f_Versions_change) = true)
    (a_Versions_parent : PySem.W.findIn K (.ref C_Versions) "parent" = some (some (.ref f_Versions_parent)))
    (i_Versions_parent : PySem.W.isFn K (.ref f_Versions_parent) = true)
    (l_Versions_parent : K.lookup f_Versions_parent = some ⟨oc_Versions_parent, od_Versions_parent, .func (PySem.W.fnOf "parent" "Versions.parent" (defArgs s_Versions_parent) (defBody s_Versions_parent) (defScope s_Versions_parent) .none kV_Versions_parent dc_Versions_parent pm_Versions_parent an_Versions_parent cd_Versions_parent ct_Versions_parent), sl_Versions_parent⟩)
    (c_Versions_parent : PySem.W.codeIn K cd_Versions_parent "Versions.parent" = true)
    (k_Versions_parent : PySem.W.keepIn K (.ref f_Versions_parent) = true)
    (a_Versions_items : PySem.W.findIn K (.ref C_Versions) "items" = some (some (.ref f_Versions_items)))
    (i_Versions_items : PySem.W.isFn K (.ref f_Versions_items) = true)
    (l_Versions_items : K.lookup f_Versions_items = some ⟨oc_Versions_items, od_Versions_items, .func (PySem.W.fnOf "items" "Versions.items" (defArgs s_Versions_items) (defBody s_Versions_items) (defScope s_Versions_items) .none kV_Versions_items dc_Versions_items pm_Versions_items an_Versions_items cd_Versions_items ct_Versions_items), sl_Versions_items⟩)
    (c_Versions_items : PySem.W.codeIn K cd_Versions_items "Versions.items" = true)
    (k_Versions_items : PySem.W.keepIn K (.ref f_Versions_items) = true)
    (a_Versions_row : PySem.W.findIn K (.ref C_Versions) "row" = some (some (.ref f_Versions_row)))
    (i_Versions_row : PySem.W.isFn K (.ref f_Versions_row) = true)
    (l_Versions_row : K.lookup f_Versions_row = some ⟨oc_Versions_row, od_Versions_row, .func (PySem.W.fnOf "row" "Versions.row" (defArgs s_Versions_row) (defBody s_Versions_row) (defScope s_Versions_row) .none kV_Versions_row dc_Versions_row pm_Versions_row an_Versions_row cd_Versions_row ct_Versions_row), sl_Versions_row⟩)
    (c_Versions_row : PySem.W.codeIn K cd_Versions_row "Versions.row" = true)
    (k_Versions_row : PySem.W.keepIn K (.ref f_Versions_row) = true)
    (a_check_range : PySem.W.nsIn K mainGlobals "check_range" = some (some (.ref f_check_range)))
    (l_check_range : K.lookup f_check_range = some ⟨oc_check_range, od_check_range, .func (PySem.W.fnOf "check_range" "check_range" (defArgs s_check_range) (defBody s_check_range) (defScope s_check_range) .none kV_check_range dc_check_range pm_check_range an_check_range cd_check_range ct_check_range), sl_check_range⟩)
    (c_check_range : PySem.W.codeIn K cd_check_range "check_range" = true)
    (k_check_range : PySem.W.keepIn K (.ref f_check_range) = true)
    (a_Versions_total : PySem.W.findIn K (.ref C_Versions) "total" = some (some (.ref f_Versions_total)))
    (i_Versions_total : PySem.W.isFn K (.ref f_Versions_total) = true)
    (l_Versions_total : K.lookup f_Versions_total = some ⟨oc_Versions_total, od_Versions_total, .func (PySem.W.fnOf "total" "Versions.total" (defArgs s_Versions_total) (defBody s_Versions_total) (defScope s_Versions_total) .none kV_Versions_total dc_Versions_total pm_Versions_total an_Versions_total cd_Versions_total ct_Versions_total), sl_Versions_total⟩)
    (c_Versions_total : PySem.W.codeIn K cd_Versions_total "Versions.total" = true)
    (k_Versions_total : PySem.W.keepIn K (.ref f_Versions_total) = true)
    (a_Versions_unlike : PySem.W.findIn K (.ref C_Versions) "unlike" = some (some (.ref f_Versions_unlike)))
    (i_Versions_unlike : PySem.W.isFn K (.ref f_Versions_unlike) = true)
    (l_Versions_unlike : K.lookup f_Versions_unlike = some ⟨oc_Versions_unlike, od_Versions_unlike, .func (PySem.W.fnOf "unlike" "Versions.unlike" (defArgs s_Versions_unlike) (defBody s_Versions_unlike) (defScope s_Versions_unlike) .none kV_Versions_unlike dc_Versions_unlike pm_Versions_unlike an_Versions_unlike cd_Versions_unlike ct_Versions_unlike), sl_Versions_unlike⟩)
    (c_Versions_unlike : PySem.W.codeIn K cd_Versions_unlike "Versions.unlike" = true)
    (k_Versions_unlike : PySem.W.keepIn K (.ref f_Versions_unlike) = true)
    (a__law_asked : PySem.W.nsIn K mainGlobals "_law_asked" = some (some (.ref f__law_asked)))
    (l__law_asked : K.lookup f__law_asked = some ⟨oc__law_asked, od__law_asked, .func (PySem.W.fnOf "_law_asked" "_law_asked" (defArgs s__law_asked) (defBody s__law_asked) (defScope s__law_asked) .none kV__law_asked dc__law_asked pm__law_asked an__law_asked cd__law_asked ct__law_asked), sl__law_asked⟩)
    (c__law_asked : PySem.W.codeIn K cd__law_asked "_law_asked" = true)
    (k__law_asked : PySem.W.keepIn K (.ref f__law_asked) = true)
    (a__law_same : PySem.W.nsIn K mainGlobals "_law_same" = some (some (.ref f__law_same)))
    (l__law_same : K.lookup f__law_same = some ⟨oc__law_same, od__law_same, .func (PySem.W.fnOf "_law_same" "_law_same" (defArgs s__law_same) (defBody s__law_same) (defScope s__law_same) .none kV__law_same dc__law_same pm__law_same an__law_same cd__law_same ct__law_same), sl__law_same⟩)
    (c__law_same : PySem.W.codeIn K cd__law_same "_law_same" = true)
    (k__law_same : PySem.W.keepIn K (.ref f__law_same) = true)
    (a__law_take : PySem.W.nsIn K mainGlobals "_law_take" = some (some (.ref f__law_take)))
    (l__law_take : K.lookup f__law_take = some ⟨oc__law_take, od__law_take, .func (PySem.W.fnOf "_law_take" "_law_take" (defArgs s__law_take) (defBody s__law_take) (defScope s__law_take) .none kV__law_take dc__law_take pm__law_take an__law_take cd__law_take ct__law_take), sl__law_take⟩)
    (c__law_take : PySem.W.codeIn K cd__law_take "_law_take" = true)
    (k__law_take : PySem.W.keepIn K (.ref f__law_take) = true)
    (a__law_all_right : PySem.W.nsIn K mainGlobals "_law_all_right" = some (some (.ref f__law_all_right)))
    (l__law_all_right : K.lookup f__law_all_right = some ⟨oc__law_all_right, od__law_all_right, .func (PySem.W.fnOf "_law_all_right" "_law_all_right" (defArgs s__law_all_right) (defBody s__law_all_right) (defScope s__law_all_right) .none kV__law_all_right dc__law_all_right pm__law_all_right an__law_all_right cd__law_all_right ct__law_all_right), sl__law_all_right⟩)
    (c__law_all_right : PySem.W.codeIn K cd__law_all_right "_law_all_right" = true)
    (k__law_all_right : PySem.W.keepIn K (.ref f__law_all_right) = true)
    (a__law_digits : PySem.W.nsIn K mainGlobals "_law_digits" = some (some (.ref f__law_digits)))
    (l__law_digits : K.lookup f__law_digits = some ⟨oc__law_digits, od__law_digits, .func (PySem.W.fnOf "_law_digits" "_law_digits" (defArgs s__law_digits) (defBody s__law_digits) (defScope s__law_digits) .none kV__law_digits dc__law_digits pm__law_digits an__law_digits cd__law_digits ct__law_digits), sl__law_digits⟩)
    (c__law_digits : PySem.W.codeIn K cd__law_digits "_law_digits" = true)
    (k__law_digits : PySem.W.keepIn K (.ref f__law_digits) = true)
    (a_Versions_grow : PySem.W.findIn K (.ref C_Versions) "grow" = some (some (.ref f_Versions_grow)))
    (i_Versions_grow : PySem.W.isFn K (.ref f_Versions_grow) = true)
    (l_Versions_grow : K.lookup f_Versions_grow = some ⟨oc_Versions_grow, od_Versions_grow, .func (PySem.W.fnOf "grow" "Versions.grow" (defArgs s_Versions_grow) (defBody s_Versions_grow) (defScope s_Versions_grow) .none kV_Versions_grow dc_Versions_grow pm_Versions_grow an_Versions_grow cd_Versions_grow ct_Versions_grow), sl_Versions_grow⟩)
    (c_Versions_grow : PySem.W.codeIn K cd_Versions_grow "Versions.grow" = true)
    (k_Versions_grow : PySem.W.keepIn K (.ref f_Versions_grow) = true)
    (a_check_row : PySem.W.nsIn K mainGlobals "check_row" = some (some (.ref f_check_row)))
    (l_check_row : K.lookup f_check_row = some ⟨oc_check_row, od_check_row, .func (PySem.W.fnOf "check_row" "check_row" (defArgs s_check_row) (defBody s_check_row) (defScope s_check_row) .none kV_check_row dc_check_row pm_check_row an_check_row cd_check_row ct_check_row), sl_check_row⟩)
    (c_check_row : PySem.W.codeIn K cd_check_row "check_row" = true)
    (k_check_row : PySem.W.keepIn K (.ref f_check_row) = true)
    (a_Versions_init : PySem.W.findIn K (.ref C_Versions) "__init__" = some (some (.ref f_Versions_init)))
    (i_Versions_init : PySem.W.isFn K (.ref f_Versions_init) = true)
    (l_Versions_init : K.lookup f_Versions_init = some ⟨oc_Versions_init, od_Versions_init, .func (PySem.W.fnOf "__init__" "Versions.__init__" (defArgs s_Versions_init) (defBody s_Versions_init) (defScope s_Versions_init) .none kV_Versions_init dc_Versions_init pm_Versions_init an_Versions_init cd_Versions_init ct_Versions_init), sl_Versions_init⟩)
    (c_Versions_init : PySem.W.codeIn K cd_Versions_init "Versions.__init__" = true)
    (k_Versions_init : PySem.W.keepIn K (.ref f_Versions_init) = true)
    (a__law_made : PySem.W.nsIn K mainGlobals "_law_made" = some (some (.ref f__law_made)))
    (l__law_made : K.lookup f__law_made = some ⟨oc__law_made, od__law_made, .func (PySem.W.fnOf "_law_made" "_law_made" (defArgs s__law_made) (defBody s__law_made) (defScope s__law_made) .none kV__law_made dc__law_made pm__law_made an__law_made cd__law_made ct__law_made), sl__law_made⟩)
    (c__law_made : PySem.W.codeIn K cd__law_made "_law_made" = true)
    (k__law_made : PySem.W.keepIn K (.ref f__law_made) = true)
    (a__law_number : PySem.W.nsIn K mainGlobals "_law_number" = some (some (.ref f__law_number)))
    (l__law_number : K.lookup f__law_number = some ⟨oc__law_number, od__law_number, .func (PySem.W.fnOf "_law_number" "_law_number" (defArgs s__law_number) (defBody s__law_number) (defScope s__law_number) .none kV__law_number dc__law_number pm__law_number an__law_number cd__law_number ct__law_number), sl__law_number⟩)
    (c__law_number : PySem.W.codeIn K cd__law_number "_law_number" = true)
    (k__law_number : PySem.W.keepIn K (.ref f__law_number) = true)
    (a__law_mixed : PySem.W.nsIn K mainGlobals "_law_mixed" = some (some (.ref f__law_mixed)))
    (l__law_mixed : K.lookup f__law_mixed = some ⟨oc__law_mixed, od__law_mixed, .func (PySem.W.fnOf "_law_mixed" "_law_mixed" (defArgs s__law_mixed) (defBody s__law_mixed) (defScope s__law_mixed) .none kV__law_mixed dc__law_mixed pm__law_mixed an__law_mixed cd__law_mixed ct__law_mixed), sl__law_mixed⟩)
    (c__law_mixed : PySem.W.codeIn K cd__law_mixed "_law_mixed" = true)
    (k__law_mixed : PySem.W.keepIn K (.ref f__law_mixed) = true)
    (a__law_refused_right : PySem.W.nsIn K mainGlobals "_law_refused_right" = some (some (.ref f__law_refused_right)))
    (l__law_refused_right : K.lookup f__law_refused_right = some ⟨oc__law_refused_right, od__law_refused_right, .func (PySem.W.fnOf "_law_refused_right" "_law_refused_right" (defArgs s__law_refused_right) (defBody s__law_refused_right) (defScope s__law_refused_right) .none kV__law_refused_right dc__law_refused_right pm__law_refused_right an__law_refused_right cd__law_refused_right ct__law_refused_right), sl__law_refused_right⟩)
    (c__law_refused_right : PySem.W.codeIn K cd__law_refused_right "_law_refused_right" = true)
    (k__law_refused_right : PySem.W.keepIn K (.ref f__law_refused_right) = true)
    (a__law_life_right : PySem.W.nsIn K mainGlobals "_law_life_right" = some (some (.ref f__law_life_right)))
    (l__law_life_right : K.lookup f__law_life_right = some ⟨oc__law_life_right, od__law_life_right, .func (PySem.W.fnOf "_law_life_right" "_law_life_right" (defArgs s__law_life_right) (defBody s__law_life_right) (defScope s__law_life_right) .none kV__law_life_right dc__law_life_right pm__law_life_right an__law_life_right cd__law_life_right ct__law_life_right), sl__law_life_right⟩)
    (c__law_life_right : PySem.W.codeIn K cd__law_life_right "_law_life_right" = true)
    (k__law_life_right : PySem.W.keepIn K (.ref f__law_life_right) = true)
    (a_law : PySem.W.nsIn K mainGlobals "law" = some (some (.ref f_law)))
    (l_law : K.lookup f_law = some ⟨oc_law, od_law, .func (PySem.W.fnOf "law" "law" (defArgs s_law) (defBody s_law) (defScope s_law) .none kV_law dc_law pm_law an_law cd_law ct_law), sl_law⟩)
    (c_law : PySem.W.codeIn K cd_law "law" = true)
    (k_law : PySem.W.keepIn K (.ref f_law) = true)
    (n_abs : PySem.W.nsIn K mainGlobals "abs" = some none)
    (n_all : PySem.W.nsIn K mainGlobals "all" = some none)
    (n_bool : PySem.W.nsIn K mainGlobals "bool" = some none)
    (n_dict : PySem.W.nsIn K mainGlobals "dict" = some none)
    (n_int : PySem.W.nsIn K mainGlobals "int" = some none)
    (n_isinstance : PySem.W.nsIn K mainGlobals "isinstance" = some none)
    (n_len : PySem.W.nsIn K mainGlobals "len" = some none)
    (n_list : PySem.W.nsIn K mainGlobals "list" = some none)
    (n_max : PySem.W.nsIn K mainGlobals "max" = some none)
    (n_min : PySem.W.nsIn K mainGlobals "min" = some none)
    (n_range : PySem.W.nsIn K mainGlobals "range" = some none)
    (n_sorted : PySem.W.nsIn K mainGlobals "sorted" = some none)
    (n_str : PySem.W.nsIn K mainGlobals "str" = some none)
    (n_sum : PySem.W.nsIn K mainGlobals "sum" = some none)
    (n_tuple : PySem.W.nsIn K mainGlobals "tuple" = some none)
    (a_MOST_ROW : PySem.W.nsIn K mainGlobals "MOST_ROW" = some (some u_MOST_ROW))
    (r_MOST_ROW : RelV (.int 32) u_MOST_ROW)
    (a_MOST_VERSIONS : PySem.W.nsIn K mainGlobals "MOST_VERSIONS" = some (some u_MOST_VERSIONS))
    (r_MOST_VERSIONS : RelV (.int 100) u_MOST_VERSIONS)
    (a_InvalidIndex : PySem.W.nsIn K mainGlobals "InvalidIndex" = some (some (.ref E_InvalidIndex)))
    (x_InvalidIndex : K.lookup E_InvalidIndex = some (excClassObj nm_InvalidIndex q_InvalidIndex E_InvalidIndex N_InvalidIndex bs_InvalidIndex [.ref E_TreeError, .type "ValueError", .type "Exception", .type "BaseException", .type "object"] true sn_InvalidIndex sub_InvalidIndex ab_InvalidIndex col_InvalidIndex dd_InvalidIndex k0_InvalidIndex k1_InvalidIndex k2_InvalidIndex k3_InvalidIndex k5_InvalidIndex "ValueError.__new__"))
    (xs_InvalidIndex : PySem.W.findIn K (.ref E_InvalidIndex) "__setattr__" = some (some (.builtin "object.__setattr__")))
    (xe_InvalidIndex : PySem.W.subIn K (.ref E_InvalidIndex) (.type "BaseException") = some true)
    (xt_InvalidIndex : PySem.W.typeIn K (.ref E_InvalidIndex) = some (.type "type"))
    (xk_InvalidIndex : PySem.W.keepIn K (.ref E_InvalidIndex) = true)
    (xn_InvalidIndex : PySem.W.findIn K (.ref E_InvalidIndex) "given" = some none)
    (xi_InvalidIndex : PySem.W.findIn K (.ref E_InvalidIndex) "__init__" = some (some (.ref I_InvalidIndex)))
    (xf_InvalidIndex : PySem.W.typeIn K (.ref I_InvalidIndex) = some (.type "function"))
    (li_InvalidIndex : K.lookup I_InvalidIndex = some ⟨oci_InvalidIndex, odi_InvalidIndex, .func (PySem.W.fnOf "__init__" "InvalidIndex.__init__" (defArgs si_InvalidIndex) (defBody si_InvalidIndex) (defScope si_InvalidIndex) .none kVi_InvalidIndex dci_InvalidIndex pmi_InvalidIndex ani_InvalidIndex cdi_InvalidIndex cti_InvalidIndex), sli_InvalidIndex⟩)
    (ci_InvalidIndex : PySem.W.codeIn K cdi_InvalidIndex "InvalidIndex.__init__" = true)
    (ki_InvalidIndex : PySem.W.keepIn K (.ref I_InvalidIndex) = true)
    (ga_InvalidIndex : PySem.W.findIn K (.ref E_InvalidIndex) "__getattribute__" = some (some (.builtin "BaseException.__getattribute__")))
    (gg_InvalidIndex : PySem.W.findIn K (.ref E_InvalidIndex) "__getattr__" = some none)
    (xd_InvalidIndex : PySem.W.hasDictIn K E_InvalidIndex = true)
    (xc_InvalidIndex : PySem.W.findIn K (.ref E_InvalidIndex) "__class__" = some (some (.builtin "object.__class__")))
    (xm_InvalidIndex : PySem.W.mroIn K E_InvalidIndex (.type "object") = some true)
    (a_InvalidNumber : PySem.W.nsIn K mainGlobals "InvalidNumber" = some (some (.ref E_InvalidNumber)))
    (x_InvalidNumber : K.lookup E_InvalidNumber = some (excClassObj nm_InvalidNumber q_InvalidNumber E_InvalidNumber N_InvalidNumber bs_InvalidNumber [.ref E_TreeError, .type "ValueError", .type "Exception", .type "BaseException", .type "object"] true sn_InvalidNumber sub_InvalidNumber ab_InvalidNumber col_InvalidNumber dd_InvalidNumber k0_InvalidNumber k1_InvalidNumber k2_InvalidNumber k3_InvalidNumber k5_InvalidNumber "ValueError.__new__"))
    (xs_InvalidNumber : PySem.W.findIn K (.ref E_InvalidNumber) "__setattr__" = some (some (.builtin "object.__setattr__")))
    (xe_InvalidNumber : PySem.W.subIn K (.ref E_InvalidNumber) (.type "BaseException") = some true)
    (xt_InvalidNumber : PySem.W.typeIn K (.ref E_InvalidNumber) = some (.type "type"))
    (xk_InvalidNumber : PySem.W.keepIn K (.ref E_InvalidNumber) = true)
    (xn_InvalidNumber : PySem.W.findIn K (.ref E_InvalidNumber) "given" = some none)
    (xi_InvalidNumber : PySem.W.findIn K (.ref E_InvalidNumber) "__init__" = some (some (.ref I_InvalidNumber)))
    (xf_InvalidNumber : PySem.W.typeIn K (.ref I_InvalidNumber) = some (.type "function"))
    (li_InvalidNumber : K.lookup I_InvalidNumber = some ⟨oci_InvalidNumber, odi_InvalidNumber, .func (PySem.W.fnOf "__init__" "InvalidNumber.__init__" (defArgs si_InvalidNumber) (defBody si_InvalidNumber) (defScope si_InvalidNumber) .none kVi_InvalidNumber dci_InvalidNumber pmi_InvalidNumber ani_InvalidNumber cdi_InvalidNumber cti_InvalidNumber), sli_InvalidNumber⟩)
    (ci_InvalidNumber : PySem.W.codeIn K cdi_InvalidNumber "InvalidNumber.__init__" = true)
    (ki_InvalidNumber : PySem.W.keepIn K (.ref I_InvalidNumber) = true)
    (ga_InvalidNumber : PySem.W.findIn K (.ref E_InvalidNumber) "__getattribute__" = some (some (.builtin "BaseException.__getattribute__")))
    (gg_InvalidNumber : PySem.W.findIn K (.ref E_InvalidNumber) "__getattr__" = some none)
    (xd_InvalidNumber : PySem.W.hasDictIn K E_InvalidNumber = true)
    (xc_InvalidNumber : PySem.W.findIn K (.ref E_InvalidNumber) "__class__" = some (some (.builtin "object.__class__")))
    (xm_InvalidNumber : PySem.W.mroIn K E_InvalidNumber (.type "object") = some true)
    (a_InvalidRange : PySem.W.nsIn K mainGlobals "InvalidRange" = some (some (.ref E_InvalidRange)))
    (x_InvalidRange : K.lookup E_InvalidRange = some (excClassObj nm_InvalidRange q_InvalidRange E_InvalidRange N_InvalidRange bs_InvalidRange [.ref E_TreeError, .type "ValueError", .type "Exception", .type "BaseException", .type "object"] true sn_InvalidRange sub_InvalidRange ab_InvalidRange col_InvalidRange dd_InvalidRange k0_InvalidRange k1_InvalidRange k2_InvalidRange k3_InvalidRange k5_InvalidRange "ValueError.__new__"))
    (xs_InvalidRange : PySem.W.findIn K (.ref E_InvalidRange) "__setattr__" = some (some (.builtin "object.__setattr__")))
    (xe_InvalidRange : PySem.W.subIn K (.ref E_InvalidRange) (.type "BaseException") = some true)
    (xt_InvalidRange : PySem.W.typeIn K (.ref E_InvalidRange) = some (.type "type"))
    (xk_InvalidRange : PySem.W.keepIn K (.ref E_InvalidRange) = true)
    (xn_InvalidRange : PySem.W.findIn K (.ref E_InvalidRange) "given" = some none)
    (xi_InvalidRange : PySem.W.findIn K (.ref E_InvalidRange) "__init__" = some (some (.ref I_InvalidRange)))
    (xf_InvalidRange : PySem.W.typeIn K (.ref I_InvalidRange) = some (.type "function"))
    (li_InvalidRange : K.lookup I_InvalidRange = some ⟨oci_InvalidRange, odi_InvalidRange, .func (PySem.W.fnOf "__init__" "InvalidRange.__init__" (defArgs si_InvalidRange) (defBody si_InvalidRange) (defScope si_InvalidRange) .none kVi_InvalidRange dci_InvalidRange pmi_InvalidRange ani_InvalidRange cdi_InvalidRange cti_InvalidRange), sli_InvalidRange⟩)
    (ci_InvalidRange : PySem.W.codeIn K cdi_InvalidRange "InvalidRange.__init__" = true)
    (ki_InvalidRange : PySem.W.keepIn K (.ref I_InvalidRange) = true)
    (ga_InvalidRange : PySem.W.findIn K (.ref E_InvalidRange) "__getattribute__" = some (some (.builtin "BaseException.__getattribute__")))
    (gg_InvalidRange : PySem.W.findIn K (.ref E_InvalidRange) "__getattr__" = some none)
    (xd_InvalidRange : PySem.W.hasDictIn K E_InvalidRange = true)
    (xc_InvalidRange : PySem.W.findIn K (.ref E_InvalidRange) "__class__" = some (some (.builtin "object.__class__")))
    (xm_InvalidRange : PySem.W.mroIn K E_InvalidRange (.type "object") = some true)
    (a_InvalidRow : PySem.W.nsIn K mainGlobals "InvalidRow" = some (some (.ref E_InvalidRow)))
    (x_InvalidRow : K.lookup E_InvalidRow = some (excClassObj nm_InvalidRow q_InvalidRow E_InvalidRow N_InvalidRow bs_InvalidRow [.ref E_TreeError, .type "ValueError", .type "Exception", .type "BaseException", .type "object"] true sn_InvalidRow sub_InvalidRow ab_InvalidRow col_InvalidRow dd_InvalidRow k0_InvalidRow k1_InvalidRow k2_InvalidRow k3_InvalidRow k5_InvalidRow "ValueError.__new__"))
    (xs_InvalidRow : PySem.W.findIn K (.ref E_InvalidRow) "__setattr__" = some (some (.builtin "object.__setattr__")))
    (xe_InvalidRow : PySem.W.subIn K (.ref E_InvalidRow) (.type "BaseException") = some true)
    (xt_InvalidRow : PySem.W.typeIn K (.ref E_InvalidRow) = some (.type "type"))
    (xk_InvalidRow : PySem.W.keepIn K (.ref E_InvalidRow) = true)
    (xn_InvalidRow : PySem.W.findIn K (.ref E_InvalidRow) "given" = some none)
    (xi_InvalidRow : PySem.W.findIn K (.ref E_InvalidRow) "__init__" = some (some (.ref I_InvalidRow)))
    (xf_InvalidRow : PySem.W.typeIn K (.ref I_InvalidRow) = some (.type "function"))
    (li_InvalidRow : K.lookup I_InvalidRow = some ⟨oci_InvalidRow, odi_InvalidRow, .func (PySem.W.fnOf "__init__" "InvalidRow.__init__" (defArgs si_InvalidRow) (defBody si_InvalidRow) (defScope si_InvalidRow) .none kVi_InvalidRow dci_InvalidRow pmi_InvalidRow ani_InvalidRow cdi_InvalidRow cti_InvalidRow), sli_InvalidRow⟩)
    (ci_InvalidRow : PySem.W.codeIn K cdi_InvalidRow "InvalidRow.__init__" = true)
    (ki_InvalidRow : PySem.W.keepIn K (.ref I_InvalidRow) = true)
    (ga_InvalidRow : PySem.W.findIn K (.ref E_InvalidRow) "__getattribute__" = some (some (.builtin "BaseException.__getattribute__")))
    (gg_InvalidRow : PySem.W.findIn K (.ref E_InvalidRow) "__getattr__" = some none)
    (xd_InvalidRow : PySem.W.hasDictIn K E_InvalidRow = true)
    (xc_InvalidRow : PySem.W.findIn K (.ref E_InvalidRow) "__class__" = some (some (.builtin "object.__class__")))
    (xm_InvalidRow : PySem.W.mroIn K E_InvalidRow (.type "object") = some true)
    (a_InvalidVersion : PySem.W.nsIn K mainGlobals "InvalidVersion" = some (some (.ref E_InvalidVersion)))
    (x_InvalidVersion : K.lookup E_InvalidVersion = some (excClassObj nm_InvalidVersion q_InvalidVersion E_InvalidVersion N_InvalidVersion bs_InvalidVersion [.ref E_TreeError, .type "ValueError", .type "Exception", .type "BaseException", .type "object"] true sn_InvalidVersion sub_InvalidVersion ab_InvalidVersion col_InvalidVersion dd_InvalidVersion k0_InvalidVersion k1_InvalidVersion k2_InvalidVersion k3_InvalidVersion k5_InvalidVersion "ValueError.__new__"))
    (xs_InvalidVersion : PySem.W.findIn K (.ref E_InvalidVersion) "__setattr__" = some (some (.builtin "object.__setattr__")))
    (xe_InvalidVersion : PySem.W.subIn K (.ref E_InvalidVersion) (.type "BaseException") = some true)
    (xt_InvalidVersion : PySem.W.typeIn K (.ref E_InvalidVersion) = some (.type "type"))
    (xk_InvalidVersion : PySem.W.keepIn K (.ref E_InvalidVersion) = true)
    (xn_InvalidVersion : PySem.W.findIn K (.ref E_InvalidVersion) "given" = some none)
    (xi_InvalidVersion : PySem.W.findIn K (.ref E_InvalidVersion) "__init__" = some (some (.ref I_InvalidVersion)))
    (xf_InvalidVersion : PySem.W.typeIn K (.ref I_InvalidVersion) = some (.type "function"))
    (li_InvalidVersion : K.lookup I_InvalidVersion = some ⟨oci_InvalidVersion, odi_InvalidVersion, .func (PySem.W.fnOf "__init__" "InvalidVersion.__init__" (defArgs si_InvalidVersion) (defBody si_InvalidVersion) (defScope si_InvalidVersion) .none kVi_InvalidVersion dci_InvalidVersion pmi_InvalidVersion ani_InvalidVersion cdi_InvalidVersion cti_InvalidVersion), sli_InvalidVersion⟩)
    (ci_InvalidVersion : PySem.W.codeIn K cdi_InvalidVersion "InvalidVersion.__init__" = true)
    (ki_InvalidVersion : PySem.W.keepIn K (.ref I_InvalidVersion) = true)
    (ga_InvalidVersion : PySem.W.findIn K (.ref E_InvalidVersion) "__getattribute__" = some (some (.builtin "BaseException.__getattribute__")))
    (gg_InvalidVersion : PySem.W.findIn K (.ref E_InvalidVersion) "__getattr__" = some none)
    (xd_InvalidVersion : PySem.W.hasDictIn K E_InvalidVersion = true)
    (xc_InvalidVersion : PySem.W.findIn K (.ref E_InvalidVersion) "__class__" = some (some (.builtin "object.__class__")))
    (xm_InvalidVersion : PySem.W.mroIn K E_InvalidVersion (.type "object") = some true)
    (a_TooMany : PySem.W.nsIn K mainGlobals "TooMany" = some (some (.ref E_TooMany)))
    (x_TooMany : K.lookup E_TooMany = some (excClassObj nm_TooMany q_TooMany E_TooMany N_TooMany bs_TooMany [.ref E_TreeError, .type "ValueError", .type "Exception", .type "BaseException", .type "object"] true sn_TooMany sub_TooMany ab_TooMany col_TooMany dd_TooMany k0_TooMany k1_TooMany k2_TooMany k3_TooMany k5_TooMany "ValueError.__new__"))
    (xs_TooMany : PySem.W.findIn K (.ref E_TooMany) "__setattr__" = some (some (.builtin "object.__setattr__")))
    (xe_TooMany : PySem.W.subIn K (.ref E_TooMany) (.type "BaseException") = some true)
    (xt_TooMany : PySem.W.typeIn K (.ref E_TooMany) = some (.type "type"))
    (xk_TooMany : PySem.W.keepIn K (.ref E_TooMany) = true)
    (xn_TooMany : PySem.W.findIn K (.ref E_TooMany) "count" = some none)
    (xi_TooMany : PySem.W.findIn K (.ref E_TooMany) "__init__" = some (some (.ref I_TooMany)))
    (xf_TooMany : PySem.W.typeIn K (.ref I_TooMany) = some (.type "function"))
    (li_TooMany : K.lookup I_TooMany = some ⟨oci_TooMany, odi_TooMany, .func (PySem.W.fnOf "__init__" "TooMany.__init__" (defArgs si_TooMany) (defBody si_TooMany) (defScope si_TooMany) .none kVi_TooMany dci_TooMany pmi_TooMany ani_TooMany cdi_TooMany cti_TooMany), sli_TooMany⟩)
    (ci_TooMany : PySem.W.codeIn K cdi_TooMany "TooMany.__init__" = true)
    (ki_TooMany : PySem.W.keepIn K (.ref I_TooMany) = true)
    (ga_TooMany : PySem.W.findIn K (.ref E_TooMany) "__getattribute__" = some (some (.builtin "BaseException.__getattribute__")))
    (gg_TooMany : PySem.W.findIn K (.ref E_TooMany) "__getattr__" = some none)
    (xd_TooMany : PySem.W.hasDictIn K E_TooMany = true)
    (xc_TooMany : PySem.W.findIn K (.ref E_TooMany) "__class__" = some (some (.builtin "object.__class__")))
    (xm_TooMany : PySem.W.mroIn K E_TooMany (.type "object") = some true)
    (gn : PySem.W.specialIn K (.builtin "object.__class__") "__get__" = some (some (.builtin "getset_descriptor.__get__")))
    (gt : PySem.W.takesIn K (.builtin "object.__class__") = some true)
    (ex_InvalidIndex_InvalidIndex : PySem.W.subIn K (.ref E_InvalidIndex) (.ref E_InvalidIndex) = some true)
    (xl_InvalidIndex : PySem.W.isClsIn K E_InvalidIndex = true)
    (ex_InvalidIndex_InvalidNumber : PySem.W.subIn K (.ref E_InvalidIndex) (.ref E_InvalidNumber) = some false)
    (ex_InvalidIndex_InvalidRange : PySem.W.subIn K (.ref E_InvalidIndex) (.ref E_InvalidRange) = some false)
    (ex_InvalidIndex_InvalidVersion : PySem.W.subIn K (.ref E_InvalidIndex) (.ref E_InvalidVersion) = some false)
    (ex_InvalidIndex_TooMany : PySem.W.subIn K (.ref E_InvalidIndex) (.ref E_TooMany) = some false)
    (ex_InvalidNumber_InvalidIndex : PySem.W.subIn K (.ref E_InvalidNumber) (.ref E_InvalidIndex) = some false)
    (xl_InvalidNumber : PySem.W.isClsIn K E_InvalidNumber = true)
    (ex_InvalidNumber_InvalidNumber : PySem.W.subIn K (.ref E_InvalidNumber) (.ref E_InvalidNumber) = some true)
    (ex_InvalidNumber_InvalidRange : PySem.W.subIn K (.ref E_InvalidNumber) (.ref E_InvalidRange) = some false)
    (ex_InvalidNumber_InvalidVersion : PySem.W.subIn K (.ref E_InvalidNumber) (.ref E_InvalidVersion) = some false)
    (ex_InvalidNumber_TooMany : PySem.W.subIn K (.ref E_InvalidNumber) (.ref E_TooMany) = some false)
    (ex_InvalidRange_InvalidIndex : PySem.W.subIn K (.ref E_InvalidRange) (.ref E_InvalidIndex) = some false)
    (xl_InvalidRange : PySem.W.isClsIn K E_InvalidRange = true)
    (ex_InvalidRange_InvalidNumber : PySem.W.subIn K (.ref E_InvalidRange) (.ref E_InvalidNumber) = some false)
    (ex_InvalidRange_InvalidRange : PySem.W.subIn K (.ref E_InvalidRange) (.ref E_InvalidRange) = some true)
    (ex_InvalidRange_InvalidVersion : PySem.W.subIn K (.ref E_InvalidRange) (.ref E_InvalidVersion) = some false)
    (ex_InvalidRange_TooMany : PySem.W.subIn K (.ref E_InvalidRange) (.ref E_TooMany) = some false)
    (ex_InvalidVersion_InvalidIndex : PySem.W.subIn K (.ref E_InvalidVersion) (.ref E_InvalidIndex) = some false)
    (xl_InvalidVersion : PySem.W.isClsIn K E_InvalidVersion = true)
    (ex_InvalidVersion_InvalidNumber : PySem.W.subIn K (.ref E_InvalidVersion) (.ref E_InvalidNumber) = some false)
    (ex_InvalidVersion_InvalidRange : PySem.W.subIn K (.ref E_InvalidVersion) (.ref E_InvalidRange) = some false)
    (ex_InvalidVersion_InvalidVersion : PySem.W.subIn K (.ref E_InvalidVersion) (.ref E_InvalidVersion) = some true)
    (ex_InvalidVersion_TooMany : PySem.W.subIn K (.ref E_InvalidVersion) (.ref E_TooMany) = some false)
    (ex_TooMany_InvalidIndex : PySem.W.subIn K (.ref E_TooMany) (.ref E_InvalidIndex) = some false)
    (xl_TooMany : PySem.W.isClsIn K E_TooMany = true)
    (ex_TooMany_InvalidNumber : PySem.W.subIn K (.ref E_TooMany) (.ref E_InvalidNumber) = some false)
    (ex_TooMany_InvalidRange : PySem.W.subIn K (.ref E_TooMany) (.ref E_InvalidRange) = some false)
    (ex_TooMany_InvalidVersion : PySem.W.subIn K (.ref E_TooMany) (.ref E_InvalidVersion) = some false)
    (ex_TooMany_TooMany : PySem.W.subIn K (.ref E_TooMany) (.ref E_TooMany) = some true)
    (ex_InvalidRow_InvalidRow : PySem.W.subIn K (.ref E_InvalidRow) (.ref E_InvalidRow) = some true)
    (xl_InvalidRow : PySem.W.isClsIn K E_InvalidRow = true) :
    ∃ fd : FuncData, (∀ (s : Shared) (v : Value), BindsTo s fd ⟨[v], []⟩ [("script", v)]) ∧ ∀ base : Heap, K.In base → base.Ns mainGlobals mg → FnOk l.prog w K mg base (L2.CX l.prog w) 14 fa fd ["script"] (spLaw K) := by
  have e := hfa.symm.trans (PySem.W.mg_of X G a_law)
  cases e
  have F__law_box := fun_mk (st := s__law_box) l__law_box c__law_box k__law_box
  have B__law_box := F__law_box.binds (ps := ["great"]) fun _ _ _ _ _ _ us hl => match us, hl with | [_], _ => rfl
  have F__law_cell := fun_mk (st := s__law_cell) l__law_cell c__law_cell k__law_cell
  have B__law_cell := F__law_cell.binds (ps := ["script", "k"]) fun _ _ _ _ _ _ us hl => match us, hl with | [_, _], _ => rfl
  have F_Versions_nodes := fun_mk (st := s_Versions_nodes) l_Versions_nodes c_Versions_nodes k_Versions_nodes
  have B_Versions_nodes := F_Versions_nodes.binds (ps := ["self"]) fun _ _ _ _ _ _ us hl => match us, hl with | [_], _ => rfl
  have F_is_integer := fun_mk (st := s_is_integer) l_is_integer c_is_integer k_is_integer
  have B_is_integer := F_is_integer.binds (ps := ["value"]) fun _ _ _ _ _ _ us hl => match us, hl with | [_], _ => rfl
  have F_is_between := fun_mk (st := s_is_between) l_is_between c_is_between k_is_between
  have B_is_between := F_is_between.binds (ps := ["value", "least", "most"]) fun _ _ _ _ _ _ us hl => match us, hl with | [_, _, _], _ => rfl
  have F_Versions_check_version := fun_mk (st := s_Versions_check_version) l_Versions_check_version c_Versions_check_version k_Versions_check_version
  have B_Versions_check_version := F_Versions_check_version.binds (ps := ["self", "version"]) fun _ _ _ _ _ _ us hl => match us, hl with | [_, _], _ => rfl
  have F_Versions_keep := fun_mk (st := s_Versions_keep) l_Versions_keep c_Versions_keep k_Versions_keep
  have B_Versions_keep := F_Versions_keep.binds (ps := ["self", "total", "left", "right"]) fun _ _ _ _ _ _ us hl => match us, hl with | [_, _, _, _], _ => rfl
  have F_Versions_way_to := fun_mk (st := s_Versions_way_to) l_Versions_way_to c_Versions_way_to k_Versions_way_to
  have B_Versions_way_to := F_Versions_way_to.binds (ps := ["self", "version", "index"]) fun _ _ _ _ _ _ us hl => match us, hl with | [_, _, _], _ => rfl
  have F_Versions_change := fun_mk (st := s_Versions_change) l_Versions_change c_Versions_change k_Versions_change
  have B_Versions_change := F_Versions_change.binds (ps := ["self", "version", "index", "number"]) fun _ _ _ _ _ _ us hl => match us, hl with | [_, _, _, _], _ => rfl
  have F_Versions_parent := fun_mk (st := s_Versions_parent) l_Versions_parent c_Versions_parent k_Versions_parent
  have B_Versions_parent := F_Versions_parent.binds (ps := ["self", "version"]) fun _ _ _ _ _ _ us hl => match us, hl with | [_, _], _ => rfl
  have F_Versions_items := fun_mk (st := s_Versions_items) l_Versions_items c_Versions_items k_Versions_items
  have B_Versions_items := F_Versions_items.binds (ps := ["self", "version"]) fun _ _ _ _ _ _ us hl => match us, hl with | [_, _], _ => rfl
  have F_Versions_row := fun_mk (st := s_Versions_row) l_Versions_row c_Versions_row k_Versions_row
  have B_Versions_row := F_Versions_row.binds (ps := ["self", "version"]) fun _ _ _ _ _ _ us hl => match us, hl with | [_, _], _ => rfl
  have F_check_range := fun_mk (st := s_check_range) l_check_range c_check_range k_check_range
  have B_check_range := F_check_range.binds (ps := ["low", "high", "size"]) fun _ _ _ _ _ _ us hl => match us, hl with | [_, _, _], _ => rfl
  have F_Versions_total := fun_mk (st := s_Versions_total) l_Versions_total c_Versions_total k_Versions_total
  have B_Versions_total := F_Versions_total.binds (ps := ["self", "version", "low", "high"]) fun _ _ _ _ _ _ us hl => match us, hl with | [_, _, _, _], _ => rfl
  have F_Versions_unlike := fun_mk (st := s_Versions_unlike) l_Versions_unlike c_Versions_unlike k_Versions_unlike
  have B_Versions_unlike := F_Versions_unlike.binds (ps := ["self", "one", "other"]) fun _ _ _ _ _ _ us hl => match us, hl with | [_, _, _], _ => rfl
  have F__law_asked := fun_mk (st := s__law_asked) l__law_asked c__law_asked k__law_asked
  have B__law_asked := F__law_asked.binds (ps := ["kept", "word", "args", "by_name"]) fun _ _ _ _ _ _ us hl => match us, hl with | [_, _, _, _], _ => rfl
  have F__law_same := fun_mk (st := s__law_same) l__law_same c__law_same k__law_same
  have B__law_same := F__law_same.binds (ps := ["told", "due"]) fun _ _ _ _ _ _ us hl => match us, hl with | [_, _], _ => rfl
  have F__law_take := fun_mk (st := s__law_take) l__law_take c__law_take k__law_take
  have B__law_take := F__law_take.binds (ps := ["box", "many"]) fun _ _ _ _ _ _ us hl => match us, hl with | [_, _], _ => rfl
  have F__law_all_right := fun_mk (st := s__law_all_right) l__law_all_right c__law_all_right k__law_all_right
  have B__law_all_right := F__law_all_right.binds (ps := ["box", "kept", "rows", "parents", "by_name"]) fun _ _ _ _ _ _ us hl => match us, hl with | [_, _, _, _, _], _ => rfl
  have F__law_digits := fun_mk (st := s__law_digits) l__law_digits c__law_digits k__law_digits
  have B__law_digits := F__law_digits.binds (ps := ["size"]) fun _ _ _ _ _ _ us hl => match us, hl with | [_], _ => rfl
  have F_Versions_grow := fun_mk (st := s_Versions_grow) l_Versions_grow c_Versions_grow k_Versions_grow
  have B_Versions_grow := F_Versions_grow.binds (ps := ["self", "row", "low", "high"]) fun _ _ _ _ _ _ us hl => match us, hl with | [_, _, _, _], _ => rfl
  have F_check_row := fun_mk (st := s_check_row) l_check_row c_check_row k_check_row
  have B_check_row := F_check_row.binds (ps := ["row"]) fun _ _ _ _ _ _ us hl => match us, hl with | [_], _ => rfl
  have F_Versions_init := fun_mk (st := s_Versions_init) l_Versions_init c_Versions_init k_Versions_init
  have B_Versions_init := F_Versions_init.binds (ps := ["self", "row"]) fun _ _ _ _ _ _ us hl => match us, hl with | [_, _], _ => rfl
  have F__law_made := fun_mk (st := s__law_made) l__law_made c__law_made k__law_made
  have B__law_made := F__law_made.binds (ps := ["row", "by_name"]) fun _ _ _ _ _ _ us hl => match us, hl with | [_, _], _ => rfl
  have F__law_number := fun_mk (st := s__law_number) l__law_number c__law_number k__law_number
  have B__law_number := F__law_number.binds (ps := ["box"]) fun _ _ _ _ _ _ us hl => match us, hl with | [_], _ => rfl
  have F__law_mixed := fun_mk (st := s__law_mixed) l__law_mixed c__law_mixed k__law_mixed
  have B__law_mixed := F__law_mixed.binds (ps := ["box", "items"]) fun _ _ _ _ _ _ us hl => match us, hl with | [_, _], _ => rfl
  have F__law_refused_right := fun_mk (st := s__law_refused_right) l__law_refused_right c__law_refused_right k__law_refused_right
  have B__law_refused_right := F__law_refused_right.binds (ps := ["box", "kept", "rows", "by_name"]) fun _ _ _ _ _ _ us hl => match us, hl with | [_, _, _, _], _ => rfl
  have F__law_life_right := fun_mk (st := s__law_life_right) l__law_life_right c__law_life_right k__law_life_right
  have B__law_life_right := F__law_life_right.binds (ps := ["box", "row", "steps", "by_name"]) fun _ _ _ _ _ _ us hl => match us, hl with | [_, _, _, _], _ => rfl
  have F_law := fun_mk (st := s_law) l_law c_law k_law
  have B_law := F_law.binds (ps := ["script"]) fun _ _ _ _ _ _ us hl => match us, hl with | [_], _ => rfl
  have Fi_InvalidIndex := fun_mk (st := si_InvalidIndex) li_InvalidIndex ci_InvalidIndex ki_InvalidIndex
  have Bi_InvalidIndex := Fi_InvalidIndex.binds (ps := ["self", "given"]) fun _ _ _ _ _ _ us hl => match us, hl with | [_, _], _ => rfl
  have X_InvalidIndex : ErrX K E_InvalidIndex "given" := ⟨⟨ga_InvalidIndex, gg_InvalidIndex, xe_InvalidIndex, xd_InvalidIndex⟩, xn_InvalidIndex, xc_InvalidIndex, gn, gt, xm_InvalidIndex⟩
  have M_InvalidIndex := PySem.W.mg_of X G a_InvalidIndex
  have R_InvalidIndex : ∀ base : Heap, Err l.prog w K mg base "InvalidIndex" "given" := err_mk M_InvalidIndex x_InvalidIndex rfl xs_InvalidIndex xe_InvalidIndex xt_InvalidIndex xk_InvalidIndex xn_InvalidIndex xi_InvalidIndex xf_InvalidIndex Fi_InvalidIndex sci_InvalidIndex ⟨_, _, _, _, rfl⟩ (by decide) (by decide) rfl rfl Bi_InvalidIndex
  have Fi_InvalidNumber := fun_mk (st := si_InvalidNumber) li_InvalidNumber ci_InvalidNumber ki_InvalidNumber
  have Bi_InvalidNumber := Fi_InvalidNumber.binds (ps := ["self", "given"]) fun _ _ _ _ _ _ us hl => match us, hl with | [_, _], _ => rfl
  have X_InvalidNumber : ErrX K E_InvalidNumber "given" := ⟨⟨ga_InvalidNumber, gg_InvalidNumber, xe_InvalidNumber, xd_InvalidNumber⟩, xn_InvalidNumber, xc_InvalidNumber, gn, gt, xm_InvalidNumber⟩
  have M_InvalidNumber := PySem.W.mg_of X G a_InvalidNumber
  have R_InvalidNumber : ∀ base : Heap, Err l.prog w K mg base "InvalidNumber" "given" := err_mk M_InvalidNumber x_InvalidNumber rfl xs_InvalidNumber xe_InvalidNumber xt_InvalidNumber xk_InvalidNumber xn_InvalidNumber xi_InvalidNumber xf_InvalidNumber Fi_InvalidNumber sci_InvalidNumber ⟨_, _, _, _, rfl⟩ (by decide) (by decide) rfl rfl Bi_InvalidNumber
  have Fi_InvalidRange := fun_mk (st := si_InvalidRange) li_InvalidRange ci_InvalidRange ki_InvalidRange
  have Bi_InvalidRange := Fi_InvalidRange.binds (ps := ["self", "given"]) fun _ _ _ _ _ _ us hl => match us, hl with | [_, _], _ => rfl
  have X_InvalidRange : ErrX K E_InvalidRange "given" := ⟨⟨ga_InvalidRange, gg_InvalidRange, xe_InvalidRange, xd_InvalidRange⟩, xn_InvalidRange, xc_InvalidRange, gn, gt, xm_InvalidRange⟩
  have M_InvalidRange := PySem.W.mg_of X G a_InvalidRange
  have R_InvalidRange : ∀ base : Heap, Err l.prog w K mg base "InvalidRange" "given" := err_mk M_InvalidRange x_InvalidRange rfl xs_InvalidRange xe_InvalidRange xt_InvalidRange xk_InvalidRange xn_InvalidRange xi_InvalidRange xf_InvalidRange Fi_InvalidRange sci_InvalidRange ⟨_, _, _, _, rfl⟩ (by decide) (by decide) rfl rfl Bi_InvalidRange
  have Fi_InvalidRow := fun_mk (st := si_InvalidRow) li_InvalidRow ci_InvalidRow ki_InvalidRow
  have Bi_InvalidRow := Fi_InvalidRow.binds (ps := ["self", "given"]) fun _ _ _ _ _ _ us hl => match us, hl with | [_, _], _ => rfl
  have X_InvalidRow : ErrX K E_InvalidRow "given" := ⟨⟨ga_InvalidRow, gg_InvalidRow, xe_InvalidRow, xd_InvalidRow⟩, xn_InvalidRow, xc_InvalidRow, gn, gt, xm_InvalidRow⟩
  have M_InvalidRow := PySem.W.mg_of X G a_InvalidRow
  have R_InvalidRow : ∀ base : Heap, Err l.prog w K mg base "InvalidRow" "given" := err_mk M_InvalidRow x_InvalidRow rfl xs_InvalidRow xe_InvalidRow xt_InvalidRow xk_InvalidRow xn_InvalidRow xi_InvalidRow xf_InvalidRow Fi_InvalidRow sci_InvalidRow ⟨_, _, _, _, rfl⟩ (by decide) (by decide) rfl rfl Bi_InvalidRow
  have Fi_InvalidVersion := fun_mk (st := si_InvalidVersion) li_InvalidVersion ci_InvalidVersion ki_InvalidVersion
  have Bi_InvalidVersion := Fi_InvalidVersion.binds (ps := ["self", "given"]) fun _ _ _ _ _ _ us hl => match us, hl with | [_, _], _ => rfl
  have X_InvalidVersion : ErrX K E_InvalidVersion "given" := ⟨⟨ga_InvalidVersion, gg_InvalidVersion, xe_InvalidVersion, xd_InvalidVersion⟩, xn_InvalidVersion, xc_InvalidVersion, gn, gt, xm_InvalidVersion⟩
  have M_InvalidVersion := PySem.W.mg_of X G a_InvalidVersion
  have R_InvalidVersion : ∀ base : Heap, Err l.prog w K mg base "InvalidVersion" "given" := err_mk M_InvalidVersion x_InvalidVersion rfl xs_InvalidVersion xe_InvalidVersion xt_InvalidVersion xk_InvalidVersion xn_InvalidVersion xi_InvalidVersion xf_InvalidVersion Fi_InvalidVersion sci_InvalidVersion ⟨_, _, _, _, rfl⟩ (by decide) (by decide) rfl rfl Bi_InvalidVersion
  have Fi_TooMany := fun_mk (st := si_TooMany) li_TooMany ci_TooMany ki_TooMany
  have Bi_TooMany := Fi_TooMany.binds (ps := ["self", "count"]) fun _ _ _ _ _ _ us hl => match us, hl with | [_, _], _ => rfl
  have X_TooMany : ErrX K E_TooMany "count" := ⟨⟨ga_TooMany, gg_TooMany, xe_TooMany, xd_TooMany⟩, xn_TooMany, xc_TooMany, gn, gt, xm_TooMany⟩
  have M_TooMany := PySem.W.mg_of X G a_TooMany
  have R_TooMany : ∀ base : Heap, Err l.prog w K mg base "TooMany" "count" := err_mk M_TooMany x_TooMany rfl xs_TooMany xe_TooMany xt_TooMany xk_TooMany xn_TooMany xi_TooMany xf_TooMany Fi_TooMany sci_TooMany ⟨_, _, _, _, rfl⟩ (by decide) (by decide) rfl rfl Bi_TooMany
  let a : Ad := {
    f__law_box := f__law_box, d__law_box := (PySem.W.fnOf "_law_box" "_law_box" (defArgs s__law_box) (defBody s__law_box) (defScope s__law_box) .none kV__law_box dc__law_box pm__law_box an__law_box cd__law_box ct__law_box),
    f__law_cell := f__law_cell, d__law_cell := (PySem.W.fnOf "_law_cell" "_law_cell" (defArgs s__law_cell) (defBody s__law_cell) (defScope s__law_cell) .none kV__law_cell dc__law_cell pm__law_cell an__law_cell cd__law_cell ct__law_cell),
    f_Versions_nodes := f_Versions_nodes, d_Versions_nodes := (PySem.W.fnOf "nodes" "Versions.nodes" (defArgs s_Versions_nodes) (defBody s_Versions_nodes) (defScope s_Versions_nodes) .none kV_Versions_nodes dc_Versions_nodes pm_Versions_nodes an_Versions_nodes cd_Versions_nodes ct_Versions_nodes),
    f_is_integer := f_is_integer, d_is_integer := (PySem.W.fnOf "is_integer" "is_integer" (defArgs s_is_integer) (defBody s_is_integer) (defScope s_is_integer) .none kV_is_integer dc_is_integer pm_is_integer an_is_integer cd_is_integer ct_is_integer),
    f_is_between := f_is_between, d_is_between := (PySem.W.fnOf "is_between" "is_between" (defArgs s_is_between) (defBody s_is_between) (defScope s_is_between) .none kV_is_between dc_is_between pm_is_between an_is_between cd_is_between ct_is_between),
    f_Versions_check_version := f_Versions_check_version, d_Versions_check_version := (PySem.W.fnOf "check_version" "Versions.check_version" (defArgs s_Versions_check_version) (defBody s_Versions_check_version) (defScope s_Versions_check_version) .none kV_Versions_check_version dc_Versions_check_version pm_Versions_check_version an_Versions_check_version cd_Versions_check_version ct_Versions_check_version),
    f_Versions_keep := f_Versions_keep, d_Versions_keep := (PySem.W.fnOf "keep" "Versions.keep" (defArgs s_Versions_keep) (defBody s_Versions_keep) (defScope s_Versions_keep) .none kV_Versions_keep dc_Versions_keep pm_Versions_keep an_Versions_keep cd_Versions_keep ct_Versions_keep),
    f_Versions_way_to := f_Versions_way_to, d_Versions_way_to := (PySem.W.fnOf "way_to" "Versions.way_to" (defArgs s_Versions_way_to) (defBody s_Versions_way_to) (defScope s_Versions_way_to) .none kV_Versions_way_to dc_Versions_way_to pm_Versions_way_to an_Versions_way_to cd_Versions_way_to ct_Versions_way_to),
    f_Versions_change := f_Versions_change, d_Versions_change := (PySem.W.fnOf "change" "Versions.change" (defArgs s_Versions_change) (defBody s_Versions_change) (defScope s_Versions_change) .none kV_Versions_change dc_Versions_change pm_Versions_change an_Versions_change cd_Versions_change ct_Versions_change),
    f_Versions_parent := f_Versions_parent, d_Versions_parent := (PySem.W.fnOf "parent" "Versions.parent" (defArgs s_Versions_parent) (defBody s_Versions_parent) (defScope s_Versions_parent) .none kV_Versions_parent dc_Versions_parent pm_Versions_parent an_Versions_parent cd_Versions_parent ct_Versions_parent),
    f_Versions_items := f_Versions_items, d_Versions_items := (PySem.W.fnOf "items" "Versions.items" (defArgs s_Versions_items) (defBody s_Versions_items) (defScope s_Versions_items) .none kV_Versions_items dc_Versions_items pm_Versions_items an_Versions_items cd_Versions_items ct_Versions_items),
    f_Versions_row := f_Versions_row, d_Versions_row := (PySem.W.fnOf "row" "Versions.row" (defArgs s_Versions_row) (defBody s_Versions_row) (defScope s_Versions_row) .none kV_Versions_row dc_Versions_row pm_Versions_row an_Versions_row cd_Versions_row ct_Versions_row),
    f_check_range := f_check_range, d_check_range := (PySem.W.fnOf "check_range" "check_range" (defArgs s_check_range) (defBody s_check_range) (defScope s_check_range) .none kV_check_range dc_check_range pm_check_range an_check_range cd_check_range ct_check_range),
    f_Versions_total := f_Versions_total, d_Versions_total := (PySem.W.fnOf "total" "Versions.total" (defArgs s_Versions_total) (defBody s_Versions_total) (defScope s_Versions_total) .none kV_Versions_total dc_Versions_total pm_Versions_total an_Versions_total cd_Versions_total ct_Versions_total),
    f_Versions_unlike := f_Versions_unlike, d_Versions_unlike := (PySem.W.fnOf "unlike" "Versions.unlike" (defArgs s_Versions_unlike) (defBody s_Versions_unlike) (defScope s_Versions_unlike) .none kV_Versions_unlike dc_Versions_unlike pm_Versions_unlike an_Versions_unlike cd_Versions_unlike ct_Versions_unlike),
    f__law_asked := f__law_asked, d__law_asked := (PySem.W.fnOf "_law_asked" "_law_asked" (defArgs s__law_asked) (defBody s__law_asked) (defScope s__law_asked) .none kV__law_asked dc__law_asked pm__law_asked an__law_asked cd__law_asked ct__law_asked),
    f__law_same := f__law_same, d__law_same := (PySem.W.fnOf "_law_same" "_law_same" (defArgs s__law_same) (defBody s__law_same) (defScope s__law_same) .none kV__law_same dc__law_same pm__law_same an__law_same cd__law_same ct__law_same),
    f__law_take := f__law_take, d__law_take := (PySem.W.fnOf "_law_take" "_law_take" (defArgs s__law_take) (defBody s__law_take) (defScope s__law_take) .none kV__law_take dc__law_take pm__law_take an__law_take cd__law_take ct__law_take),
    f__law_all_right := f__law_all_right, d__law_all_right := (PySem.W.fnOf "_law_all_right" "_law_all_right" (defArgs s__law_all_right) (defBody s__law_all_right) (defScope s__law_all_right) .none kV__law_all_right dc__law_all_right pm__law_all_right an__law_all_right cd__law_all_right ct__law_all_right),
    f__law_digits := f__law_digits, d__law_digits := (PySem.W.fnOf "_law_digits" "_law_digits" (defArgs s__law_digits) (defBody s__law_digits) (defScope s__law_digits) .none kV__law_digits dc__law_digits pm__law_digits an__law_digits cd__law_digits ct__law_digits),
    f_Versions_grow := f_Versions_grow, d_Versions_grow := (PySem.W.fnOf "grow" "Versions.grow" (defArgs s_Versions_grow) (defBody s_Versions_grow) (defScope s_Versions_grow) .none kV_Versions_grow dc_Versions_grow pm_Versions_grow an_Versions_grow cd_Versions_grow ct_Versions_grow),
    f_check_row := f_check_row, d_check_row := (PySem.W.fnOf "check_row" "check_row" (defArgs s_check_row) (defBody s_check_row) (defScope s_check_row) .none kV_check_row dc_check_row pm_check_row an_check_row cd_check_row ct_check_row),
    f_Versions_init := f_Versions_init, d_Versions_init := (PySem.W.fnOf "__init__" "Versions.__init__" (defArgs s_Versions_init) (defBody s_Versions_init) (defScope s_Versions_init) .none kV_Versions_init dc_Versions_init pm_Versions_init an_Versions_init cd_Versions_init ct_Versions_init),
    f__law_made := f__law_made, d__law_made := (PySem.W.fnOf "_law_made" "_law_made" (defArgs s__law_made) (defBody s__law_made) (defScope s__law_made) .none kV__law_made dc__law_made pm__law_made an__law_made cd__law_made ct__law_made),
    f__law_number := f__law_number, d__law_number := (PySem.W.fnOf "_law_number" "_law_number" (defArgs s__law_number) (defBody s__law_number) (defScope s__law_number) .none kV__law_number dc__law_number pm__law_number an__law_number cd__law_number ct__law_number),
    f__law_mixed := f__law_mixed, d__law_mixed := (PySem.W.fnOf "_law_mixed" "_law_mixed" (defArgs s__law_mixed) (defBody s__law_mixed) (defScope s__law_mixed) .none kV__law_mixed dc__law_mixed pm__law_mixed an__law_mixed cd__law_mixed ct__law_mixed),
    f__law_refused_right := f__law_refused_right, d__law_refused_right := (PySem.W.fnOf "_law_refused_right" "_law_refused_right" (defArgs s__law_refused_right) (defBody s__law_refused_right) (defScope s__law_refused_right) .none kV__law_refused_right dc__law_refused_right pm__law_refused_right an__law_refused_right cd__law_refused_right ct__law_refused_right),
    f__law_life_right := f__law_life_right, d__law_life_right := (PySem.W.fnOf "_law_life_right" "_law_life_right" (defArgs s__law_life_right) (defBody s__law_life_right) (defScope s__law_life_right) .none kV__law_life_right dc__law_life_right pm__law_life_right an__law_life_right cd__law_life_right ct__law_life_right),
    f_law := fa, d_law := (PySem.W.fnOf "law" "law" (defArgs s_law) (defBody s_law) (defScope s_law) .none kV_law dc_law pm_law an_law cd_law ct_law),
    C_Versions := C_Versions }
  have T : ∀ base : Heap, Tx l.prog w K mg base a := fun base => {
    fn__law_box := F__law_box
    d__law_box := ⟨PySem.W.mg_of X G a__law_box, k__law_box, B__law_box⟩
    fn__law_cell := F__law_cell
    d__law_cell := ⟨PySem.W.mg_of X G a__law_cell, k__law_cell, B__law_cell⟩
    fn_Versions_nodes := F_Versions_nodes
    b_Versions_nodes := B_Versions_nodes
    me_Versions_nodes := ⟨a_Versions_nodes, i_Versions_nodes, k_Versions_nodes⟩
    fn_is_integer := F_is_integer
    d_is_integer := ⟨PySem.W.mg_of X G a_is_integer, k_is_integer, B_is_integer⟩
    fn_is_between := F_is_between
    d_is_between := ⟨PySem.W.mg_of X G a_is_between, k_is_between, B_is_between⟩
    fn_Versions_check_version := F_Versions_check_version
    b_Versions_check_version := B_Versions_check_version
    me_Versions_check_version := ⟨a_Versions_check_version, i_Versions_check_version, k_Versions_check_version⟩
    fn_Versions_keep := F_Versions_keep
    b_Versions_keep := B_Versions_keep
    me_Versions_keep := ⟨a_Versions_keep, i_Versions_keep, k_Versions_keep⟩
    fn_Versions_way_to := F_Versions_way_to
    b_Versions_way_to := B_Versions_way_to
    me_Versions_way_to := ⟨a_Versions_way_to, i_Versions_way_to, k_Versions_way_to⟩
    fn_Versions_change := F_Versions_change
    b_Versions_change := B_Versions_change
    me_Versions_change := ⟨a_Versions_change, i_Versions_change, k_Versions_change⟩
    fn_Versions_parent := F_Versions_parent
    b_Versions_parent := B_Versions_parent
    me_Versions_parent := ⟨a_Versions_parent, i_Versions_parent, k_Versions_parent⟩
    fn_Versions_items := F_Versions_items
    b_Versions_items := B_Versions_items
    me_Versions_items := ⟨a_Versions_items, i_Versions_items, k_Versions_items⟩
    fn_Versions_row := F_Versions_row
    b_Versions_row := B_Versions_row
    me_Versions_row := ⟨a_Versions_row, i_Versions_row, k_Versions_row⟩
    fn_check_range := F_check_range
    d_check_range := ⟨PySem.W.mg_of X G a_check_range, k_check_range, B_check_range⟩
    fn_Versions_total := F_Versions_total
    b_Versions_total := B_Versions_total
    me_Versions_total := ⟨a_Versions_total, i_Versions_total, k_Versions_total⟩
    fn_Versions_unlike := F_Versions_unlike
    b_Versions_unlike := B_Versions_unlike
    me_Versions_unlike := ⟨a_Versions_unlike, i_Versions_unlike, k_Versions_unlike⟩
    fn__law_asked := F__law_asked
    d__law_asked := ⟨PySem.W.mg_of X G a__law_asked, k__law_asked, B__law_asked⟩
    fn__law_same := F__law_same
    d__law_same := ⟨PySem.W.mg_of X G a__law_same, k__law_same, B__law_same⟩
    fn__law_take := F__law_take
    d__law_take := ⟨PySem.W.mg_of X G a__law_take, k__law_take, B__law_take⟩
    fn__law_all_right := F__law_all_right
    d__law_all_right := ⟨PySem.W.mg_of X G a__law_all_right, k__law_all_right, B__law_all_right⟩
    fn__law_digits := F__law_digits
    d__law_digits := ⟨PySem.W.mg_of X G a__law_digits, k__law_digits, B__law_digits⟩
    fn_Versions_grow := F_Versions_grow
    b_Versions_grow := B_Versions_grow
    me_Versions_grow := ⟨a_Versions_grow, i_Versions_grow, k_Versions_grow⟩
    fn_check_row := F_check_row
    d_check_row := ⟨PySem.W.mg_of X G a_check_row, k_check_row, B_check_row⟩
    fn_Versions_init := F_Versions_init
    b_Versions_init := B_Versions_init
    mk_Versions := ⟨mkc_Versions, a_Versions_init, i_Versions_init, kc_Versions⟩
    fn__law_made := F__law_made
    d__law_made := ⟨PySem.W.mg_of X G a__law_made, k__law_made, B__law_made⟩
    fn__law_number := F__law_number
    d__law_number := ⟨PySem.W.mg_of X G a__law_number, k__law_number, B__law_number⟩
    fn__law_mixed := F__law_mixed
    d__law_mixed := ⟨PySem.W.mg_of X G a__law_mixed, k__law_mixed, B__law_mixed⟩
    fn__law_refused_right := F__law_refused_right
    d__law_refused_right := ⟨PySem.W.mg_of X G a__law_refused_right, k__law_refused_right, B__law_refused_right⟩
    fn__law_life_right := F__law_life_right
    d__law_life_right := ⟨PySem.W.mg_of X G a__law_life_right, k__law_life_right, B__law_life_right⟩
    fn_law := F_law
    d_law := ⟨PySem.W.mg_of X G a_law, k_law, B_law⟩
    kw_Versions_change_number_index_version := kwb_mk F_Versions_change fun _ _ _ _ _ _ us ws h1 h2 => match us, ws, h1, h2 with | [_], [_, _, _], _, _ => rfl
    kw_Versions_init_row := kwb_mk F_Versions_init fun _ _ _ _ _ _ us ws h1 h2 => match us, ws, h1, h2 with | [_], [_], _, _ => rfl
    kw_Versions_parent_version := kwb_mk F_Versions_parent fun _ _ _ _ _ _ us ws h1 h2 => match us, ws, h1, h2 with | [_], [_], _, _ => rfl
    kw_Versions_row_version := kwb_mk F_Versions_row fun _ _ _ _ _ _ us ws h1 h2 => match us, ws, h1, h2 with | [_], [_], _, _ => rfl
    kw_Versions_total_high_low_version := kwb_mk F_Versions_total fun _ _ _ _ _ _ us ws h1 h2 => match us, ws, h1, h2 with | [_], [_, _, _], _, _ => rfl
    kw_Versions_unlike_other_one := kwb_mk F_Versions_unlike fun _ _ _ _ _ _ us ws h1 h2 => match us, ws, h1, h2 with | [_], [_, _], _, _ => rfl
    cl_Versions := ⟨pg_Versions, hd_Versions, po_Versions, sa_Versions⟩
    g_Versions := PySem.W.mg_of X G aC_Versions
    na_kept := na_kept
    na_parents := na_parents
    na_size := na_size
    na_tops := na_tops
    n_abs := PySem.W.mg_none_of X G n_abs
    n_all := PySem.W.mg_none_of X G n_all
    n_bool := PySem.W.mg_none_of X G n_bool
    n_dict := PySem.W.mg_none_of X G n_dict
    n_int := PySem.W.mg_none_of X G n_int
    n_isinstance := PySem.W.mg_none_of X G n_isinstance
    n_len := PySem.W.mg_none_of X G n_len
    n_list := PySem.W.mg_none_of X G n_list
    n_max := PySem.W.mg_none_of X G n_max
    n_min := PySem.W.mg_none_of X G n_min
    n_range := PySem.W.mg_none_of X G n_range
    n_sorted := PySem.W.mg_none_of X G n_sorted
    n_str := PySem.W.mg_none_of X G n_str
    n_sum := PySem.W.mg_none_of X G n_sum
    n_tuple := PySem.W.mg_none_of X G n_tuple
    c_MOST_ROW := ⟨_, PySem.W.mg_of X G a_MOST_ROW, r_MOST_ROW⟩
    c_MOST_VERSIONS := ⟨_, PySem.W.mg_of X G a_MOST_VERSIONS, r_MOST_VERSIONS⟩
    e_InvalidIndex := R_InvalidIndex base
    e_InvalidNumber := R_InvalidNumber base
    e_InvalidRange := R_InvalidRange base
    e_InvalidRow := R_InvalidRow base
    e_InvalidVersion := R_InvalidVersion base
    e_TooMany := R_TooMany base
    hv_InvalidIndex := ⟨_, M_InvalidIndex, X_InvalidIndex⟩
    hv_InvalidNumber := ⟨_, M_InvalidNumber, X_InvalidNumber⟩
    hv_InvalidRange := ⟨_, M_InvalidRange, X_InvalidRange⟩
    hv_InvalidRow := ⟨_, M_InvalidRow, X_InvalidRow⟩
    hv_InvalidVersion := ⟨_, M_InvalidVersion, X_InvalidVersion⟩
    hv_TooMany := ⟨_, M_TooMany, X_TooMany⟩
    su__law_asked := by
      intro x c hx hc
      rcases kn_cases__law_asked x hx with rfl | rfl | rfl | rfl | rfl
      · cases M_InvalidIndex.symm.trans hc
        intro y hy D hD
        rcases kn_cases__law_asked y hy with rfl | rfl | rfl | rfl | rfl
        · cases M_InvalidIndex.symm.trans hD; rw [show subE "InvalidIndex" "InvalidIndex" = true from by decide +kernel]; exact exm_mk xe_InvalidIndex xl_InvalidIndex xt_InvalidIndex xl_InvalidIndex xt_InvalidIndex ex_InvalidIndex_InvalidIndex
        · cases M_InvalidNumber.symm.trans hD; rw [show subE "InvalidNumber" "InvalidIndex" = false from by decide +kernel]; exact exm_mk xe_InvalidIndex xl_InvalidNumber xt_InvalidIndex xl_InvalidIndex xt_InvalidNumber ex_InvalidNumber_InvalidIndex
        · cases M_InvalidRange.symm.trans hD; rw [show subE "InvalidRange" "InvalidIndex" = false from by decide +kernel]; exact exm_mk xe_InvalidIndex xl_InvalidRange xt_InvalidIndex xl_InvalidIndex xt_InvalidRange ex_InvalidRange_InvalidIndex
        · cases M_InvalidVersion.symm.trans hD; rw [show subE "InvalidVersion" "InvalidIndex" = false from by decide +kernel]; exact exm_mk xe_InvalidIndex xl_InvalidVersion xt_InvalidIndex xl_InvalidIndex xt_InvalidVersion ex_InvalidVersion_InvalidIndex
        · cases M_TooMany.symm.trans hD; rw [show subE "TooMany" "InvalidIndex" = false from by decide +kernel]; exact exm_mk xe_InvalidIndex xl_TooMany xt_InvalidIndex xl_InvalidIndex xt_TooMany ex_TooMany_InvalidIndex
      · cases M_InvalidNumber.symm.trans hc
        intro y hy D hD
        rcases kn_cases__law_asked y hy with rfl | rfl | rfl | rfl | rfl
        · cases M_InvalidIndex.symm.trans hD; rw [show subE "InvalidIndex" "InvalidNumber" = false from by decide +kernel]; exact exm_mk xe_InvalidNumber xl_InvalidIndex xt_InvalidNumber xl_InvalidNumber xt_InvalidIndex ex_InvalidIndex_InvalidNumber
        · cases M_InvalidNumber.symm.trans hD; rw [show subE "InvalidNumber" "InvalidNumber" = true from by decide +kernel]; exact exm_mk xe_InvalidNumber xl_InvalidNumber xt_InvalidNumber xl_InvalidNumber xt_InvalidNumber ex_InvalidNumber_InvalidNumber
        · cases M_InvalidRange.symm.trans hD; rw [show subE "InvalidRange" "InvalidNumber" = false from by decide +kernel]; exact exm_mk xe_InvalidNumber xl_InvalidRange xt_InvalidNumber xl_InvalidNumber xt_InvalidRange ex_InvalidRange_InvalidNumber
        · cases M_InvalidVersion.symm.trans hD; rw [show subE "InvalidVersion" "InvalidNumber" = false from by decide +kernel]; exact exm_mk xe_InvalidNumber xl_InvalidVersion xt_InvalidNumber xl_InvalidNumber xt_InvalidVersion ex_InvalidVersion_InvalidNumber
        · cases M_TooMany.symm.trans hD; rw [show subE "TooMany" "InvalidNumber" = false from by decide +kernel]; exact exm_mk xe_InvalidNumber xl_TooMany xt_InvalidNumber xl_InvalidNumber xt_TooMany ex_TooMany_InvalidNumber
      · cases M_InvalidRange.symm.trans hc
        intro y hy D hD
        rcases kn_cases__law_asked y hy with rfl | rfl | rfl | rfl | rfl
        · cases M_InvalidIndex.symm.trans hD; rw [show subE "InvalidIndex" "InvalidRange" = false from by decide +kernel]; exact exm_mk xe_InvalidRange xl_InvalidIndex xt_InvalidRange xl_InvalidRange xt_InvalidIndex ex_InvalidIndex_InvalidRange
        · cases M_InvalidNumber.symm.trans hD; rw [show subE "InvalidNumber" "InvalidRange" = false from by decide +kernel]; exact exm_mk xe_InvalidRange xl_InvalidNumber xt_InvalidRange xl_InvalidRange xt_InvalidNumber ex_InvalidNumber_InvalidRange
        · cases M_InvalidRange.symm.trans hD; rw [show subE "InvalidRange" "InvalidRange" = true from by decide +kernel]; exact exm_mk xe_InvalidRange xl_InvalidRange xt_InvalidRange xl_InvalidRange xt_InvalidRange ex_InvalidRange_InvalidRange
        · cases M_InvalidVersion.symm.trans hD; rw [show subE "InvalidVersion" "InvalidRange" = false from by decide +kernel]; exact exm_mk xe_InvalidRange xl_InvalidVersion xt_InvalidRange xl_InvalidRange xt_InvalidVersion ex_InvalidVersion_InvalidRange
        · cases M_TooMany.symm.trans hD; rw [show subE "TooMany" "InvalidRange" = false from by decide +kernel]; exact exm_mk xe_InvalidRange xl_TooMany xt_InvalidRange xl_InvalidRange xt_TooMany ex_TooMany_InvalidRange
      · cases M_InvalidVersion.symm.trans hc
        intro y hy D hD
        rcases kn_cases__law_asked y hy with rfl | rfl | rfl | rfl | rfl
        · cases M_InvalidIndex.symm.trans hD; rw [show subE "InvalidIndex" "InvalidVersion" = false from by decide +kernel]; exact exm_mk xe_InvalidVersion xl_InvalidIndex xt_InvalidVersion xl_InvalidVersion xt_InvalidIndex ex_InvalidIndex_InvalidVersion
        · cases M_InvalidNumber.symm.trans hD; rw [show subE "InvalidNumber" "InvalidVersion" = false from by decide +kernel]; exact exm_mk xe_InvalidVersion xl_InvalidNumber xt_InvalidVersion xl_InvalidVersion xt_InvalidNumber ex_InvalidNumber_InvalidVersion
        · cases M_InvalidRange.symm.trans hD; rw [show subE "InvalidRange" "InvalidVersion" = false from by decide +kernel]; exact exm_mk xe_InvalidVersion xl_InvalidRange xt_InvalidVersion xl_InvalidVersion xt_InvalidRange ex_InvalidRange_InvalidVersion
        · cases M_InvalidVersion.symm.trans hD; rw [show subE "InvalidVersion" "InvalidVersion" = true from by decide +kernel]; exact exm_mk xe_InvalidVersion xl_InvalidVersion xt_InvalidVersion xl_InvalidVersion xt_InvalidVersion ex_InvalidVersion_InvalidVersion
        · cases M_TooMany.symm.trans hD; rw [show subE "TooMany" "InvalidVersion" = false from by decide +kernel]; exact exm_mk xe_InvalidVersion xl_TooMany xt_InvalidVersion xl_InvalidVersion xt_TooMany ex_TooMany_InvalidVersion
      · cases M_TooMany.symm.trans hc
        intro y hy D hD
        rcases kn_cases__law_asked y hy with rfl | rfl | rfl | rfl | rfl
        · cases M_InvalidIndex.symm.trans hD; rw [show subE "InvalidIndex" "TooMany" = false from by decide +kernel]; exact exm_mk xe_TooMany xl_InvalidIndex xt_TooMany xl_TooMany xt_InvalidIndex ex_InvalidIndex_TooMany
        · cases M_InvalidNumber.symm.trans hD; rw [show subE "InvalidNumber" "TooMany" = false from by decide +kernel]; exact exm_mk xe_TooMany xl_InvalidNumber xt_TooMany xl_TooMany xt_InvalidNumber ex_InvalidNumber_TooMany
        · cases M_InvalidRange.symm.trans hD; rw [show subE "InvalidRange" "TooMany" = false from by decide +kernel]; exact exm_mk xe_TooMany xl_InvalidRange xt_TooMany xl_TooMany xt_InvalidRange ex_InvalidRange_TooMany
        · cases M_InvalidVersion.symm.trans hD; rw [show subE "InvalidVersion" "TooMany" = false from by decide +kernel]; exact exm_mk xe_TooMany xl_InvalidVersion xt_TooMany xl_TooMany xt_InvalidVersion ex_InvalidVersion_TooMany
        · cases M_TooMany.symm.trans hD; rw [show subE "TooMany" "TooMany" = true from by decide +kernel]; exact exm_mk xe_TooMany xl_TooMany xt_TooMany xl_TooMany xt_TooMany ex_TooMany_TooMany
    su__law_made := by
      intro x c hx hc
      rcases kn_cases__law_made x hx with rfl
      · cases M_InvalidRow.symm.trans hc
        intro y hy D hD
        rcases kn_cases__law_made y hy with rfl
        · cases M_InvalidRow.symm.trans hD; rw [show subE "InvalidRow" "InvalidRow" = true from by decide +kernel]; exact exm_mk xe_InvalidRow xl_InvalidRow xt_InvalidRow xl_InvalidRow xt_InvalidRow ex_InvalidRow_InvalidRow }
  exact ⟨(PySem.W.fnOf "law" "law" (defArgs s_law) (defBody s_law) (defScope s_law) .none kV_law dc_law pm_law an_law cd_law ct_law), fun s v => .of_eq rfl, fun base _ _ => law_ok (ok_law (T base)) (hlaw _)⟩
theorem walk {l : PySem.W.OpenLaw} {q : Program} {loose : List Str} {XP : (Str → Option Value) → Heap → Prop} {YP : World → Heap → Prop} {d : DefRec} {K : Params → PySem.W.Frag} (hn : l.most = some 63) (hdf : d.params.defaults = [])
    (hY : ∀ (w : World) (h : Heap), YP w h → (K w.params).In h)
    (F : ∀ (w : World) (mg : Str → Option Value) (fa : Addr) (h : Heap), (K w.params).In h → h.Ns mainGlobals mg → mg d.name = some (.ref fa) →
      ∃ fd : FuncData, (∀ (s : Shared) (u : Value), BindsTo s fd ⟨[u], []⟩ [("script", u)]) ∧ ∀ base : Heap, (K w.params).In base → base.Ns mainGlobals mg → FnOk l.prog w (K w.params) mg base (L2.CX l.prog w) 14 fa fd ["script"] (spLaw (K w.params))) :
    PySem.W.WalkO q loose XP YP l.row.toRowW d [] (fun f vs => PySem.call f vs) :=
  L2.walk_of (n := 63) (k := 14) (x := "script") (CX := fun w => L2.CX l.prog w) (sp := fun w => spLaw (K w.params)) hn (by decide) hdf ⟨rfl, by decide, by decide⟩ hY F (fun _ _ a ns hl hO hS => ⟨a, ns, rfl, hl, hO, hS, fun _ => rfl⟩) (fun w H s e s' ⟨_, _, _, _, _, _, _, _, _, _, _, _, z⟩ => z)
end K80


open PySem PySem.W PyProof.Rows in
set_option maxRecDepth 100000 in
set_option maxHeartbeats 0 in
theorem PySem.Challenge.cw_treebench_k80_versions_of_rows_holds : PySem.Challenge.rw_treebench_k80_versions_of_rows.Holds := by
  w_on; o_law; k_head; (case hw => w_witness2)
  k_fill
  refine K80.walk (l := PySem.Challenge.rw_treebench_k80_versions_of_rows) rfl rfl (fun w h Y => PySem.W.kIn_of Y) ?F
  case F =>
    intro w mg fa h KX G hmg
    refine' K80.all_mk K80.law_is KX G hmg ?aC_Versions ?pg_Versions ?hd_Versions ?po_Versions ?sa_Versions ?mkc_Versions ?kc_Versions ?na_kept ?na_parents ?na_size ?na_tops ?a__law_box ?l__law_box ?c__law_box ?k__law_box ?a__law_cell ?l__law_cell ?c__law_cell ?k__law_cell ?a_Versions_nodes ?i_Versions_nodes ?l_Versions_nodes ?c_Versions_nodes ?k_Versions_nodes ?a_is_integer ?l_is_integer ?c_is_integer ?k_is_integer ?a_is_between ?l_is_between ?c_is_between ?k_is_between ?a_Versions_check_version ?i_Versions_check_version ?l_Versions_check_version ?c_Versions_check_version ?k_Versions_check_version ?a_Versions_keep ?i_Versions_keep ?l_Versions_keep ?c_Versions_keep ?k_Versions_keep ?a_Versions_way_to ?i_Versions_way_to ?l_Versions_way_to ?c_Versions_way_to ?k_Versions_way_to ?a_Versions_change ?i_Versions_change ?l_Versions_change ?c_Versions_change ?k_Versions_change ?a_Versions_parent ?i_Versions_parent ?l_Versions_parent ?c_Versions_parent ?k_Versions_parent ?a_Versions_items ?i_Versions_items ?l_Versions_items ?c_Versions_items ?k_Versions_items ?a_Versions_row ?i_Versions_row ?l_Versions_row ?c_Versions_row ?k_Versions_row ?a_check_range ?l_check_range ?c_check_range ?k_check_range ?a_Versions_total ?i_Versions_total ?l_Versions_total ?c_Versions_total ?k_Versions_total ?a_Versions_unlike ?i_Versions_unlike ?l_Versions_unlike ?c_Versions_unlike ?k_Versions_unlike ?a__law_asked ?l__law_asked ?c__law_asked ?k__law_asked ?a__law_same ?l__law_same ?c__law_same ?k__law_same ?a__law_take ?l__law_take ?c__law_take ?k__law_take ?a__law_all_right ?l__law_all_right ?c__law_all_right ?k__law_all_right ?a__law_digits ?l__law_digits ?c__law_digits ?k__law_digits ?a_Versions_grow ?i_Versions_grow ?l_Versions_grow ?c_Versions_grow ?k_Versions_grow ?a_check_row ?l_check_row ?c_check_row ?k_check_row ?a_Versions_init ?i_Versions_init ?l_Versions_init ?c_Versions_init ?k_Versions_init ?a__law_made ?l__law_made ?c__law_made ?k__law_made ?a__law_number ?l__law_number ?c__law_number ?k__law_number ?a__law_mixed ?l__law_mixed ?c__law_mixed ?k__law_mixed ?a__law_refused_right ?l__law_refused_right ?c__law_refused_right ?k__law_refused_right ?a__law_life_right ?l__law_life_right ?c__law_life_right ?k__law_life_right ?a_law ?l_law ?c_law ?k_law ?n_abs ?n_all ?n_bool ?n_dict ?n_int ?n_isinstance ?n_len ?n_list ?n_max ?n_min ?n_range ?n_sorted ?n_str ?n_sum ?n_tuple ?a_MOST_ROW ?r_MOST_ROW ?a_MOST_VERSIONS ?r_MOST_VERSIONS ?a_InvalidIndex ?x_InvalidIndex ?xs_InvalidIndex ?xe_InvalidIndex ?xt_InvalidIndex ?xk_InvalidIndex ?xn_InvalidIndex ?xi_InvalidIndex ?xf_InvalidIndex ?li_InvalidIndex ?ci_InvalidIndex ?ki_InvalidIndex ?ga_InvalidIndex ?gg_InvalidIndex ?xd_InvalidIndex ?xc_InvalidIndex ?xm_InvalidIndex ?a_InvalidNumber ?x_InvalidNumber ?xs_InvalidNumber ?xe_InvalidNumber ?xt_InvalidNumber ?xk_InvalidNumber ?xn_InvalidNumber ?xi_InvalidNumber ?xf_InvalidNumber ?li_InvalidNumber ?ci_InvalidNumber ?ki_InvalidNumber ?ga_InvalidNumber ?gg_InvalidNumber ?xd_InvalidNumber ?xc_InvalidNumber ?xm_InvalidNumber ?a_InvalidRange ?x_InvalidRange ?xs_InvalidRange ?xe_InvalidRange ?xt_InvalidRange ?xk_InvalidRange ?xn_InvalidRange ?xi_InvalidRange ?xf_InvalidRange ?li_InvalidRange ?ci_InvalidRange ?ki_InvalidRange ?ga_InvalidRange ?gg_InvalidRange ?xd_InvalidRange ?xc_InvalidRange ?xm_InvalidRange ?a_InvalidRow ?x_InvalidRow ?xs_InvalidRow ?xe_InvalidRow ?xt_InvalidRow ?xk_InvalidRow ?xn_InvalidRow ?xi_InvalidRow ?xf_InvalidRow ?li_InvalidRow ?ci_InvalidRow ?ki_InvalidRow ?ga_InvalidRow ?gg_InvalidRow ?xd_InvalidRow ?xc_InvalidRow ?xm_InvalidRow ?a_InvalidVersion ?x_InvalidVersion ?xs_InvalidVersion ?xe_InvalidVersion ?xt_InvalidVersion ?xk_InvalidVersion ?xn_InvalidVersion ?xi_InvalidVersion ?xf_InvalidVersion ?li_InvalidVersion ?ci_InvalidVersion ?ki_InvalidVersion ?ga_InvalidVersion ?gg_InvalidVersion ?xd_InvalidVersion ?xc_InvalidVersion ?xm_InvalidVersion ?a_TooMany ?x_TooMany ?xs_TooMany ?xe_TooMany ?xt_TooMany ?xk_TooMany ?xn_TooMany ?xi_TooMany ?xf_TooMany ?li_TooMany ?ci_TooMany ?ki_TooMany ?ga_TooMany ?gg_TooMany ?xd_TooMany ?xc_TooMany ?xm_TooMany ?gn ?gt ?ex_InvalidIndex_InvalidIndex ?xl_InvalidIndex ?ex_InvalidIndex_InvalidNumber ?ex_InvalidIndex_InvalidRange ?ex_InvalidIndex_InvalidVersion ?ex_InvalidIndex_TooMany ?ex_InvalidNumber_InvalidIndex ?xl_InvalidNumber ?ex_InvalidNumber_InvalidNumber ?ex_InvalidNumber_InvalidRange ?ex_InvalidNumber_InvalidVersion ?ex_InvalidNumber_TooMany ?ex_InvalidRange_InvalidIndex ?xl_InvalidRange ?ex_InvalidRange_InvalidNumber ?ex_InvalidRange_InvalidRange ?ex_InvalidRange_InvalidVersion ?ex_InvalidRange_TooMany ?ex_InvalidVersion_InvalidIndex ?xl_InvalidVersion ?ex_InvalidVersion_InvalidNumber ?ex_InvalidVersion_InvalidRange ?ex_InvalidVersion_InvalidVersion ?ex_InvalidVersion_TooMany ?ex_TooMany_InvalidIndex ?xl_TooMany ?ex_TooMany_InvalidNumber ?ex_TooMany_InvalidRange ?ex_TooMany_InvalidVersion ?ex_TooMany_TooMany ?ex_InvalidRow_InvalidRow ?xl_InvalidRow
    (case aC_Versions => k_is)
    (case pg_Versions => k_is)
    (case hd_Versions => k_is)
    (case po_Versions => k_is)
    (case sa_Versions => k_is)
    (case mkc_Versions => k_is)
    (case kc_Versions => k_is)
    (case na_kept => k_is)
    (case na_parents => k_is)
    (case na_size => k_is)
    (case na_tops => k_is)
    (case a__law_box => k_is)
    (case l__law_box => k_is)
    (case c__law_box => k_is)
    (case k__law_box => k_is)
    (case a__law_cell => k_is)
    (case l__law_cell => k_is)
    (case c__law_cell => k_is)
    (case k__law_cell => k_is)
    (case a_Versions_nodes => k_is)
    (case i_Versions_nodes => k_is)
    (case l_Versions_nodes => k_is)
    (case c_Versions_nodes => k_is)
    (case k_Versions_nodes => k_is)
    (case a_is_integer => k_is)
    (case l_is_integer => k_is)
    (case c_is_integer => k_is)
    (case k_is_integer => k_is)
    (case a_is_between => k_is)
    (case l_is_between => k_is)
    (case c_is_between => k_is)
    (case k_is_between => k_is)
    (case a_Versions_check_version => k_is)
    (case i_Versions_check_version => k_is)
    (case l_Versions_check_version => k_is)
    (case c_Versions_check_version => k_is)
    (case k_Versions_check_version => k_is)
    (case a_Versions_keep => k_is)
    (case i_Versions_keep => k_is)
    (case l_Versions_keep => k_is)
    (case c_Versions_keep => k_is)
    (case k_Versions_keep => k_is)
    (case a_Versions_way_to => k_is)
    (case i_Versions_way_to => k_is)
    (case l_Versions_way_to => k_is)
    (case c_Versions_way_to => k_is)
    (case k_Versions_way_to => k_is)
    (case a_Versions_change => k_is)
    (case i_Versions_change => k_is)
    (case l_Versions_change => k_is)
    (case c_Versions_change => k_is)
    (case k_Versions_change => k_is)
    (case a_Versions_parent => k_is)
    (case i_Versions_parent => k_is)
    (case l_Versions_parent => k_is)
    (case c_Versions_parent => k_is)
    (case k_Versions_parent => k_is)
    (case a_Versions_items => k_is)
    (case i_Versions_items => k_is)
    (case l_Versions_items => k_is)
    (case c_Versions_items => k_is)
    (case k_Versions_items => k_is)
    (case a_Versions_row => k_is)
    (case i_Versions_row => k_is)
    (case l_Versions_row => k_is)
    (case c_Versions_row => k_is)
    (case k_Versions_row => k_is)
    (case a_check_range => k_is)
    (case l_check_range => k_is)
    (case c_check_range => k_is)
    (case k_check_range => k_is)
    (case a_Versions_total => k_is)
    (case i_Versions_total => k_is)
    (case l_Versions_total => k_is)
    (case c_Versions_total => k_is)
    (case k_Versions_total => k_is)
    (case a_Versions_unlike => k_is)
    (case i_Versions_unlike => k_is)
    (case l_Versions_unlike => k_is)
    (case c_Versions_unlike => k_is)
    (case k_Versions_unlike => k_is)
    (case a__law_asked => k_is)
    (case l__law_asked => k_is)
    (case c__law_asked => k_is)
    (case k__law_asked => k_is)
    (case a__law_same => k_is)
    (case l__law_same => k_is)
    (case c__law_same => k_is)
    (case k__law_same => k_is)
    (case a__law_take => k_is)
    (case l__law_take => k_is)
    (case c__law_take => k_is)
    (case k__law_take => k_is)
    (case a__law_all_right => k_is)
    (case l__law_all_right => k_is)
    (case c__law_all_right => k_is)
    (case k__law_all_right => k_is)
    (case a__law_digits => k_is)
    (case l__law_digits => k_is)
    (case c__law_digits => k_is)
    (case k__law_digits => k_is)
    (case a_Versions_grow => k_is)
    (case i_Versions_grow => k_is)
    (case l_Versions_grow => k_is)
    (case c_Versions_grow => k_is)
    (case k_Versions_grow => k_is)
    (case a_check_row => k_is)
    (case l_check_row => k_is)
    (case c_check_row => k_is)
    (case k_check_row => k_is)
    (case a_Versions_init => k_is)
    (case i_Versions_init => k_is)
    (case l_Versions_init => k_is)
    (case c_Versions_init => k_is)
    (case k_Versions_init => k_is)
    (case a__law_made => k_is)
    (case l__law_made => k_is)
    (case c__law_made => k_is)
    (case k__law_made => k_is)
    (case a__law_number => k_is)
    (case l__law_number => k_is)
    (case c__law_number => k_is)
    (case k__law_number => k_is)
    (case a__law_mixed => k_is)
    (case l__law_mixed => k_is)
    (case c__law_mixed => k_is)
    (case k__law_mixed => k_is)
    (case a__law_refused_right => k_is)
    (case l__law_refused_right => k_is)
    (case c__law_refused_right => k_is)
    (case k__law_refused_right => k_is)
    (case a__law_life_right => k_is)
    (case l__law_life_right => k_is)
    (case c__law_life_right => k_is)
    (case k__law_life_right => k_is)
    (case a_law => k_is)
    (case l_law => k_is)
    (case c_law => k_is)
    (case k_law => k_is)
    (case n_abs => k_is)
    (case n_all => k_is)
    (case n_bool => k_is)
    (case n_dict => k_is)
    (case n_int => k_is)
    (case n_isinstance => k_is)
    (case n_len => k_is)
    (case n_list => k_is)
    (case n_max => k_is)
    (case n_min => k_is)
    (case n_range => k_is)
    (case n_sorted => k_is)
    (case n_str => k_is)
    (case n_sum => k_is)
    (case n_tuple => k_is)
    (case a_MOST_ROW => k_is)
    (case r_MOST_ROW => exact ⟨_, rfl⟩)
    (case a_MOST_VERSIONS => k_is)
    (case r_MOST_VERSIONS => exact ⟨_, rfl⟩)
    (case a_InvalidIndex => k_is)
    (case x_InvalidIndex => k_is)
    (case xs_InvalidIndex => k_is)
    (case xe_InvalidIndex => k_is)
    (case xt_InvalidIndex => k_is)
    (case xk_InvalidIndex => k_is)
    (case xn_InvalidIndex => k_is)
    (case xi_InvalidIndex => k_is)
    (case xf_InvalidIndex => k_is)
    (case li_InvalidIndex => k_is)
    (case ci_InvalidIndex => k_is)
    (case ki_InvalidIndex => k_is)
    (case ga_InvalidIndex => k_is)
    (case gg_InvalidIndex => k_is)
    (case xd_InvalidIndex => k_is)
    (case xc_InvalidIndex => k_is)
    (case xm_InvalidIndex => k_is)
    (case a_InvalidNumber => k_is)
    (case x_InvalidNumber => k_is)
    (case xs_InvalidNumber => k_is)
    (case xe_InvalidNumber => k_is)
    (case xt_InvalidNumber => k_is)
    (case xk_InvalidNumber => k_is)
    (case xn_InvalidNumber => k_is)
    (case xi_InvalidNumber => k_is)
    (case xf_InvalidNumber => k_is)
    (case li_InvalidNumber => k_is)
    (case ci_InvalidNumber => k_is)
    (case ki_InvalidNumber => k_is)
    (case ga_InvalidNumber => k_is)
    (case gg_InvalidNumber => k_is)
    (case xd_InvalidNumber => k_is)
    (case xc_InvalidNumber => k_is)
    (case xm_InvalidNumber => k_is)
    (case a_InvalidRange => k_is)
    (case x_InvalidRange => k_is)
    (case xs_InvalidRange => k_is)
    (case xe_InvalidRange => k_is)
    (case xt_InvalidRange => k_is)
    (case xk_InvalidRange => k_is)
    (case xn_InvalidRange => k_is)
    (case xi_InvalidRange => k_is)
    (case xf_InvalidRange => k_is)
    (case li_InvalidRange => k_is)
    (case ci_InvalidRange => k_is)
    (case ki_InvalidRange => k_is)
    (case ga_InvalidRange => k_is)
    (case gg_InvalidRange => k_is)
    (case xd_InvalidRange => k_is)
    (case xc_InvalidRange => k_is)
    (case xm_InvalidRange => k_is)
    (case a_InvalidRow => k_is)
    (case x_InvalidRow => k_is)
    (case xs_InvalidRow => k_is)
    (case xe_InvalidRow => k_is)
    (case xt_InvalidRow => k_is)
    (case xk_InvalidRow => k_is)
    (case xn_InvalidRow => k_is)
    (case xi_InvalidRow => k_is)
    (case xf_InvalidRow => k_is)
    (case li_InvalidRow => k_is)
    (case ci_InvalidRow => k_is)
    (case ki_InvalidRow => k_is)
    (case ga_InvalidRow => k_is)
    (case gg_InvalidRow => k_is)
    (case xd_InvalidRow => k_is)
    (case xc_InvalidRow => k_is)
    (case xm_InvalidRow => k_is)
    (case a_InvalidVersion => k_is)
    (case x_InvalidVersion => k_is)
    (case xs_InvalidVersion => k_is)
    (case xe_InvalidVersion => k_is)
    (case xt_InvalidVersion => k_is)
    (case xk_InvalidVersion => k_is)
    (case xn_InvalidVersion => k_is)
    (case xi_InvalidVersion => k_is)
    (case xf_InvalidVersion => k_is)
    (case li_InvalidVersion => k_is)
    (case ci_InvalidVersion => k_is)
    (case ki_InvalidVersion => k_is)
    (case ga_InvalidVersion => k_is)
    (case gg_InvalidVersion => k_is)
    (case xd_InvalidVersion => k_is)
    (case xc_InvalidVersion => k_is)
    (case xm_InvalidVersion => k_is)
    (case a_TooMany => k_is)
    (case x_TooMany => k_is)
    (case xs_TooMany => k_is)
    (case xe_TooMany => k_is)
    (case xt_TooMany => k_is)
    (case xk_TooMany => k_is)
    (case xn_TooMany => k_is)
    (case xi_TooMany => k_is)
    (case xf_TooMany => k_is)
    (case li_TooMany => k_is)
    (case ci_TooMany => k_is)
    (case ki_TooMany => k_is)
    (case ga_TooMany => k_is)
    (case gg_TooMany => k_is)
    (case xd_TooMany => k_is)
    (case xc_TooMany => k_is)
    (case xm_TooMany => k_is)
    (case gn => k_is)
    (case gt => k_is)
    (case ex_InvalidIndex_InvalidIndex => k_is)
    (case xl_InvalidIndex => k_is)
    (case ex_InvalidIndex_InvalidNumber => k_is)
    (case ex_InvalidIndex_InvalidRange => k_is)
    (case ex_InvalidIndex_InvalidVersion => k_is)
    (case ex_InvalidIndex_TooMany => k_is)
    (case ex_InvalidNumber_InvalidIndex => k_is)
    (case xl_InvalidNumber => k_is)
    (case ex_InvalidNumber_InvalidNumber => k_is)
    (case ex_InvalidNumber_InvalidRange => k_is)
    (case ex_InvalidNumber_InvalidVersion => k_is)
    (case ex_InvalidNumber_TooMany => k_is)
    (case ex_InvalidRange_InvalidIndex => k_is)
    (case xl_InvalidRange => k_is)
    (case ex_InvalidRange_InvalidNumber => k_is)
    (case ex_InvalidRange_InvalidRange => k_is)
    (case ex_InvalidRange_InvalidVersion => k_is)
    (case ex_InvalidRange_TooMany => k_is)
    (case ex_InvalidVersion_InvalidIndex => k_is)
    (case xl_InvalidVersion => k_is)
    (case ex_InvalidVersion_InvalidNumber => k_is)
    (case ex_InvalidVersion_InvalidRange => k_is)
    (case ex_InvalidVersion_InvalidVersion => k_is)
    (case ex_InvalidVersion_TooMany => k_is)
    (case ex_TooMany_InvalidIndex => k_is)
    (case xl_TooMany => k_is)
    (case ex_TooMany_InvalidNumber => k_is)
    (case ex_TooMany_InvalidRange => k_is)
    (case ex_TooMany_InvalidVersion => k_is)
    (case ex_TooMany_TooMany => k_is)
    (case ex_InvalidRow_InvalidRow => k_is)
    (case xl_InvalidRow => k_is)
