import PyProof.Rows.All
import Wide.All
import OpenK.AllK
import Wide.FinOn
import HandS.ForMost
import HandS.Exc
import HandS.ExcInit
import HandS.ExcIs
import HandS.ExcField
import HandS.ExcOwn
import HandS.TryOnly
import HandS.WordsExc
import HandS.IsInst
import HandS.Conv
import HandS.SortRule
import HandS.SortInts
import HandS.Wide
import HandS.GenList
import HandS.GenYield
import HandS.Flow
import HandS.TupAny
import HandS.TupLen
import KE.OsSortAny
import HandS.NoneIn
import KE.KExcIs
import HandS.GenCall
import PySem.Challenge.RW_fullsides_k66_whole_one_way_worths
set_option Elab.async false
set_option linter.all false
set_option maxRecDepth 100000
set_option maxHeartbeats 4000000
/-! # MD: what a def computes over plain data, and that the walk of its text computes it -/
namespace MD
open PySem L2

/-- plain data -/
inductive D where
  | non | bl (b : Bool) | int (i : Int) | str (x : Str)
  | lst (xs : List D) | tup (xs : List D) | scr (xs : List D) | ktp (xs : List D)
  | dct (kvs : List (List L2.Key × D)) | dik (kvs : List (L2.Key × D))
  | obj (c : Str) (fs : List (Str × D))

/-- how a reckoning ends -/
inductive R (α : Type) where
  | ok (a : α) | exc (c : Str) (fs : List (Str × D)) | bad
def R.bind {α β : Type} (x : R α) (f : α → R β) : R β := match x with
  | .ok a => f a
  | .exc c fs => .exc c fs
  | .bad => .bad
@[simp] theorem R.bind_ok {α β : Type} (a : α) (f : α → R β) : (R.ok a).bind f = f a := rfl
@[simp] theorem R.bind_exc {α β : Type} (c : Str) (fs : List (Str × D)) (f : α → R β) : (R.exc c fs : R α).bind f = .exc c fs := rfl
@[simp] theorem R.bind_bad {α β : Type} (f : α → R β) : (R.bad : R α).bind f = .bad := rfl
def R.of {α : Type} : Option α → R α
  | some a => .ok a
  | none => .bad
@[simp] theorem R.of_some {α : Type} (a : α) : R.of (some a) = .ok a := rfl
@[simp] theorem R.of_none {α : Type} : (R.of none : R α) = .bad := rfl
/-- no exception may leave here -/
def R.nox {α : Type} : R α → R α
  | .exc _ _ => .bad
  | r => r
@[simp] theorem R.nox_ok {α : Type} (a : α) : (R.ok a).nox = .ok a := rfl
@[simp] theorem R.nox_bad {α : Type} : (R.bad : R α).nox = .bad := rfl
@[simp] theorem R.nox_exc {α : Type} (c : Str) (fs : List (Str × D)) : (R.exc c fs : R α).nox = .bad := rfl

/-! ### heaps -/
def Ex (H H' : Hp) : Prop := ∀ a o, H a = some o → H' a = some o
theorem Ex.refl (H : Hp) : Ex H H := fun _ _ h => h
theorem Ex.trans {H H1 H2 : Hp} (a : Ex H H1) (b : Ex H1 H2) : Ex H H2 := fun x o h => b x o (a x o h)
theorem Ex.new {H : Hp} {p : Addr} {o : HO} (h : H p = none) : Ex H (upd H p o) := fun a u e => by
  rw [upd_ne (ne_of_none e h)]
  exact e
theorem Ex.back {H H' : Hp} {p : Addr} (e : Ex H H') (h : H' p = none) : H p = none := by
  cases h1 : H p with
  | none => rfl
  | some o => rw [e p o h1] at h; cases h
/-- a heap without these addresses -/
def cut (A : List Addr) (H : Hp) : Hp := fun b => if b ∈ A then none else H b
theorem cut_in {A : List Addr} {H : Hp} {b : Addr} (h : b ∈ A) : cut A H b = none := by unfold cut; rw [if_pos h]
theorem cut_out {A : List Addr} {H : Hp} {b : Addr} (h : b ∉ A) : cut A H b = H b := by unfold cut; rw [if_neg h]
theorem cut_nil {H : Hp} : cut [] H = H := by funext b; exact cut_out (by simp)
theorem cut_some {A : List Addr} {H : Hp} {b : Addr} {o : HO} (h : cut A H b = some o) : b ∉ A ∧ H b = some o := by
  by_cases hb : b ∈ A
  · rw [cut_in hb] at h; cases h
  · rw [cut_out hb] at h; exact ⟨hb, h⟩
theorem cut_cut {A B : List Addr} {H : Hp} : cut A (cut B H) = cut (A ++ B) H := by
  funext b
  unfold cut
  by_cases h1 : b ∈ A <;> by_cases h2 : b ∈ B <;> simp [h1, h2]
theorem Ex.cut {A B : List Addr} {H H' : Hp} (e : Ex H H') (hs : ∀ b ∈ B, b ∈ A ∨ H b = none) : Ex (cut A H) (MD.cut B H') := fun b o h => by
  obtain ⟨h1, h2⟩ := cut_some h
  have hb : b ∉ B := fun z => by
    rcases hs b z with q | q
    · exact h1 q
    · rw [h2] at q; cases q
  rw [cut_out hb]
  exact e b o h2
theorem Ex.cutS {A : List Addr} {H H' : Hp} (e : Ex H H') : Ex (MD.cut A H) (MD.cut A H') := e.cut fun _ h => .inl h
theorem Ex.ofCut {A : List Addr} {H : Hp} : Ex (MD.cut A H) H := fun b o h => (cut_some h).2
theorem Ex.sqL {K : PySem.W.Frag} {H H' : Hp} {a : Addr} {xs : List V} (e : Ex H H') (h : SqL K H a xs) : SqL K H' a xs := by
  rcases h with (h | ⟨o, h⟩) | h
  · exact .inl (.inl (e _ _ h))
  · exact .inl (.inr ⟨o, e _ _ h⟩)
  · exact .inr h
theorem Ex.sqT {K : PySem.W.Frag} {H H' : Hp} {a : Addr} {xs : List V} (e : Ex H H') (h : SqT K H a xs) : SqT K H' a xs := by
  rcases h with (h | ⟨o, h⟩) | h
  · exact .inl (.inl (e _ _ h))
  · exact .inl (.inr ⟨o, e _ _ h⟩)
  · exact .inr h

/-! ### values and data -/
section
variable (K : PySem.W.Frag) (mg : Str → Option Value)
/-- in the heap G the value is (reaches) the data -/
inductive DR (G : Hp) : V → D → Prop
  | non : DR G .non .non
  | bl (b : Bool) : DR G (.bl b) (.bl b)
  | int (i : Int) : DR G (.int i) (.int i)
  | str (x : Str) : DR G (.str x) (.str x)
  | lst {a : Addr} {vs : List V} {ds : List D} : G a = some (.lst vs) → vs.length = ds.length → (∀ (i : Nat) v d, vs[i]? = some v → ds[i]? = some d → DR G v d) → DR G (.ref a) (.lst ds)
  | tup {a : Addr} {vs : List V} {ds : List D} : G a = some (.tup vs) → vs.length = ds.length → (∀ (i : Nat) v d, vs[i]? = some v → ds[i]? = some d → DR G v d) → DR G (.ref a) (.tup ds)
  | ktp {a : Addr} {vs : List V} {ds : List D} : SqT K G a vs → vs.length = ds.length → (∀ (i : Nat) v d, vs[i]? = some v → ds[i]? = some d → DR G v d) → DR G (.ref a) (.ktp ds)
  | scr {a : Addr} {vs : List V} {ds : List D} : SqL K G a vs → vs.length = ds.length → (∀ (i : Nat) v d, vs[i]? = some v → ds[i]? = some d → DR G v d) → DR G (.ref a) (.scr ds)
  | dct {a : Addr} {kvs : List (List L2.Key × V)} {es : List (List L2.Key × D)} : G a = some (.dT kvs) → kvs.map Prod.fst = es.map Prod.fst → (∀ (i : Nat) v d, (kvs.map Prod.snd)[i]? = some v → (es.map Prod.snd)[i]? = some d → DR G v d) → DR G (.ref a) (.dct es)
  | dik {a : Addr} {kvs : List (L2.Key × V)} {es : List (L2.Key × D)} : G a = some (.dK kvs) → kvs.map Prod.fst = es.map Prod.fst → (∀ (i : Nat) v d, (kvs.map Prod.snd)[i]? = some v → (es.map Prod.snd)[i]? = some d → DR G v d) → DR G (.ref a) (.dik es)
  | obj {a C dx : Addr} {c : Str} {fs : List (Str × V)} {es : List (Str × D)} : G a = some (.ins C dx fs) → mg c = some (.ref C) → fs.map Prod.fst = es.map Prod.fst → (∀ (i : Nat) v d, (fs.map Prod.snd)[i]? = some v → (es.map Prod.snd)[i]? = some d → DR G v d) → DR G (.ref a) (.obj c es)
end
section
variable {K : PySem.W.Frag} {mg : Str → Option Value} {G G' H H' : Hp}
theorem DR.mono {v : V} {d : D} (h : DR K mg G v d) (e : Ex G G') : DR K mg G' v d := by
  induction h with
  | non => exact .non
  | bl b => exact .bl b
  | int i => exact .int i
  | str x => exact .str x
  | lst h1 h2 _ ih => exact .lst (e _ _ h1) h2 ih
  | tup h1 h2 _ ih => exact .tup (e _ _ h1) h2 ih
  | ktp h1 h2 _ ih => exact .ktp (e.sqT h1) h2 ih
  | scr h1 h2 _ ih => exact .scr (e.sqL h1) h2 ih
  | dct h1 h2 _ ih => exact .dct (e _ _ h1) h2 ih
  | dik h1 h2 _ ih => exact .dik (e _ _ h1) h2 ih
  | obj h1 h0 h2 _ ih => exact .obj (e _ _ h1) h0 h2 ih
/-- item by item -/
def DRs (K : PySem.W.Frag) (mg : Str → Option Value) (G : Hp) (vs : List V) (ds : List D) : Prop := vs.length = ds.length ∧ ∀ (i : Nat) v d, vs[i]? = some v → ds[i]? = some d → DR K mg G v d
theorem DRs.mono {vs : List V} {ds : List D} (h : DRs K mg G vs ds) (e : Ex G G') : DRs K mg G' vs ds := ⟨h.1, fun i v d a b => (h.2 i v d a b).mono e⟩
theorem DRs.nil : DRs K mg G [] [] := ⟨rfl, fun i v d a _ => by simp at a⟩
theorem DRs.cons {v : V} {d : D} {vs : List V} {ds : List D} (h : DR K mg G v d) (t : DRs K mg G vs ds) : DRs K mg G (v :: vs) (d :: ds) := by
  refine ⟨by rw [List.length_cons, List.length_cons, t.1], fun i x y a b => ?_⟩
  cases i with
  | zero => simp at a b; subst a; subst b; exact h
  | succ i => simp at a b; exact t.2 i x y a b
theorem DRs.uncons {v : V} {d : D} {vs : List V} {ds : List D} (h : DRs K mg G (v :: vs) (d :: ds)) : DR K mg G v d ∧ DRs K mg G vs ds :=
  ⟨h.2 0 v d rfl rfl, by have := h.1; simpa using this, fun i x y a b => h.2 (i + 1) x y (by simpa using a) (by simpa using b)⟩
theorem DRs.append {vs ws : List V} {ds es : List D} (h : DRs K mg G vs ds) (t : DRs K mg G ws es) : DRs K mg G (vs ++ ws) (ds ++ es) := by
  refine ⟨by rw [List.length_append, List.length_append, h.1, t.1], fun i x y a b => ?_⟩
  by_cases hi : i < vs.length
  · rw [List.getElem?_append_left hi] at a
    rw [List.getElem?_append_left (by rw [← h.1]; exact hi)] at b
    exact h.2 i x y a b
  · rw [List.getElem?_append_right (by omega)] at a
    rw [List.getElem?_append_right (by rw [← h.1]; omega)] at b
    rw [← h.1] at b
    exact t.2 _ x y a b
theorem DRs.one {v : V} {d : D} (h : DR K mg G v d) : DRs K mg G [v] [d] := .cons h .nil
theorem DRs.get {vs : List V} {ds : List D} (h : DRs K mg G vs ds) {i : Nat} {d : D} (e : ds[i]? = some d) : ∃ v, vs[i]? = some v ∧ DR K mg G v d := by
  have hi : i < ds.length := (List.getElem?_eq_some_iff.mp e).1
  have hv : i < vs.length := by rw [h.1]; exact hi
  exact ⟨vs[i], List.getElem?_eq_getElem hv, h.2 i _ d (List.getElem?_eq_getElem hv) e⟩
theorem DRs.getV {vs : List V} {ds : List D} (h : DRs K mg G vs ds) {i : Nat} {v : V} (e : vs[i]? = some v) : ∃ d, ds[i]? = some d ∧ DR K mg G v d := by
  have hi : i < vs.length := (List.getElem?_eq_some_iff.mp e).1
  have hv : i < ds.length := by rw [← h.1]; exact hi
  exact ⟨ds[i], List.getElem?_eq_getElem hv, h.2 i v _ e (List.getElem?_eq_getElem hv)⟩
theorem DRs.of {vs : List V} {ds : List D} (h1 : vs.length = ds.length) (h2 : ∀ (i : Nat) v d, vs[i]? = some v → ds[i]? = some d → DR K mg G v d) : DRs K mg G vs ds := ⟨h1, h2⟩
theorem DRs.take {vs : List V} {ds : List D} (h : DRs K mg G vs ds) (n : Nat) : DRs K mg G (vs.take n) (ds.take n) := by
  refine ⟨by rw [List.length_take, List.length_take, h.1], fun i x y a b => ?_⟩
  rw [List.getElem?_take] at a b
  split at a
  · rw [if_pos (by assumption)] at b; exact h.2 i x y a b
  · cases a
theorem DRs.drop {vs : List V} {ds : List D} (h : DRs K mg G vs ds) (n : Nat) : DRs K mg G (vs.drop n) (ds.drop n) := by
  refine ⟨by rw [List.length_drop, List.length_drop, h.1], fun i x y a b => ?_⟩
  rw [List.getElem?_drop] at a b
  exact h.2 _ x y a b
theorem DRs.reverse {vs : List V} {ds : List D} (h : DRs K mg G vs ds) : DRs K mg G vs.reverse ds.reverse := by
  refine ⟨by rw [List.length_reverse, List.length_reverse, h.1], fun i x y a b => ?_⟩
  have hi : i < vs.length := by have := (List.getElem?_eq_some_iff.mp a).1; simpa using this
  rw [List.getElem?_reverse hi] at a
  rw [List.getElem?_reverse (by rw [← h.1]; exact hi), ← h.1] at b
  exact h.2 _ x y a b
/-- all ints -/
theorem DRs.ints {vs : List V} : ∀ {ns : List Int}, DRs K mg G vs (ns.map D.int) → vs = ns.map V.int := by
  induction vs with
  | nil =>
    intro ns h
    cases ns with
    | nil => rfl
    | cons n ns => have := h.1; simp at this
  | cons v vs ih =>
    intro ns h
    cases ns with
    | nil => have := h.1; simp at this
    | cons n ns =>
      obtain ⟨h1, h2⟩ := DRs.uncons h
      rw [ih h2]
      cases h1
      rfl
theorem DRs.strs {vs : List V} : ∀ {ns : List Str}, DRs K mg G vs (ns.map D.str) → vs = ns.map V.str := by
  induction vs with
  | nil =>
    intro ns h
    cases ns with
    | nil => rfl
    | cons n ns => have := h.1; simp at this
  | cons v vs ih =>
    intro ns h
    cases ns with
    | nil => have := h.1; simp at this
    | cons n ns =>
      obtain ⟨h1, h2⟩ := DRs.uncons h
      rw [ih h2]
      cases h1
      rfl
theorem DRs.bls {vs : List V} : ∀ {ns : List Bool}, DRs K mg G vs (ns.map D.bl) → vs = ns.map V.bl := by
  induction vs with
  | nil =>
    intro ns h
    cases ns with
    | nil => rfl
    | cons n ns => have := h.1; simp at this
  | cons v vs ih =>
    intro ns h
    cases ns with
    | nil => have := h.1; simp at this
    | cons n ns =>
      obtain ⟨h1, h2⟩ := DRs.uncons h
      rw [ih h2]
      cases h1
      rfl

/-- a list, a dict that is owned: what stands at p, its parts by G -/
inductive Own (K : PySem.W.Frag) (mg : Str → Option Value) (G H : Hp) (p : Addr) : D → Prop
  | lst {vs : List V} {ds : List D} : H p = some (.lst vs) → DRs K mg G vs ds → Own K mg G H p (.lst ds)
  | dct {kvs : List (List L2.Key × V)} {es : List (List L2.Key × D)} : H p = some (.dT kvs) → kvs.map Prod.fst = es.map Prod.fst → DRs K mg G (kvs.map Prod.snd) (es.map Prod.snd) → Own K mg G H p (.dct es)
  | dik {kvs : List (L2.Key × V)} {es : List (L2.Key × D)} : H p = some (.dK kvs) → kvs.map Prod.fst = es.map Prod.fst → DRs K mg G (kvs.map Prod.snd) (es.map Prod.snd) → Own K mg G H p (.dik es)
  | obj {C dx : Addr} {c : Str} {fs : List (Str × V)} {es : List (Str × D)} : H p = some (.ins C dx fs) → mg c = some (.ref C) → fs.map Prod.fst = es.map Prod.fst → DRs K mg G (fs.map Prod.snd) (es.map Prod.snd) → Own K mg G H p (.obj c es)
theorem Own.mono {p : Addr} {d : D} (h : Own K mg G H p d) (e : Ex G G') (eh : ∀ o, H p = some o → H' p = some o) : Own K mg G' H' p d := by
  cases h with
  | lst h1 h2 => exact .lst (eh _ h1) (h2.mono e)
  | dct h1 h2 h3 => exact .dct (eh _ h1) h2 (h3.mono e)
  | dik h1 h2 h3 => exact .dik (eh _ h1) h2 (h3.mono e)
  | obj h1 h0 h2 h3 => exact .obj (eh _ h1) h0 h2 (h3.mono e)
/-- what may not be touched (and is no tuple) -/
def Mb (o : HO) : Prop := (∃ vs, o = .lst vs) ∨ (∃ kvs, o = .dT kvs) ∨ (∃ kvs, o = .dK kvs) ∨ ∃ C dx fs, o = .ins C dx fs
theorem Own.mb {p : Addr} {d : D} (h : Own K mg G H p d) : ∃ o, H p = some o ∧ Mb o := by
  cases h with
  | lst h1 _ => exact ⟨_, h1, .inl ⟨_, rfl⟩⟩
  | dct h1 _ _ => exact ⟨_, h1, .inr (.inl ⟨_, rfl⟩)⟩
  | dik h1 _ _ => exact ⟨_, h1, .inr (.inr (.inl ⟨_, rfl⟩))⟩
  | obj h1 _ _ _ => exact ⟨_, h1, .inr (.inr (.inr ⟨_, _, _, rfl⟩))⟩
/-- given up, an owned thing is a value like others -/
theorem Own.dr {p : Addr} {d : D} (h : Own K mg G H p d) (e : Ex G G') (eh : ∀ o, H p = some o → G' p = some o) : DR K mg G' (.ref p) d := by
  cases h with
  | lst h1 h2 => exact .lst (eh _ h1) h2.1 fun i v d a b => (h2.2 i v d a b).mono e
  | dct h1 h2 h3 => exact .dct (eh _ h1) h2 (h3.mono e).2
  | dik h1 h2 h3 => exact .dik (eh _ h1) h2 (h3.mono e).2
  | obj h1 h0 h2 h3 => exact .obj (eh _ h1) h0 h2 (h3.mono e).2

/-! ### the state -/
abbrev Env := List (Option D)
/-- the address in a slot -/
def adr (σ : L2.St) (i : Nat) : Option Addr := match σ[i]? with
  | some (some (.ref p)) => some p
  | _ => none
theorem adr_of {σ : L2.St} {i : Nat} {p : Addr} (h : σ[i]? = some (some (.ref p))) : adr σ i = some p := by unfold adr; rw [h]
theorem of_adr {σ : L2.St} {i : Nat} {p : Addr} (h : adr σ i = some p) : σ[i]? = some (some (.ref p)) := by
  unfold adr at h
  split at h
  · cases h; assumption
  · cases h
def ows (O : List Nat) (σ : L2.St) : List Addr := O.filterMap (adr σ)
theorem mem_ows {O : List Nat} {σ : L2.St} {p : Addr} : p ∈ ows O σ ↔ ∃ i ∈ O, σ[i]? = some (some (.ref p)) := by
  unfold ows
  rw [List.mem_filterMap]
  exact ⟨fun ⟨i, hi, e⟩ => ⟨i, hi, of_adr e⟩, fun ⟨i, hi, e⟩ => ⟨i, hi, adr_of e⟩⟩
/-- addresses of others; slots that hold an address throughout -/
structure Fm where
  l : List Addr
  b : List (Nat × Addr) := []
/-- F: what others own; O: the slots that own what stands there -/
structure SR (K : PySem.W.Frag) (mg : Str → Option Value) (F : Fm) (O : List Nat) (σ : L2.St) (H : Hp) (env : Env) : Prop where
  len : σ.length = env.length
  dom : ∀ p ∈ F.l, ∃ o, H p = some o ∧ Mb o
  pin : ∀ q ∈ F.b, σ[q.1]? = some (some (.ref q.2))
  shr : ∀ (i : Nat) d, i ∉ O → env[i]? = some (some d) → ∃ v, σ[i]? = some (some v) ∧ DR K mg (cut (F.l ++ ows O σ) H) v d
  own : ∀ i ∈ O, ∃ p d, env[i]? = some (some d) ∧ σ[i]? = some (some (.ref p)) ∧ p ∉ F.l ∧ Own K mg (cut (F.l ++ ows O σ) H) H p d
  inj : ∀ i ∈ O, ∀ j ∈ O, ∀ p : Addr, σ[i]? = some (some (.ref p)) → σ[j]? = some (some (.ref p)) → i = j
section
variable {F : Fm} {O : List Nat} {σ : L2.St} {env : Env}
theorem SR.ext (h : SR K mg F O σ H env) (e : Ex H H') : SR K mg F O σ H' env :=
  ⟨h.len, fun p hp => let ⟨o, a, b⟩ := h.dom p hp; ⟨o, e p o a, b⟩, h.pin, fun i d hi he => let ⟨v, a, b⟩ := h.shr i d hi he; ⟨v, a, b.mono e.cutS⟩,
    fun i hi => let ⟨p, d, a, b, c, q⟩ := h.own i hi; ⟨p, d, a, b, c, q.mono e.cutS (fun o z => e p o z)⟩, h.inj⟩
/-- all that is off limits is a list or a dict that stands -/
theorem SR.mb (h : SR K mg F O σ H env) : ∀ p ∈ F.l ++ ows O σ, ∃ o, H p = some o ∧ Mb o := fun p hp => by
  rcases List.mem_append.mp hp with q | q
  · exact h.dom p q
  · obtain ⟨i, hi, e⟩ := mem_ows.mp q
    obtain ⟨p', d, _, e2, _, o⟩ := h.own i hi
    rw [e] at e2
    cases e2
    exact o.mb
/-- fewer slots own -/
theorem SR.weak {O' : List Nat} (h : SR K mg F O σ H env) (hs : ∀ i ∈ O', i ∈ O) : SR K mg F O' σ H env := by
  have hsub : ∀ b ∈ F.l ++ ows O' σ, b ∈ F.l ++ ows O σ ∨ H b = none := fun b hb => .inl (by
    rcases List.mem_append.mp hb with q | q
    · exact List.mem_append_left _ q
    · obtain ⟨i, hi, e⟩ := mem_ows.mp q
      exact List.mem_append_right _ (mem_ows.mpr ⟨i, hs i hi, e⟩))
  have e : Ex (cut (F.l ++ ows O σ) H) (cut (F.l ++ ows O' σ) H) := (Ex.refl H).cut hsub
  refine ⟨h.len, h.dom, h.pin, fun i d hi he => ?_, fun i hi => ?_, fun i hi j hj => h.inj i (hs i hi) j (hs j hj)⟩
  · by_cases hO : i ∈ O
    · obtain ⟨p, d', e1, e2, e3, o⟩ := h.own i hO
      rw [e1] at he
      cases he
      refine ⟨_, e2, o.dr e fun u z => ?_⟩
      rw [cut_out fun q => ?_]
      · exact z
      · rcases List.mem_append.mp q with q | q
        · exact e3 q
        · obtain ⟨j, hj, e4⟩ := mem_ows.mp q
          have := h.inj i hO j (hs j hj) p e2 e4
          subst this
          exact hi hj
    · obtain ⟨v, a, b⟩ := h.shr i d hO he
      exact ⟨v, a, b.mono e⟩
  · obtain ⟨p, d, a, b, c, q⟩ := h.own i (hs i hi)
    exact ⟨p, d, a, b, c, q.mono e fun _ z => z⟩
end
end
end MD

namespace MD
open PySem L2
section
variable {K : PySem.W.Frag} {mg : Str → Option Value} {G G' H H' : Hp}
/-! ### what is wanted of a reckoning's end -/
/-- an exception's own dict -/
def XD (K : PySem.W.Frag) (mg : Str → Option Value) (A : List Addr) (H' : Hp) (o : Option Addr) (fs : List (Str × D)) : Prop :=
  (fs = [] ∧ o = none) ∨ ∃ (d : Addr) (vfs : List (Str × V)), o = some d ∧ H' d = some (.xd vfs) ∧ vfs.map Prod.fst = fs.map Prod.fst ∧ DRs K mg (cut A H') (vfs.map Prod.snd) (fs.map Prod.snd)
def XW (K : PySem.W.Frag) (mg : Str → Option Value) (E : XK) (A : List Addr) (H : Hp) (c : Str) (fs : List (Str × D)) : Prop :=
  ∀ (C : Addr) (o : Option Addr) (H' : Hp), Ex H H' → mg c = some (.ref C) → XD K mg A H' o fs → E (.ref C) o H'
theorem XW.mono {E : XK} {A : List Addr} {c : Str} {fs : List (Str × D)} (h : XW K mg E A H c fs) (e : Ex H H') : XW K mg E A H' c fs := fun C o H2 e2 => h C o H2 (e.trans e2)
def Wn {α β : Type} (K : PySem.W.Frag) (mg : Str → Option Value) (E : XK) (A : List Addr) (H : Hp) (rel : Hp → α → β → Prop) (Q : α → Hp → Prop) : R β → Prop
  | .ok b => ∀ a H', Ex H H' → rel H' a b → Q a H'
  | .exc c fs => XW K mg E A H c fs
  | .bad => False
section
variable {α β γ δ : Type} {E : XK} {A : List Addr} {rel : Hp → α → β → Prop} {rel2 : Hp → γ → δ → Prop} {Q : α → Hp → Prop} {Q2 : γ → Hp → Prop}
theorem Wn.mono {r : R β} (h : Wn K mg E A H rel Q r) (e : Ex H H') : Wn K mg E A H' rel Q r := by
  cases r with
  | ok b => exact fun a H2 e2 => h a H2 (e.trans e2)
  | exc c fs => exact XW.mono h e
  | bad => exact h
theorem Wn.seq {r : R β} {f : β → R δ} (h : Wn K mg E A H rel2 Q2 (r.bind f)) (k : ∀ a b H', Ex H H' → rel H' a b → Wn K mg E A H' rel2 Q2 (f b) → Q a H') : Wn K mg E A H rel Q r := by
  cases r with
  | ok b => exact fun a H' e q => k a b H' e q (Wn.mono h e)
  | exc c fs => exact h
  | bad => exact h
theorem Wn.ok {b : β} (h : Wn K mg E A H rel Q (.ok b)) {a : α} {H' : Hp} (e : Ex H H') (q : rel H' a b) : Q a H' := h a H' e q
end
def rD (K : PySem.W.Frag) (mg : Str → Option Value) (A : List Addr) : Hp → V → D → Prop := fun H' v d => DR K mg (cut A H') v d
def rB : Hp → Bool → Bool → Prop := fun _ a b => a = b
def rL (K : PySem.W.Frag) (mg : Str → Option Value) (A : List Addr) : Hp → List V → List D → Prop := fun H' v d => DRs K mg (cut A H') v d
/-- a value that may be an owned thing: to be looked at, not kept -/
inductive WR (K : PySem.W.Frag) (mg : Str → Option Value) (A : List Addr) (H : Hp) : V → D → Prop
  | sh {v : V} {d : D} : DR K mg (cut A H) v d → WR K mg A H v d
  | ow {p : Addr} {d : D} : Own K mg (cut A H) H p d → WR K mg A H (.ref p) d
def rW (K : PySem.W.Frag) (mg : Str → Option Value) (A : List Addr) : Hp → V → D → Prop := fun H' v d => WR K mg A H' v d
/-- a new thing that nothing else holds -/
def rF (K : PySem.W.Frag) (mg : Str → Option Value) (A : List Addr) (H0 : Hp) : Hp → V → D → Prop := fun H' v d => ∃ p, v = .ref p ∧ H0 p = none ∧ Own K mg (cut (p :: A) H') H' p d
theorem WR.mono {A : List Addr} {v : V} {d : D} (h : WR K mg A H v d) (e : Ex H H') : WR K mg A H' v d := by
  cases h with
  | sh h => exact .sh (h.mono e.cutS)
  | ow h => exact .ow (h.mono e.cutS (fun o z => e _ o z))
section
variable {A : List Addr} {v : V}
theorem WR.non (h : WR K mg A H v .non) : v = .non := by
  cases h with
  | sh h => cases h; rfl
  | ow h => cases h
theorem WR.int {i : Int} (h : WR K mg A H v (.int i)) : v = .int i := by
  cases h with
  | sh h => cases h; rfl
  | ow h => cases h
theorem WR.bl {i : Bool} (h : WR K mg A H v (.bl i)) : v = .bl i := by
  cases h with
  | sh h => cases h; rfl
  | ow h => cases h
theorem WR.str {i : Str} (h : WR K mg A H v (.str i)) : v = .str i := by
  cases h with
  | sh h => cases h; rfl
  | ow h => cases h
theorem WR.lst {ds : List D} (h : WR K mg A H v (.lst ds)) : ∃ p vs, v = .ref p ∧ H p = some (.lst vs) ∧ DRs K mg (cut A H) vs ds := by
  cases h with
  | sh h =>
    cases h with
    | lst h1 h2 h3 => exact ⟨_, _, rfl, (cut_some h1).2, h2, h3⟩
  | ow h =>
    cases h with
    | lst h1 h2 => exact ⟨_, _, rfl, h1, h2⟩
theorem WR.tup {ds : List D} (h : WR K mg A H v (.tup ds)) : ∃ p vs, v = .ref p ∧ H p = some (.tup vs) ∧ DRs K mg (cut A H) vs ds := by
  cases h with
  | sh h =>
    cases h with
    | tup h1 h2 h3 => exact ⟨_, _, rfl, (cut_some h1).2, h2, h3⟩
  | ow h => cases h
theorem WR.ktp {ds : List D} (h : WR K mg A H v (.ktp ds)) : ∃ p vs, v = .ref p ∧ SqT K H p vs ∧ DRs K mg (cut A H) vs ds := by
  cases h with
  | sh h =>
    cases h with
    | ktp h1 h2 h3 => exact ⟨_, _, rfl, Ex.ofCut.sqT h1, h2, h3⟩
  | ow h => cases h
theorem WR.scr {ds : List D} (h : WR K mg A H v (.scr ds)) : ∃ p vs, v = .ref p ∧ SqL K H p vs ∧ DRs K mg (cut A H) vs ds := by
  cases h with
  | sh h =>
    cases h with
    | scr h1 h2 h3 => exact ⟨_, _, rfl, Ex.ofCut.sqL h1, h2, h3⟩
  | ow h => cases h
theorem WR.dct {es : List (List L2.Key × D)} (h : WR K mg A H v (.dct es)) : ∃ p kvs, v = .ref p ∧ H p = some (.dT kvs) ∧ kvs.map Prod.fst = es.map Prod.fst ∧ DRs K mg (cut A H) (kvs.map Prod.snd) (es.map Prod.snd) := by
  cases h with
  | sh h =>
    cases h with
    | dct h1 h2 h3 => exact ⟨_, _, rfl, (cut_some h1).2, h2, by have := congrArg List.length h2; simpa using this, h3⟩
  | ow h =>
    cases h with
    | dct h1 h2 h3 => exact ⟨_, _, rfl, h1, h2, h3⟩
theorem WR.dik {es : List (L2.Key × D)} (h : WR K mg A H v (.dik es)) : ∃ p kvs, v = .ref p ∧ H p = some (.dK kvs) ∧ kvs.map Prod.fst = es.map Prod.fst ∧ DRs K mg (cut A H) (kvs.map Prod.snd) (es.map Prod.snd) := by
  cases h with
  | sh h =>
    cases h with
    | dik h1 h2 h3 => exact ⟨_, _, rfl, (cut_some h1).2, h2, by have := congrArg List.length h2; simpa using this, h3⟩
  | ow h =>
    cases h with
    | dik h1 h2 h3 => exact ⟨_, _, rfl, h1, h2, h3⟩
theorem WR.obj {c : Str} {es : List (Str × D)} (h : WR K mg A H v (.obj c es)) : ∃ p C dx fs, v = .ref p ∧ H p = some (.ins C dx fs) ∧ mg c = some (.ref C) ∧ fs.map Prod.fst = es.map Prod.fst ∧ DRs K mg (cut A H) (fs.map Prod.snd) (es.map Prod.snd) := by
  cases h with
  | sh h =>
    cases h with
    | obj h1 h0 h2 h3 => exact ⟨_, _, _, _, rfl, (cut_some h1).2, h0, h2, by have := congrArg List.length h2; simpa using this, h3⟩
  | ow h =>
    cases h with
    | obj h1 h0 h2 h3 => exact ⟨_, _, _, _, rfl, h1, h0, h2, h3⟩
/-- the items of a list, a tuple, the script -/
def seqOf : D → Option (List D)
  | .lst ds => some ds
  | .tup ds => some ds
  | .scr ds => some ds
  | .ktp ds => some ds
  | _ => none
theorem WR.seq {d : D} {ds : List D} (h : WR K mg A H v d) (e : seqOf d = some ds) : ∃ p vs, v = .ref p ∧ (SqL K H p vs ∨ SqT K H p vs) ∧ DRs K mg (cut A H) vs ds := by
  cases d <;> first | (cases e) | skip
  · obtain ⟨p, vs, a, b, c⟩ := h.lst; exact ⟨p, vs, a, .inl (SqL.of b), c⟩
  · obtain ⟨p, vs, a, b, c⟩ := h.tup; exact ⟨p, vs, a, .inr (SqT.of b), c⟩
  · obtain ⟨p, vs, a, b, c⟩ := h.scr; exact ⟨p, vs, a, .inl b, c⟩
  · obtain ⟨p, vs, a, b, c⟩ := h.ktp; exact ⟨p, vs, a, .inr b, c⟩
/-- all of these stand and are lists or dicts -/
def Off (A : List Addr) (H : Hp) : Prop := ∀ p ∈ A, ∃ o, H p = some o ∧ Mb o
theorem Off.mono (h : Off A H) (e : Ex H H') : Off A H' := fun p hp => let ⟨o, a, b⟩ := h p hp; ⟨o, e p o a, b⟩
theorem Off.new (h : Off A H) {p : Addr} (hp : H p = none) : p ∉ A := fun z => by
  obtain ⟨o, a, _⟩ := h p z
  rw [hp] at a; cases a
theorem own_new (h : Off A H) {p : Addr} (hp : H p = none) {vs : List V} {ds : List D} (hd : DRs K mg (cut A H) vs ds) : rF K mg A H (upd H p (.lst vs)) (.ref p) (.lst ds) :=
  ⟨p, rfl, hp, .lst upd_same (hd.mono ((Ex.new hp).cut fun b hb => by
    rcases List.mem_cons.mp hb with e | e
    · exact .inr (by rw [e]; exact hp)
    · exact .inl e))⟩
theorem rF.rD {H0 : Hp} {d : D} (ho : Off A H0) (h : rF K mg A H0 H v d) : rD K mg A H v d := by
  obtain ⟨p, rfl, hp, o⟩ := h
  exact o.dr ((Ex.refl H).cut fun b hb => .inl (List.mem_cons_of_mem _ hb)) fun u z => by rw [cut_out (ho.new hp)]; exact z
theorem lst_new (h : Off A H) {p : Addr} (hp : H p = none) {vs : List V} {ds : List D} (hd : DRs K mg (cut A H) vs ds) : DR K mg (cut A (upd H p (.lst vs))) (.ref p) (.lst ds) := (own_new h hp hd).rD h
theorem tup_new (h : Off A H) {p : Addr} (hp : H p = none) {vs : List V} {ds : List D} (hd : DRs K mg (cut A H) vs ds) : DR K mg (cut A (upd H p (.tup vs))) (.ref p) (.tup ds) := by
  have q := hd.mono (Ex.new (o := .tup vs) hp).cutS
  exact .tup (by rw [cut_out (h.new hp)]; exact upd_same) q.1 q.2
end

/-! ### the mirrors' forms and what it means that a reading does as its mirror -/
abbrev EM := Env → R D
abbrev TM := Env → R Bool
abbrev AM := Env → R (List D)
section
variable (K : PySem.W.Frag) (mg : Str → Option Value) (E : L2.St → XK) (F : Fm) (O : List Nat)
def SE (te : TE) (m : EM) : Prop := ∀ σ H env, SR K mg F O σ H env → ∀ Q, Wn K mg (E σ) (F.l ++ ows O σ) H (rD K mg (F.l ++ ows O σ)) Q (m env) → te σ H Q
def SW (te : TE) (m : EM) : Prop := ∀ σ H env, SR K mg F O σ H env → ∀ Q, Wn K mg (E σ) (F.l ++ ows O σ) H (rW K mg (F.l ++ ows O σ)) Q (m env) → te σ H Q
def SF (te : TE) (m : EM) : Prop := ∀ σ H env, SR K mg F O σ H env → ∀ Q, Wn K mg (E σ) (F.l ++ ows O σ) H (rF K mg (F.l ++ ows O σ) H) Q (m env) → te σ H Q
def ST (tt : TT) (m : TM) : Prop := ∀ σ H env, SR K mg F O σ H env → ∀ Q, Wn K mg (E σ) (F.l ++ ows O σ) H rB Q (m env) → tt σ H Q
def SA (ta : TA) (m : AM) : Prop := ∀ σ H env, SR K mg F O σ H env → ∀ Q, Wn K mg (E σ) (F.l ++ ows O σ) H (rL K mg (F.l ++ ows O σ)) Q (m env) → ta σ H Q
end
/-- an expression does as its mirror: kept, looked at, new; a test; arguments -/
structure ME (X : Cx) (E : L2.St → XK) (O : List Nat) (e : Expr) (m : EM) : Prop where
  ex : ∃ te, PE X e te ∧ ∀ F, SE X.K X.mg E F O te m
structure MW (X : Cx) (E : L2.St → XK) (O : List Nat) (e : Expr) (m : EM) : Prop where
  ex : ∃ te, PE X e te ∧ ∀ F, SW X.K X.mg E F O te m
structure MF (X : Cx) (E : L2.St → XK) (O : List Nat) (e : Expr) (m : EM) : Prop where
  ex : ∃ te, PE X e te ∧ ∀ F, SF X.K X.mg E F O te m
structure MT (X : Cx) (E : L2.St → XK) (O : List Nat) (e : Expr) (m : TM) : Prop where
  ex : ∃ tt, PT X e tt ∧ ∀ F, ST X.K X.mg E F O tt m
structure MTW (X : Cx) (E : L2.St → XK) (O : List Nat) (e : Expr) (m : TM) : Prop where
  ex : ∃ tt, PW X e tt ∧ ∀ F, ST X.K X.mg E F O tt m
structure MA (X : Cx) (E : L2.St → XK) (O : List Nat) (es : List Expr) (m : AM) : Prop where
  ex : ∃ ta, PA X es ta ∧ ∀ F, SA X.K X.mg E F O ta m
end

section
variable {X : Cx} {E : L2.St → XK} {F : Fm} {O : List Nat} {a b c e : Expr} {es : List Expr} {ma mb mc : EM} {pos : Pos}
theorem SE.sw {E : L2.St → XK} {K : PySem.W.Frag} {mg : Str → Option Value} {te : TE} {m : EM} (h : SE K mg E F O te m) : SW K mg E F O te m := fun σ H env s Q w => by
  refine h σ H env s Q ?_
  cases hm : m env with
  | ok d => rw [hm] at w; exact fun v H' e q => w v H' e (.sh q)
  | exc c fs => rw [hm] at w; exact w
  | bad => rw [hm] at w; exact w
theorem SF.se {E : L2.St → XK} {K : PySem.W.Frag} {mg : Str → Option Value} {te : TE} {m : EM} (h : SF K mg E F O te m) : SE K mg E F O te m := fun σ H env s Q w => by
  refine h σ H env s Q ?_
  cases hm : m env with
  | ok d => rw [hm] at w; exact fun v H' e q => w v H' e (rF.rD s.mb q)
  | exc c fs => rw [hm] at w; exact w
  | bad => rw [hm] at w; exact w
theorem ME.w (h : ME X E O e ma) : MW X E O e ma := let ⟨te, p, s⟩ := h.ex; ⟨te, p, fun F => (s F).sw⟩
theorem MF.k (h : MF X E O e ma) : ME X E O e ma := let ⟨te, p, s⟩ := h.ex; ⟨te, p, fun F => (s F).se⟩
theorem MF.w (h : MF X E O e ma) : MW X E O e ma := h.k.w

/-! ### names, constants -/
def eVar (i : Nat) : EM := fun env => R.of (env[i]?.bind id)
def eC (d : D) : EM := fun _ => .ok d
@[simp] theorem eC_ap (d : D) (env : Env) : eC d env = .ok d := rfl
theorem mv (i : Nat) {x : Str} {pos : Pos} (hO : i ∉ O := by decide) (hN : X.N[i]? = some x := by rfl) (hv : Vis X.env.scope x := by first | exact Or.inl rfl | exact Or.inr (Or.inl rfl) | exact Or.inr (Or.inr rfl)) (hd : (x == ("__debug__" : Str)) = false := by decide)
    (hcd : (x == ("__classdict__" : Str)) = false := by decide) : ME X E O (.Name x pos) (eVar i) := by
  refine ⟨tVar i, pe_var hN hv hd hcd, fun F σ H env s Q w => ?_⟩
  unfold eVar at w
  cases h : env[i]? with
  | none => rw [h] at w; exact w.elim
  | some o =>
    cases o with
    | none => rw [h] at w; exact w.elim
    | some d =>
      rw [h] at w
      obtain ⟨v, h1, h2⟩ := s.shr i d hO h
      exact ⟨v, h1, w v H (Ex.refl H) h2⟩
/-- an owned name, looked at -/
theorem mo (i : Nat) {x : Str} {pos : Pos} (hO : i ∈ O := by decide) (hN : X.N[i]? = some x := by rfl) (hv : Vis X.env.scope x := by first | exact Or.inl rfl | exact Or.inr (Or.inl rfl) | exact Or.inr (Or.inr rfl)) (hd : (x == ("__debug__" : Str)) = false := by decide)
    (hcd : (x == ("__classdict__" : Str)) = false := by decide) : MW X E O (.Name x pos) (eVar i) := by
  refine ⟨tVar i, pe_var hN hv hd hcd, fun F σ H env s Q w => ?_⟩
  obtain ⟨p, d, h1, h2, h3, h4⟩ := s.own i hO
  unfold eVar at w
  rw [h1] at w
  exact ⟨.ref p, h2, w _ H (Ex.refl H) (.ow h4)⟩
theorem mint {i : Int} {j pos} : ME X E O (.Constant (.int i) j pos) (eC (.int i)) := ⟨_, pe_int, fun F σ H env s Q w => w _ H (Ex.refl H) (.int i)⟩
theorem mbl {i : Bool} {j pos} : ME X E O (.Constant (.bool i) j pos) (eC (.bl i)) := ⟨_, pe_bl, fun F σ H env s Q w => w _ H (Ex.refl H) (.bl i)⟩
theorem mnon {j pos} : ME X E O (.Constant .none j pos) (eC .non) := ⟨_, pe_non, fun F σ H env s Q w => w _ H (Ex.refl H) .non⟩
theorem mstr {i : Str} {j pos} : ME X E O (.Constant (.str i) j pos) (eC (.str i)) := ⟨_, pe_str, fun F σ H env s Q w => w _ H (Ex.refl H) (.str i)⟩
/-- a constant of the module -/
theorem mgs {x : Str} {y : Str} {u : Value} {pos : Pos} (hg : Gl X x) (hm : X.mg x = some u) (r : RelV (.str y) u) (hd : (x == ("__debug__" : Str)) = false := by decide) : ME X E O (.Name x pos) (eC (.str y)) := ⟨_, pe_glob hg hm r hd, fun F σ H env s Q w => w _ H (Ex.refl H) (.str y)⟩
theorem mgi {x : Str} {y : Int} {u : Value} {pos : Pos} (hg : Gl X x) (hm : X.mg x = some u) (r : RelV (.int y) u) (hd : (x == ("__debug__" : Str)) = false := by decide) : ME X E O (.Name x pos) (eC (.int y)) := ⟨_, pe_glob hg hm r hd, fun F σ H env s Q w => w _ H (Ex.refl H) (.int y)⟩

/-! ### operators by values -/
def Op1 (K : PySem.W.Frag) (mg : Str → Option Value) (r : V → Hp → VK → Prop) (f : D → R D) : Prop := ∀ (E : XK) (A : List Addr) (H : Hp) (x : V) (dx : D), Off A H → WR K mg A H x dx → ∀ Q, Wn K mg E A H (rD K mg A) Q (f dx) → r x H Q
def Op2 (K : PySem.W.Frag) (mg : Str → Option Value) (r : R2) (f : D → D → R D) : Prop := ∀ (E : XK) (A : List Addr) (H : Hp) (x y : V) (dx dy : D), Off A H → WR K mg A H x dx → WR K mg A H y dy → ∀ Q, Wn K mg E A H (rD K mg A) Q (f dx dy) → r x y H Q
def Op2F (K : PySem.W.Frag) (mg : Str → Option Value) (r : R2) (f : D → D → R D) : Prop := ∀ (E : XK) (A : List Addr) (H : Hp) (x y : V) (dx dy : D), Off A H → WR K mg A H x dx → WR K mg A H y dy → ∀ Q, Wn K mg E A H (rF K mg A H) Q (f dx dy) → r x y H Q
def e1 (f : D → R D) (a : EM) : EM := fun env => (a env).bind f
def e2 (f : D → D → R D) (a b : EM) : EM := fun env => (a env).bind fun x => (b env).bind fun y => f x y
theorem s_op {r : R2} {f : D → D → R D} {ta tb : TE} (so : Op2 X.K X.mg r f) (ha : SW X.K X.mg E F O ta ma) (hb : SW X.K X.mg E F O tb mb) : SE X.K X.mg E F O (tOp r ta tb) (e2 f ma mb) := fun σ H env s Q w =>
  ha σ H env s _ (w.seq fun x dx H1 q1 r1 w1 => hb σ H1 env (s.ext q1) _ (w1.seq fun y dy H2 q2 r2 w2 => so (E σ) _ H2 x y dx dy ((s.ext (q1.trans q2)).mb) (r1.mono q2) r2 _ w2))
theorem Wn.freshBack {E : XK} {K : PySem.W.Frag} {mg : Str → Option Value} {A : List Addr} {H H1 : Hp} {Q : VK} {r : R D} (e : Ex H H1) (h : Wn K mg E A H (rF K mg A H) Q r) : Wn K mg E A H1 (rF K mg A H1) Q r := by
  cases r with
  | ok d => exact fun v H' e' ⟨p, a, b, c⟩ => h v H' (e.trans e') ⟨p, a, e.back b, c⟩
  | exc c fs => exact XW.mono h e
  | bad => exact h
theorem Wn.seqF {E : XK} {K : PySem.W.Frag} {mg : Str → Option Value} {A : List Addr} {H : Hp} {α β : Type} {rel : Hp → α → β → Prop} {Q : α → Hp → Prop} {Q2 : VK} {r : R β} {f : β → R D} (h : Wn K mg E A H (rF K mg A H) Q2 (r.bind f))
    (k : ∀ a b H', Ex H H' → rel H' a b → Wn K mg E A H' (rF K mg A H') Q2 (f b) → Q a H') : Wn K mg E A H rel Q r := by
  cases r with
  | ok b => exact fun a H' e q => k a b H' e q (Wn.freshBack e h)
  | exc c fs => exact h
  | bad => exact h
theorem s_opF {r : R2} {f : D → D → R D} {ta tb : TE} (so : Op2F X.K X.mg r f) (ha : SW X.K X.mg E F O ta ma) (hb : SW X.K X.mg E F O tb mb) : SF X.K X.mg E F O (tOp r ta tb) (e2 f ma mb) := fun σ H env s Q w =>
  ha σ H env s _ (w.seqF fun x dx H1 q1 r1 w1 => hb σ H1 env (s.ext q1) _ (w1.seqF fun y dy H2 q2 r2 w2 => so (E σ) _ H2 x y dx dy ((s.ext (q1.trans q2)).mb) (r1.mono q2) r2 _ w2))
theorem me_bin {op : Operator} {r : R2} {f : D → D → R D} (ho : OpR X (binaryOp op) r) (so : Op2 X.K X.mg r f) (ha : MW X E O a ma) (hb : MW X E O b mb) : ME X E O (.BinOp a op b pos) (e2 f ma mb) := by
  obtain ⟨ta, pa, sa⟩ := ha.ex
  obtain ⟨tb, pb, sb⟩ := hb.ex
  exact ⟨_, pe_op ho pa pb, fun F => s_op so (sa F) (sb F)⟩
theorem mf_bin {op : Operator} {r : R2} {f : D → D → R D} (ho : OpR X (binaryOp op) r) (so : Op2F X.K X.mg r f) (ha : MW X E O a ma) (hb : MW X E O b mb) : MF X E O (.BinOp a op b pos) (e2 f ma mb) := by
  obtain ⟨ta, pa, sa⟩ := ha.ex
  obtain ⟨tb, pb, sb⟩ := hb.ex
  exact ⟨_, pe_op ho pa pb, fun F => s_opF so (sa F) (sb F)⟩
theorem me_cmp {op : CmpOp} {r : R2} {f : D → D → R D} (ho : OpR X (compareOp op) r) (so : Op2 X.K X.mg r f) (ha : MW X E O a ma) (hb : MW X E O b mb) (hm : behindInMarks op b = false) : ME X E O (.Compare a [op] [b] pos) (e2 f ma mb) := by
  obtain ⟨ta, pa, sa⟩ := ha.ex
  obtain ⟨tb, pb, sb⟩ := hb.ex
  exact ⟨_, pe_cmpR ho pa pb hm, fun F => s_op so (sa F) (sb F)⟩
/-- a bool as a test -/
def dB : D → R Bool
  | .bl b => .ok b
  | _ => .bad
def tB1 (a : EM) : TM := fun env => (a env).bind dB
theorem dB_w {E : XK} {K : PySem.W.Frag} {mg : Str → Option Value} {A : List Addr} {H : Hp} {x : V} {dx : D} {Q : Bool → Hp → Prop} (r : WR K mg A H x dx) (w : Wn K mg E A H rB Q (dB dx)) : ∃ k, x = .bl k ∧ Q k H := by
  cases dx <;> first | exact w.elim | skip
  exact ⟨_, r.bl, w _ H (Ex.refl H) rfl⟩
theorem s_test {ta : TE} (ha : SE X.K X.mg E F O ta ma) : ST X.K X.mg E F O (tTest ta) (tB1 ma) := fun σ H env s Q w =>
  ha σ H env s _ (w.seq fun x dx H1 q1 r1 w1 => dB_w (.sh r1) w1)
theorem s_testB {ta : TE} (ha : SW X.K X.mg E F O ta ma) : ST X.K X.mg E F O (tB ta) (tB1 ma) := fun σ H env s Q w =>
  ha σ H env s _ (w.seq fun x dx H1 q1 r1 w1 => dB_w r1 w1)
theorem mt_cmp {op : CmpOp} {r : R2} {f : D → D → R D} (ho : OpR X (compareOp op) r) (so : Op2 X.K X.mg r f) (ha : MW X E O a ma) (hb : MW X E O b mb) (hm : behindInMarks op b = false) : MT X E O (.Compare a [op] [b] pos) (tB1 (e2 f ma mb)) := by
  obtain ⟨ta, pa, sa⟩ := ha.ex
  obtain ⟨tb, pb, sb⟩ := hb.ex
  exact ⟨_, pt_cmpR ho pa pb hm, fun F => s_test (s_op so (sa F) (sb F))⟩
/-- a test that gives a bool (calls, names ..) -/
theorem mt_val (ha : MW X E O a ma) (he : ∀ whole, isTrue a X.env whole = (do let v ← whole; standAt a.pos; holding [v] (truthy v)) := by intro _; rfl) : MT X E O a (tB1 ma) := by
  obtain ⟨ta, pa, sa⟩ := ha.ex
  exact ⟨_, pt_val pa he, fun F => s_testB (sa F)⟩
/-- a op b op' c -/
def eChain (f g : D → D → R D) (a b c : EM) : EM := fun env => (a env).bind fun x => (b env).bind fun y => (f x y).bind fun z => (dB z).bind fun k => if k = true then (c env).bind fun u => g y u else .ok (.bl false)
theorem s_chain {r r' : R2} {f g : D → D → R D} {ta tb tc : TE} (so : Op2 X.K X.mg r f) (so' : Op2 X.K X.mg r' g) (ha : SW X.K X.mg E F O ta ma) (hb : SW X.K X.mg E F O tb mb) (hc : SW X.K X.mg E F O tc mc) : SE X.K X.mg E F O (tChain r r' ta tb tc) (eChain f g ma mb mc) := fun σ H env s Q w =>
  ha σ H env s _ (w.seq fun x dx H1 q1 r1 w1 => hb σ H1 env (s.ext q1) _ (w1.seq fun y dy H2 q2 r2 w2 => so (E σ) _ H2 x y dx dy ((s.ext (q1.trans q2)).mb) (r1.mono q2) r2 _ (w2.seq fun z dz H3 q3 r3 w3 => by
    obtain ⟨k, e1, k2⟩ := dB_w (Q := fun k H3 => Wn X.K X.mg (E σ) (F.l ++ ows O σ) H3 (rD X.K X.mg (F.l ++ ows O σ)) Q (if k = true then (mc env).bind fun u => g dy u else .ok (.bl false))) (.sh r3) (w3.seq fun a b H' _ e q => by cases e; exact q)
    refine ⟨k, e1, ?_⟩
    cases k with
    | true =>
      have s3 := s.ext (q1.trans (q2.trans q3))
      exact hc σ H3 env s3 _ (Wn.seq (f := fun u => g dy u) k2 fun u du H4 q4 r4 w4 => so' (E σ) _ H4 y u dy du ((s3.ext q4).mb) (r2.mono (q3.trans q4)) r4 _ w4)
    | false => exact k2 _ H3 (Ex.refl _) (.bl false))))
theorem me_chain {op op' : CmpOp} {r r' : R2} {f g : D → D → R D} (ho : OpR X (compareOp op) r) (so : Op2 X.K X.mg r f) (ho' : OpR X (compareOp op') r') (so' : Op2 X.K X.mg r' g) (ha : MW X E O a ma) (hb : MW X E O b mb) (hc : MW X E O c mc)
    (hm : lastMarks [op, op'] [b, c] = false := by with_unfolding_all rfl) : ME X E O (.Compare a [op, op'] [b, c] pos) (eChain f g ma mb mc) := by
  obtain ⟨ta, pa, sa⟩ := ha.ex
  obtain ⟨tb, pb, sb⟩ := hb.ex
  obtain ⟨tc, pc, sc⟩ := hc.ex
  exact ⟨_, pe_chain ho ho' pa pb pc hm, fun F => s_chain so so' (sa F) (sb F) (sc F)⟩
theorem mt_chain {op op' : CmpOp} {r r' : R2} {f g : D → D → R D} (ho : OpR X (compareOp op) r) (so : Op2 X.K X.mg r f) (ho' : OpR X (compareOp op') r') (so' : Op2 X.K X.mg r' g) (ha : MW X E O a ma) (hb : MW X E O b mb) (hc : MW X E O c mc)
    (hm : lastMarks [op, op'] [b, c] = false := by with_unfolding_all rfl) : MT X E O (.Compare a [op, op'] [b, c] pos) (tB1 (eChain f g ma mb mc)) := by
  obtain ⟨ta, pa, sa⟩ := ha.ex
  obtain ⟨tb, pb, sb⟩ := hb.ex
  obtain ⟨tc, pc, sc⟩ := hc.ex
  exact ⟨_, pt_chain ho ho' pa pb pc hm, fun F => s_test (s_chain so so' (sa F) (sb F) (sc F))⟩
end
end MD

namespace MD
open PySem L2
section
variable {X : Cx} {E : L2.St → XK} {F : Fm} {O : List Nat} {a b c e : Expr} {es : List Expr} {ma mb mc : EM} {ta' tb' : TM} {as : AM} {pos : Pos}
/-! ### and, or, not, if .. else -/
def tAnd' (a b : TM) : TM := fun env => (a env).bind fun k => if k = true then b env else .ok false
def tOr' (a b : TM) : TM := fun env => (a env).bind fun k => if k = true then .ok true else b env
def tNot' (a : TM) : TM := fun env => (a env).bind fun k => .ok (!k)
def eAnd (a b : EM) : EM := fun env => (a env).bind fun x => (dB x).bind fun k => if k = true then b env else .ok (.bl false)
def eOr (a b : EM) : EM := fun env => (a env).bind fun x => (dB x).bind fun k => if k = true then .ok (.bl true) else b env
def eNot (a : EM) : EM := fun env => (a env).bind fun x => (dB x).bind fun k => .ok (.bl (!k))
def eIf (t : TM) (a b : EM) : EM := fun env => (t env).bind fun k => if k = true then a env else b env
theorem mtw_and1 (h : MT X E O a ta') : MTW X E O (.BoolOp .And [a] pos) ta' := let ⟨_, p, s⟩ := h.ex; ⟨_, pw_and1 p, s⟩
theorem mtw_or1 (h : MT X E O a ta') : MTW X E O (.BoolOp .Or [a] pos) ta' := let ⟨_, p, s⟩ := h.ex; ⟨_, pw_or1 p, s⟩
theorem s_and {t u : TT} (ha : ST X.K X.mg E F O t ta') (hb : ST X.K X.mg E F O u tb') : ST X.K X.mg E F O (tAnd t u) (tAnd' ta' tb') := fun σ H env s Q w =>
  ha σ H env s _ (w.seq fun k k' H1 e1 q w1 => by
    cases q
    cases k with
    | true => exact hb σ H1 env (s.ext e1) _ w1
    | false => exact w1 _ H1 (Ex.refl _) rfl)
theorem s_or {t u : TT} (ha : ST X.K X.mg E F O t ta') (hb : ST X.K X.mg E F O u tb') : ST X.K X.mg E F O (tOr t u) (tOr' ta' tb') := fun σ H env s Q w =>
  ha σ H env s _ (w.seq fun k k' H1 e1 q w1 => by
    cases q
    cases k with
    | true => exact w1 _ H1 (Ex.refl _) rfl
    | false => exact hb σ H1 env (s.ext e1) _ w1)
theorem mtw_and {rest : List Expr} (ha : MT X E O a ta') (hb : MTW X E O (.BoolOp .And (b :: rest) pos) tb') : MTW X E O (.BoolOp .And (a :: b :: rest) pos) (tAnd' ta' tb') := by
  obtain ⟨t, p, s⟩ := ha.ex
  obtain ⟨u, q, z⟩ := hb.ex
  exact ⟨_, pw_and p q, fun F => s_and (s F) (z F)⟩
theorem mtw_or {rest : List Expr} (ha : MT X E O a ta') (hb : MTW X E O (.BoolOp .Or (b :: rest) pos) tb') : MTW X E O (.BoolOp .Or (a :: b :: rest) pos) (tOr' ta' tb') := by
  obtain ⟨t, p, s⟩ := ha.ex
  obtain ⟨u, q, z⟩ := hb.ex
  exact ⟨_, pw_or p q, fun F => s_or (s F) (z F)⟩
theorem mtw (h : MTW X E O e ta') : MT X E O e ta' := let ⟨_, p, s⟩ := h.ex; ⟨_, p.pt, s⟩
theorem mt_not (h : MT X E O a ta') : MT X E O (.UnaryOp .Not a pos) (tNot' ta') := by
  obtain ⟨t, p, s⟩ := h.ex
  exact ⟨_, pt_not p, fun F σ H env r Q w => s F σ H env r _ (w.seq fun k k' H1 e1 q w1 => by cases q; exact w1 _ H1 (Ex.refl _) rfl)⟩
theorem me_one {op} (h : ME X E O a ma) : ME X E O (.BoolOp op [a] pos) ma := let ⟨_, p, s⟩ := h.ex; ⟨_, pe_one p, s⟩
theorem me_and {rest : List Expr} (ha : MW X E O a ma) (hb : ME X E O (.BoolOp .And (b :: rest) pos) mb) : ME X E O (.BoolOp .And (a :: b :: rest) pos) (eAnd ma mb) := by
  obtain ⟨t, p, s⟩ := ha.ex
  obtain ⟨u, q, z⟩ := hb.ex
  refine ⟨_, pe_and p q, fun F σ H env r Q w => s F σ H env r _ (w.seq fun x dx H1 e1 q1 w1 => ?_)⟩
  obtain ⟨k, e2, w2⟩ := dB_w (Q := fun k H => Wn X.K X.mg (E σ) (F.l ++ ows O σ) H (rD X.K X.mg (F.l ++ ows O σ)) Q (if k = true then mb env else .ok (.bl false))) q1 (w1.seq fun a b H' _ e q => by cases e; exact q)
  refine ⟨k, e2, ?_⟩
  cases k with
  | true => exact z F σ H1 env (r.ext e1) _ w2
  | false => exact w2 _ H1 (Ex.refl _) (.bl false)
theorem me_or {rest : List Expr} (ha : MW X E O a ma) (hb : ME X E O (.BoolOp .Or (b :: rest) pos) mb) : ME X E O (.BoolOp .Or (a :: b :: rest) pos) (eOr ma mb) := by
  obtain ⟨t, p, s⟩ := ha.ex
  obtain ⟨u, q, z⟩ := hb.ex
  refine ⟨_, pe_or p q, fun F σ H env r Q w => s F σ H env r _ (w.seq fun x dx H1 e1 q1 w1 => ?_)⟩
  obtain ⟨k, e2, w2⟩ := dB_w (Q := fun k H => Wn X.K X.mg (E σ) (F.l ++ ows O σ) H (rD X.K X.mg (F.l ++ ows O σ)) Q (if k = true then .ok (.bl true) else mb env)) q1 (w1.seq fun a b H' _ e q => by cases e; exact q)
  refine ⟨k, e2, ?_⟩
  cases k with
  | true => exact w2 _ H1 (Ex.refl _) (.bl true)
  | false => exact z F σ H1 env (r.ext e1) _ w2
theorem me_not (ha : MW X E O a ma) : ME X E O (.UnaryOp .Not a pos) (eNot ma) := by
  obtain ⟨t, p, s⟩ := ha.ex
  refine ⟨_, pe_not p, fun F σ H env r Q w => s F σ H env r _ (w.seq fun x dx H1 e1 q1 w1 => ?_)⟩
  obtain ⟨k, e2, w2⟩ := dB_w (Q := fun k H => Wn X.K X.mg (E σ) (F.l ++ ows O σ) H (rD X.K X.mg (F.l ++ ows O σ)) Q (.ok (.bl (!k)))) q1 (w1.seq fun a b H' _ e q => by cases e; exact q)
  exact ⟨k, e2, w2 _ H1 (Ex.refl _) (.bl _)⟩
theorem me_if (ht : MT X E O c ta') (ha : ME X E O a ma) (hb : ME X E O b mb) : ME X E O (.IfExp c a b pos) (eIf ta' ma mb) := by
  obtain ⟨t, p, s⟩ := ht.ex
  obtain ⟨u, q, z⟩ := ha.ex
  obtain ⟨u', q', z'⟩ := hb.ex
  refine ⟨_, pe_ifExp p q q', fun F σ H env r Q w => s F σ H env r _ (w.seq fun k k' H1 e1 q1 w1 => ?_)⟩
  cases q1
  cases k with
  | true => exact z F σ H1 env (r.ext e1) _ w1
  | false => exact z' F σ H1 env (r.ext e1) _ w1

/-! ### arguments, displays -/
def aNil : AM := fun _ => .ok []
def aCons (a : EM) (as : AM) : AM := fun env => (a env).bind fun x => (as env).bind fun xs => .ok (x :: xs)
def eTup (as : AM) : EM := fun env => (as env).bind fun xs => .ok (.tup xs)
def eLst (as : AM) : EM := fun env => (as env).bind fun xs => .ok (.lst xs)
theorem ma_nil : MA X E O [] aNil := ⟨_, pa_nil, fun F σ H env r Q w => w _ H (Ex.refl _) .nil⟩
theorem ma_cons (ha : ME X E O a ma) (hs : MA X E O es as) (hst : starEach (a :: es) X.env = (false, eval a X.env) :: starEach es X.env := by rfl) : MA X E O (a :: es) (aCons ma as) := by
  obtain ⟨t, p, s⟩ := ha.ex
  obtain ⟨u, q, z⟩ := hs.ex
  refine ⟨_, pa_cons p q hst, fun F σ H env r Q w => s F σ H env r _ (w.seq fun x dx H1 e1 q1 w1 => z F σ H1 env (r.ext e1) _ (w1.seq fun xs ds H2 e2 q2 w2 => w2 _ H2 (Ex.refl _) (.cons (DR.mono q1 e2.cutS) q2)))⟩
theorem size_of {n : Nat} (h : n ≤ 100000) : n ≤ sizeLine := Nat.le_trans h (by decide)
/-- as many as the arguments -/
structure MAn (X : Cx) (E : L2.St → XK) (O : List Nat) (es : List Expr) (m : AM) : Prop where
  ma : MA X E O es m
  n : ∀ env xs, m env = .ok xs → xs.length = es.length
theorem man_nil : MAn X E O [] aNil := ⟨ma_nil, fun env xs h => by cases h; rfl⟩
theorem man_cons (ha : ME X E O a ma) (hs : MAn X E O es as) (hst : starEach (a :: es) X.env = (false, eval a X.env) :: starEach es X.env := by rfl) : MAn X E O (a :: es) (aCons ma as) :=
  ⟨ma_cons ha hs.ma hst, fun env xs h => by
    unfold aCons at h
    cases h1 : ma env with
    | ok x =>
      rw [h1] at h
      cases h2 : as env with
      | ok ys =>
        rw [h2] at h
        cases h
        have := hs.n env ys h2
        simp [this]
      | exc c fs => rw [h2] at h; cases h
      | bad => rw [h2] at h; cases h
    | exc c fs => rw [h1] at h; cases h
    | bad => rw [h1] at h; cases h⟩
theorem MAn.seq (h : MAn X E O es as) {ta : TA} {α β : Type} {f : List D → R β} {rel2 : Hp → α → β → Prop} {Q2 : α → Hp → Prop} {Q : List V → Hp → Prop} (sa : SA X.K X.mg E F O ta as) {σ : L2.St} {H : Hp} {env : Env} (r : SR X.K X.mg F O σ H env)
    (w : Wn X.K X.mg (E σ) (F.l ++ ows O σ) H rel2 Q2 ((as env).bind f)) (k : ∀ vs ds H', ds.length = es.length → Ex H H' → DRs X.K X.mg (cut (F.l ++ ows O σ) H') vs ds → Wn X.K X.mg (E σ) (F.l ++ ows O σ) H' rel2 Q2 (f ds) → Q vs H') : ta σ H Q := by
  have hn := h.n env
  refine sa σ H env r _ ?_
  cases q : as env with
  | ok ds => rw [q] at w; exact fun vs H' e z => k vs ds H' (hn ds q) e z (w.mono e)
  | exc c fs => rw [q] at w; exact w
  | bad => rw [q] at w; exact w
theorem me_tup {k} (h : MAn X E O es as) (hl : es.length ≤ 100000 := by decide) : ME X E O (.Tuple es k pos) (eTup as) := by
  obtain ⟨t, p, s⟩ := h.ma.ex
  refine ⟨_, pe_tup p, fun F σ H env r Q w => h.seq (s F) r w fun vs ds H' hn e z w' => ⟨by rw [z.1, hn]; exact size_of hl, fun p hp => w' _ _ (Ex.new hp) (tup_new ((r.ext e).mb) hp z)⟩⟩
theorem mf_lst (h : MAn X E O es as) (hl : es.length ≤ 100000 := by decide) : MF X E O (.List es pos) (eLst as) := by
  obtain ⟨t, p, s⟩ := h.ma.ex
  refine ⟨_, pe_lst p, fun F σ H env r Q w => ?_⟩
  have hn := h.n env
  refine s F σ H env r _ ?_
  unfold eLst at w
  cases q : as env with
  | ok ds =>
    rw [q] at w
    refine fun vs H' e z => ⟨by rw [z.1, hn ds q]; exact size_of hl, fun p hp => w _ _ (e.trans (Ex.new hp)) ?_⟩
    obtain ⟨p', h1, h2, h3⟩ := own_new ((r.ext e).mb) hp z
    exact ⟨p', h1, by cases h1; exact e.back h2, h3⟩
  | exc c fs => rw [q] at w; exact w
  | bad => rw [q] at w; exact w

/-! ### calls of the text's own defs -/
/-- the promise: it hands back what the mirror says -/
def spM (K : PySem.W.Frag) (mg : Str → Option Value) (n : Nat) (f : List D → R D) : Sp := fun vs H Q E => ∃ ds F, ds.length = n ∧ Off F H ∧ DRs K mg (cut F H) vs ds ∧ Wn K mg E F H (rD K mg F) Q (f ds)
def eCall (f : List D → R D) (as : AM) : EM := fun env => (as env).bind f
theorem me_call {x : Str} {f : Addr} {fd : FuncData} {ps : List Str} {k n : Nat} {mf : List D → R D} {p : Pos} (G : FnOk X.prog X.w X.K X.mg X.base (CX X.prog X.w) k f fd ps (spM X.K X.mg n mf)) (hr : Room k X.A) (hm : X.mg x = some (.ref f)) (hk : PySem.W.keepIn X.K (.ref f) = true) (hb : Binds X.K fd ps []) (hx : ∀ σ, PassesAt (CX X.prog X.w) X σ (E σ))
    (h : MAn X E O (a :: es) as) (hn : (a :: es).length = n := by rfl) (hg : Gl X x := by rfl) (hd : (x == ("__debug__" : Str)) = false := by decide) (he : starEach (a :: es) X.env = (false, eval a X.env) :: starEach es X.env := by rfl) (hpl : (backTo pos (starEach es X.env)).any (·.1) = false := by rfl) :
    ME X E O (.Call (.Name x p) (a :: es) [] pos) (eCall mf as) := by
  obtain ⟨t, q, s⟩ := h.ma.ex
  refine ⟨_, pe_callS G hr hg hm hk hb hx q hd he hpl, fun F σ H env r Q w => h.seq (s F) r w fun vs ds H' hl e z w' => ?_⟩
  exact ⟨ds, F.l ++ ows O σ, hl.trans hn, (r.ext e).mb, z, w'⟩
/-! ### calls of built-ins by values -/
def OpC1 (K : PySem.W.Frag) (mg : Str → Option Value) (r : List V → Hp → VK → Prop) (f : D → R D) : Prop := ∀ (E : XK) (A : List Addr) (H : Hp) (x : V) (dx : D), Off A H → WR K mg A H x dx → ∀ Q, Wn K mg E A H (rD K mg A) Q (f dx) → r [x] H Q
def OpC1F (K : PySem.W.Frag) (mg : Str → Option Value) (r : List V → Hp → VK → Prop) (f : D → R D) : Prop := ∀ (E : XK) (A : List Addr) (H : Hp) (x : V) (dx : D), Off A H → WR K mg A H x dx → ∀ Q, Wn K mg E A H (rF K mg A H) Q (f dx) → r [x] H Q
def OpC2 (K : PySem.W.Frag) (mg : Str → Option Value) (r : List V → Hp → VK → Prop) (f : D → D → R D) : Prop := ∀ (E : XK) (A : List Addr) (H : Hp) (x y : V) (dx dy : D), Off A H → WR K mg A H x dx → WR K mg A H y dy → ∀ Q, Wn K mg E A H (rD K mg A) Q (f dx dy) → r [x, y] H Q
theorem s_c1 {r : List V → Hp → VK → Prop} {f : D → R D} {ta : TE} (so : OpC1 X.K X.mg r f) (ha : SW X.K X.mg E F O ta ma) : SE X.K X.mg E F O (tCB r (tCons ta tNil)) (e1 f ma) := fun σ H env s Q w =>
  ha σ H env s _ (w.seq fun x dx H1 q1 r1 w1 => so (E σ) _ H1 x dx ((s.ext q1).mb) r1 _ w1)
theorem s_c1F {r : List V → Hp → VK → Prop} {f : D → R D} {ta : TE} (so : OpC1F X.K X.mg r f) (ha : SW X.K X.mg E F O ta ma) : SF X.K X.mg E F O (tCB r (tCons ta tNil)) (e1 f ma) := fun σ H env s Q w =>
  ha σ H env s _ (w.seqF fun x dx H1 q1 r1 w1 => so (E σ) _ H1 x dx ((s.ext q1).mb) r1 _ w1)
theorem s_c2 {r : List V → Hp → VK → Prop} {f : D → D → R D} {ta tb : TE} (so : OpC2 X.K X.mg r f) (ha : SW X.K X.mg E F O ta ma) (hb : SW X.K X.mg E F O tb mb) : SE X.K X.mg E F O (tCB r (tCons ta (tCons tb tNil))) (e2 f ma mb) := fun σ H env s Q w =>
  ha σ H env s _ (w.seq fun x dx H1 q1 r1 w1 => hb σ H1 env (s.ext q1) _ (w1.seq fun y dy H2 q2 r2 w2 => so (E σ) _ H2 x y dx dy ((s.ext (q1.trans q2)).mb) (r1.mono q2) r2 _ w2))
section
variable {r : List V → Hp → VK → Prop} {f : D → R D} {g : D → D → R D} {x : Str} {id : String} {T : String} {p : Pos}
theorem me_b1 (hc : CallR X (.builtin id) r) (so : OpC1 X.K X.mg r f) (hm : X.mg x = none) (ha : MW X E O a ma) (hg : Gl X x := by rfl) (hv : bootBuiltins x = some (.builtin id) := by decide +kernel) (hn : x ≠ "__name__" := by decide) (hdb : (x == ("__debug__" : Str)) = false := by decide)
    (hst : starEach (a :: []) X.env = (false, eval a X.env) :: starEach [] X.env := by rfl) (hpl : (backTo pos (starEach [] X.env)).any (·.1) = false := by rfl) : ME X E O (.Call (.Name x p) [a] [] pos) (e1 f ma) := by
  obtain ⟨ta, pa, sa⟩ := ha.ex
  exact ⟨_, pe_callB hc hg hm hv (pa_cons pa pa_nil hst) hn hdb hst hpl, fun F => s_c1 so (sa F)⟩
theorem mf_b1 (hc : CallR X (.builtin id) r) (so : OpC1F X.K X.mg r f) (hm : X.mg x = none) (ha : MW X E O a ma) (hg : Gl X x := by rfl) (hv : bootBuiltins x = some (.builtin id) := by decide +kernel) (hn : x ≠ "__name__" := by decide) (hdb : (x == ("__debug__" : Str)) = false := by decide)
    (hst : starEach (a :: []) X.env = (false, eval a X.env) :: starEach [] X.env := by rfl) (hpl : (backTo pos (starEach [] X.env)).any (·.1) = false := by rfl) : MF X E O (.Call (.Name x p) [a] [] pos) (e1 f ma) := by
  obtain ⟨ta, pa, sa⟩ := ha.ex
  exact ⟨_, pe_callB hc hg hm hv (pa_cons pa pa_nil hst) hn hdb hst hpl, fun F => s_c1F so (sa F)⟩
theorem me_b2 (hc : CallR X (.builtin id) r) (so : OpC2 X.K X.mg r g) (hm : X.mg x = none) (ha : MW X E O a ma) (hb : MW X E O b mb) (hg : Gl X x := by rfl) (hv : bootBuiltins x = some (.builtin id) := by decide +kernel) (hn : x ≠ "__name__" := by decide) (hdb : (x == ("__debug__" : Str)) = false := by decide)
    (hst : starEach (a :: [b]) X.env = (false, eval a X.env) :: starEach [b] X.env := by rfl) (hst2 : starEach (b :: []) X.env = (false, eval b X.env) :: starEach [] X.env := by rfl) (hpl : (backTo pos (starEach [b] X.env)).any (·.1) = false := by rfl) : ME X E O (.Call (.Name x p) [a, b] [] pos) (e2 g ma mb) := by
  obtain ⟨ta, pa, sa⟩ := ha.ex
  obtain ⟨tb, pb, sb⟩ := hb.ex
  exact ⟨_, pe_callB hc hg hm hv (pa_cons pa (pa_cons pb pa_nil hst2) hst) hn hdb hst hpl, fun F => s_c2 so (sa F) (sb F)⟩
theorem me_y1 (hc : CallR X (.type T) r) (so : OpC1 X.K X.mg r f) (hm : X.mg x = none) (ha : MW X E O a ma) (hg : Gl X x := by rfl) (hv : bootBuiltins x = some (.type T) := by decide +kernel) (hn : x ≠ "__name__" := by decide) (hdb : (x == ("__debug__" : Str)) = false := by decide)
    (hst : starEach (a :: []) X.env = (false, eval a X.env) :: starEach [] X.env := by rfl) (hpl : (backTo pos (starEach [] X.env)).any (·.1) = false := by rfl) : ME X E O (.Call (.Name x p) [a] [] pos) (e1 f ma) := by
  obtain ⟨ta, pa, sa⟩ := ha.ex
  exact ⟨_, pe_callTy hc hg hm hv (pa_cons pa pa_nil hst) hn hdb hst hpl, fun F => s_c1 so (sa F)⟩
theorem mf_y1 (hc : CallR X (.type T) r) (so : OpC1F X.K X.mg r f) (hm : X.mg x = none) (ha : MW X E O a ma) (hg : Gl X x := by rfl) (hv : bootBuiltins x = some (.type T) := by decide +kernel) (hn : x ≠ "__name__" := by decide) (hdb : (x == ("__debug__" : Str)) = false := by decide)
    (hst : starEach (a :: []) X.env = (false, eval a X.env) :: starEach [] X.env := by rfl) (hpl : (backTo pos (starEach [] X.env)).any (·.1) = false := by rfl) : MF X E O (.Call (.Name x p) [a] [] pos) (e1 f ma) := by
  obtain ⟨ta, pa, sa⟩ := ha.ex
  exact ⟨_, pe_callTy hc hg hm hv (pa_cons pa pa_nil hst) hn hdb hst hpl, fun F => s_c1F so (sa F)⟩
end

/-! ### fields, items, slices -/
/-- what the classes of these names have: no entry of theirs hides the field -/
def FldOk (X : Cx) (cs : List Str) (f : Str) : Prop := ∀ c ∈ cs, ∀ C, X.mg c = some (.ref C) → Cls X.K C ∧ NoAttr X.K C f
def dFld (cs : List Str) (f : Str) : D → R D
  | .obj c es => if c ∈ cs then R.of (es.lookup f) else .bad
  | _ => .bad
theorem lookup_pair {f : Str} : ∀ {fs : List (Str × V)} {es : List (Str × D)} {d : D}, fs.map Prod.fst = es.map Prod.fst → es.lookup f = some d → ∃ (i : Nat) (v : V), fs.lookup f = some v ∧ (fs.map Prod.snd)[i]? = some v ∧ (es.map Prod.snd)[i]? = some d
  | [], es, d, h, e => by
    cases es with
    | nil => cases e
    | cons p es => cases h
  | (g, v) :: fs, es, d, h, e => by
    cases es with
    | nil => cases e
    | cons p es =>
      obtain ⟨g', d'⟩ := p
      simp only [List.map_cons, List.cons.injEq] at h
      obtain ⟨h1, h2⟩ := h
      subst h1
      rw [List.lookup_cons] at e
      cases hb : f == g with
      | true =>
        rw [hb] at e
        cases e
        exact ⟨0, v, by rw [List.lookup_cons, hb], rfl, rfl⟩
      | false =>
        rw [hb] at e
        obtain ⟨i, v', a, b, c⟩ := lookup_pair h2 e
        exact ⟨i + 1, v', by rw [List.lookup_cons, hb]; exact a, by simpa using b, by simpa using c⟩
theorem me_fld {cs : List Str} {f : Str} (hT : FldOk X cs f) (ha : MW X E O a ma) (hb : attributeBase a f X.env (eval a X.env) = eval a X.env := by rfl) : ME X E O (.Attribute a f pos) (e1 (dFld cs f) ma) := by
  obtain ⟨ta, pa, sa⟩ := ha.ex
  refine ⟨_, pe_fld pa hb, fun F σ H env s Q w => sa F σ H env s _ (w.seq fun x dx H1 q1 r1 w1 => ?_)⟩
  cases dx <;> first | exact w1.elim | skip
  rename_i c es
  replace w1 : Wn X.K X.mg (E σ) (F.l ++ ows O σ) H1 (rD X.K X.mg (F.l ++ ows O σ)) Q (if c ∈ cs then R.of (es.lookup f) else .bad) := w1
  by_cases hc : c ∈ cs
  · rw [if_pos hc] at w1
    obtain ⟨p, C, dx, fs, rfl, h1, h2, h3, h4⟩ := r1.obj
    cases hl : es.lookup f with
    | none => rw [hl] at w1; exact w1.elim
    | some d =>
      rw [hl] at w1
      obtain ⟨i, v, l1, l2, l3⟩ := lookup_pair h3 hl
      obtain ⟨t1, t2⟩ := hT c hc C h2
      exact ⟨p, C, dx, fs, v, rfl, h1, t1, t2, l1, w1 v H1 (Ex.refl _) (h4.2 i v d l2 l3)⟩
  · rw [if_neg hc] at w1; exact w1.elim
end
end MD

namespace MD
open PySem L2
instance (i j : Int) : Decidable (CMul i j) := by unfold CMul; infer_instance
instance (i j : Int) : Decidable (CMulW i j) := by unfold CMulW; infer_instance
instance (i j : Int) : Decidable (CDivW i j) := by unfold CDivW; infer_instance
instance (i j : Int) : Decidable (CPow i j) := by unfold CPow; infer_instance
/-- only if -/
def R.when {α : Type} (c : Prop) [Decidable c] (r : R α) : R α := if c then r else .bad
theorem R.when_pos {α : Type} {c : Prop} [Decidable c] {r : R α} (h : c) : R.when c r = r := if_pos h
theorem Wn.when {K : PySem.W.Frag} {mg : Str → Option Value} {E : XK} {A : List Addr} {H : Hp} {α β : Type} {rel : Hp → α → β → Prop} {Q : α → Hp → Prop} {c : Prop} [Decidable c] {r : R β} (w : Wn K mg E A H rel Q (R.when c r)) : c ∧ Wn K mg E A H rel Q r := by
  unfold R.when at w
  by_cases h : c
  · rw [if_pos h] at w; exact ⟨h, w⟩
  · rw [if_neg h] at w; exact w.elim
section
variable {K : PySem.W.Frag} {mg : Str → Option Value}

/-! ### whole numbers -/
def dI2 (f : Int → Int → R D) : D → D → R D
  | .int i, .int j => f i j
  | _, _ => .bad
theorem so_int {r : R2} {f : Int → Int → R D} (h : ∀ (E : XK) (A : List Addr) (H : Hp) i j, ∀ Q : VK, Wn K mg E A H (rD K mg A) Q (f i j) → r (.int i) (.int j) H Q) : Op2 K mg r (dI2 f) := fun E A H x y dx dy _ rx ry Q w => by
  cases dx <;> cases dy <;> first | exact w.elim | skip
  rw [rx.int, ry.int]
  exact h E A H _ _ Q w
def dSub : D → D → R D := dI2 fun i j => .ok (.int (i - j))
theorem so_sub : Op2 K mg (rI0 fun i j => .int (i - j)) dSub := so_int fun E A H i j Q w => ⟨i, j, rfl, rfl, w _ H (Ex.refl _) (.int _)⟩
def dMod : D → D → R D := dI2 fun i j => R.when (0 < j) (.ok (.int (i % j)))
theorem so_mod : Op2 K mg (rI (fun _ j => 0 < j) fun i j => .int (i % j)) dMod := so_int fun E A H i j Q w => let ⟨c, w⟩ := w.when; ⟨i, j, rfl, rfl, c, w _ H (Ex.refl _) (.int _)⟩
def dDiv : D → D → R D := dI2 fun i j => R.when (CDivW i j) (.ok (.int (i / j)))
theorem so_div : Op2 K mg (rI CDivW fun i j => .int (i / j)) dDiv := so_int fun E A H i j Q w => let ⟨c, w⟩ := w.when; ⟨i, j, rfl, rfl, c, w _ H (Ex.refl _) (.int _)⟩
def dPow : D → D → R D := dI2 fun i j => R.when (CPow i j) (.ok (.int (i ^ j.toNat)))
theorem so_pow : Op2 K mg (rI CPow fun i j => .int (i ^ j.toNat)) dPow := so_int fun E A H i j Q w => let ⟨c, w⟩ := w.when; ⟨i, j, rfl, rfl, c, w _ H (Ex.refl _) (.int _)⟩
def dShl : D → D → R D := dI2 fun i j => R.when (CPow i j) (.ok (.int (i * 2 ^ j.toNat)))
theorem so_shl : Op2 K mg (rI CPow fun i j => .int (i * 2 ^ j.toNat)) dShl := so_int fun E A H i j Q w => let ⟨c, w⟩ := w.when; ⟨i, j, rfl, rfl, c, w _ H (Ex.refl _) (.int _)⟩
def dShr : D → D → R D := dI2 fun i j => R.when (0 ≤ j) (.ok (.int (i / 2 ^ j.toNat)))
theorem so_shr : Op2 K mg (rI (fun _ j => 0 ≤ j) fun i j => .int (i / 2 ^ j.toNat)) dShr := so_int fun E A H i j Q w => let ⟨c, w⟩ := w.when; ⟨i, j, rfl, rfl, c, w _ H (Ex.refl _) (.int _)⟩
def dAnd : D → D → R D := dI2 fun i j => .ok (.int (Builtin.bitAnd i j))
theorem so_and : Op2 K mg (rI0 fun i j => .int (Builtin.bitAnd i j)) dAnd := so_int fun E A H i j Q w => ⟨i, j, rfl, rfl, w _ H (Ex.refl _) (.int _)⟩
def dOr : D → D → R D := dI2 fun i j => .ok (.int (Builtin.bitOr i j))
theorem so_or : Op2 K mg (rI0 fun i j => .int (Builtin.bitOr i j)) dOr := so_int fun E A H i j Q w => ⟨i, j, rfl, rfl, w _ H (Ex.refl _) (.int _)⟩
def dXor : D → D → R D := dI2 fun i j => .ok (.int (Builtin.bitXor i j))
theorem so_xor : Op2 K mg (rI0 fun i j => .int (Builtin.bitXor i j)) dXor := so_int fun E A H i j Q w => ⟨i, j, rfl, rfl, w _ H (Ex.refl _) (.int _)⟩
def dLt : D → D → R D := dI2 fun i j => .ok (.bl (decide (i < j)))
theorem so_lt : Op2 K mg (rI0 fun i j => .bl (decide (i < j))) dLt := so_int fun E A H i j Q w => ⟨i, j, rfl, rfl, w _ H (Ex.refl _) (.bl _)⟩
def dLe : D → D → R D := dI2 fun i j => .ok (.bl (decide (i ≤ j)))
theorem so_le : Op2 K mg (rI0 fun i j => .bl (decide (i ≤ j))) dLe := so_int fun E A H i j Q w => ⟨i, j, rfl, rfl, w _ H (Ex.refl _) (.bl _)⟩
def dGt : D → D → R D := dI2 fun i j => .ok (.bl (decide (j < i)))
theorem so_gt : Op2 K mg (rI0 fun i j => .bl (decide (j < i))) dGt := so_int fun E A H i j Q w => ⟨i, j, rfl, rfl, w _ H (Ex.refl _) (.bl _)⟩
def dGe : D → D → R D := dI2 fun i j => .ok (.bl (decide (j ≤ i)))
theorem so_ge : Op2 K mg (rI0 fun i j => .bl (decide (j ≤ i))) dGe := so_int fun E A H i j Q w => ⟨i, j, rfl, rfl, w _ H (Ex.refl _) (.bl _)⟩

/-! ### +, * -/
def rAdd3 : R2 := fun x y H Q => (rI0 (fun i j => .int (i + j)) x y H Q) ∨ ((∃ i j, x = .str i ∧ y = .str j ∧ i.length + j.length ≤ sizeLine ∧ Q (.str (i ++ j)) H) ∨ rCat x y H Q)
theorem op_add3 {X : Cx} : OpR X (binaryOp .Add) rAdd3 := OpR.or op_add (OpR.or op_add_str op_cat)
def dAdd : D → D → R D
  | .int i, .int j => .ok (.int (i + j))
  | .str x, .str y => R.when (x.length + y.length ≤ sizeLine) (.ok (.str (x ++ y)))
  | .lst xs, .lst ys => R.when (xs.length + ys.length ≤ sizeLine) (.ok (.lst (xs ++ ys)))
  | _, _ => .bad
theorem cat_ok {A : List Addr} {H : Hp} {x y : V} {xs ys : List D} (h : xs.length + ys.length ≤ sizeLine) (rx : WR K mg A H x (.lst xs)) (ry : WR K mg A H y (.lst ys)) {Q : VK} (q : ∀ vs ws, DRs K mg (cut A H) (vs ++ ws) (xs ++ ys) → ∀ p, H p = none → Q (.ref p) (upd H p (.lst (vs ++ ws)))) : rCat x y H Q := by
  obtain ⟨p, vs, rfl, h1, h2⟩ := rx.lst
  obtain ⟨p', ws, rfl, h3, h4⟩ := ry.lst
  exact ⟨p, p', vs, ws, rfl, rfl, h1, h3, by rw [h2.1, h4.1]; exact h, q vs ws (h2.append h4)⟩
theorem so_add : Op2 K mg rAdd3 dAdd := fun E A H x y dx dy off rx ry Q w => by
  cases dx <;> cases dy <;> first | exact w.elim | skip
  · rw [rx.int, ry.int]
    exact .inl ⟨_, _, rfl, rfl, w _ H (Ex.refl _) (.int _)⟩
  · rw [rx.str, ry.str]
    obtain ⟨c, w⟩ := Wn.when w
    exact .inr (.inl ⟨_, _, rfl, rfl, c, w _ H (Ex.refl _) (.str _)⟩)
  · obtain ⟨c, w⟩ := Wn.when w
    exact .inr (.inr (cat_ok c rx ry fun vs ws hd p hp => w _ _ (Ex.new hp) (lst_new off hp hd)))
def dCat : D → D → R D
  | .lst xs, .lst ys => R.when (xs.length + ys.length ≤ sizeLine) (.ok (.lst (xs ++ ys)))
  | _, _ => .bad
theorem so_cat : Op2F K mg rCat dCat := fun E A H x y dx dy off rx ry Q w => by
  cases dx <;> cases dy <;> first | exact w.elim | skip
  obtain ⟨c, w⟩ := Wn.when w
  exact cat_ok c rx ry fun vs ws hd p hp => w _ _ (Ex.new hp) (own_new off hp hd)
def rMul3 : R2 := fun x y H Q => (rI CMul (fun i j => .int (i * j)) x y H Q ∨ rI CMulW (fun i j => .int (i * j)) x y H Q) ∨ rRep x y H Q
theorem op_mul3 {X : Cx} : OpR X (binaryOp .Mult) rMul3 := OpR.or (OpR.or op_mul op_mulW) op_rep
def CRep (n : Nat) (k : Int) : Prop := -(2 ^ 63) ≤ k ∧ k < 2 ^ 63 ∧ n * k.toNat ≤ sizeLine
instance (n : Nat) (k : Int) : Decidable (CRep n k) := by unfold CRep; infer_instance
def dMul : D → D → R D
  | .int i, .int j => R.when (CMul i j ∨ CMulW i j) (.ok (.int (i * j)))
  | .lst xs, .int k => R.when (CRep xs.length k) (.ok (.lst (List.replicate k.toNat xs).flatten))
  | _, _ => .bad
theorem drs_rep {G : Hp} {vs : List V} {ds : List D} (h : DRs K mg G vs ds) : ∀ k : Nat, DRs K mg G (List.replicate k vs).flatten (List.replicate k ds).flatten
  | 0 => .nil
  | k + 1 => by
    rw [List.replicate_succ, List.replicate_succ, List.flatten_cons, List.flatten_cons]
    exact h.append (drs_rep h k)
theorem rep_ok {A : List Addr} {H : Hp} {x y : V} {xs : List D} {k : Int} (h : CRep xs.length k) (rx : WR K mg A H x (.lst xs)) (ry : WR K mg A H y (.int k)) {Q : VK} (q : ∀ vs, DRs K mg (cut A H) (List.replicate k.toNat vs).flatten (List.replicate k.toNat xs).flatten → ∀ p, H p = none → Q (.ref p) (upd H p (.lst (List.replicate k.toNat vs).flatten))) : rRep x y H Q := by
  obtain ⟨p, vs, rfl, h1, h2⟩ := rx.lst
  rw [ry.int]
  exact ⟨p, k, vs, rfl, rfl, h1, h.1, h.2.1, by rw [h2.1]; exact h.2.2, q vs (drs_rep h2 _)⟩
theorem so_mul : Op2 K mg rMul3 dMul := fun E A H x y dx dy off rx ry Q w => by
  cases dx <;> cases dy <;> first | exact w.elim | skip
  · rw [rx.int, ry.int]
    obtain ⟨c, w⟩ := Wn.when w
    rcases c with c | c
    · exact .inl (.inl ⟨_, _, rfl, rfl, c, w _ H (Ex.refl _) (.int _)⟩)
    · exact .inl (.inr ⟨_, _, rfl, rfl, c, w _ H (Ex.refl _) (.int _)⟩)
  · obtain ⟨c, w⟩ := Wn.when w
    exact .inr (rep_ok c rx ry fun vs hd p hp => w _ _ (Ex.new hp) (lst_new off hp hd))
def dRep : D → D → R D
  | .lst xs, .int k => R.when (CRep xs.length k) (.ok (.lst (List.replicate k.toNat xs).flatten))
  | _, _ => .bad
theorem so_rep : Op2F K mg rRep dRep := fun E A H x y dx dy off rx ry Q w => by
  cases dx <;> cases dy <;> first | exact w.elim | skip
  obtain ⟨c, w⟩ := Wn.when w
  exact rep_ok c rx ry fun vs hd p hp => w _ _ (Ex.new hp) (own_new off hp hd)
def Op1U (K : PySem.W.Frag) (mg : Str → Option Value) (r : V → Hp → VK → Prop) (f : D → R D) : Prop := ∀ (E : XK) (A : List Addr) (H : Hp) (x : V) (dx : D), Off A H → WR K mg A H x dx → ∀ Q, Wn K mg E A H (rD K mg A) Q (f dx) → r x H Q
def dNeg : D → R D
  | .int i => .ok (.int (-i))
  | _ => .bad
theorem so_neg : Op1U K mg (rU fun i => .int (-i)) dNeg := fun E A H x dx _ rx Q w => by
  cases dx <;> first | exact w.elim | skip
  rw [rx.int]
  exact ⟨_, rfl, w _ H (Ex.refl _) (.int _)⟩

/-! ### ==, != -/
mutual
def D.py : D → PyData
  | .non => .none
  | .bl b => .bool b
  | .int i => .int i
  | .str x => .str x
  | .lst xs => .list (pyL xs)
  | .tup xs => .tuple (pyL xs)
  | .scr xs => .list (pyL xs)
  | .ktp xs => .tuple (pyL xs)
  | .dct _ => .none
  | .dik _ => .none
  | .obj _ _ => .none
def pyL : List D → List PyData
  | [] => []
  | x :: xs => x.py :: pyL xs
end
mutual
def D.pl : D → Bool
  | .non => true
  | .bl _ => true
  | .int _ => true
  | .str _ => true
  | .lst xs => plL xs
  | .tup xs => plL xs
  | .scr xs => plL xs
  | .ktp xs => plL xs
  | .dct _ => false
  | .dik _ => false
  | .obj _ _ => false
def plL : List D → Bool
  | [] => true
  | x :: xs => x.pl && plL xs
end
theorem plL_get : ∀ {ds : List D} {i : Nat} {d : D}, plL ds = true → ds[i]? = some d → d.pl = true
  | [], i, d, _, h => by simp at h
  | x :: xs, 0, d, p, h => by
    simp at h; subst h
    unfold plL at p
    exact (Bool.and_eq_true_iff.mp p).1
  | x :: xs, i + 1, d, p, h => by
    unfold plL at p
    exact plL_get (Bool.and_eq_true_iff.mp p).2 (by simpa using h)
theorem dpAll_of {H : Hp} : ∀ {vs : List V} {ds : List D}, vs.length = ds.length → (∀ (i : Nat) v d, vs[i]? = some v → ds[i]? = some d → Dp K H v d.py) → DpAll K H vs (pyL ds)
  | [], [], _, _ => by unfold pyL; exact .nil
  | [], d :: ds, h, _ => by simp at h
  | v :: vs, [], h, _ => by simp at h
  | v :: vs, d :: ds, h, f => by
    unfold pyL
    exact .cons (f 0 v d rfl rfl) (dpAll_of (by simpa using h) fun i x y a b => f (i + 1) x y (by simpa using a) (by simpa using b))
theorem dp_of {G H : Hp} {v : V} {d : D} (h : DR K mg G v d) (e : Ex G H) (p : d.pl = true) : Dp K H v d.py := by
  induction h with
  | non => unfold D.py; exact .non
  | bl b => unfold D.py; exact .bl b
  | int i => unfold D.py; exact .int i
  | str x => unfold D.py; exact .str x
  | lst h1 h2 _ ih =>
    unfold D.pl at p
    unfold D.py
    exact .lst (SqL.of (e _ _ h1)) (dpAll_of h2 fun i v d a b => ih i v d a b (plL_get p b))
  | tup h1 h2 _ ih =>
    unfold D.pl at p
    unfold D.py
    exact .tup (SqT.of (e _ _ h1)) (dpAll_of h2 fun i v d a b => ih i v d a b (plL_get p b))
  | ktp h1 h2 _ ih =>
    unfold D.pl at p
    unfold D.py
    exact .tup (e.sqT h1) (dpAll_of h2 fun i v d a b => ih i v d a b (plL_get p b))
  | scr h1 h2 _ ih =>
    unfold D.pl at p
    unfold D.py
    exact .lst (e.sqL h1) (dpAll_of h2 fun i v d a b => ih i v d a b (plL_get p b))
  | dct _ _ _ _ => unfold D.pl at p; cases p
  | dik _ _ _ _ => unfold D.pl at p; cases p
  | obj _ _ _ _ _ => unfold D.pl at p; cases p
theorem dp_wr {A : List Addr} {H : Hp} {v : V} {d : D} (h : WR K mg A H v d) (p : d.pl = true) : Dp K H v d.py := by
  cases h with
  | sh h => exact dp_of h Ex.ofCut p
  | ow h =>
    cases h with
    | lst h1 h2 =>
      unfold D.pl at p
      unfold D.py
      exact .lst (SqL.of h1) (dpAll_of h2.1 fun i v d a b => dp_of (h2.2 i v d a b) Ex.ofCut (plL_get p b))
    | dct _ _ _ => unfold D.pl at p; cases p
    | dik _ _ _ => unfold D.pl at p; cases p
    | obj _ _ _ _ => unfold D.pl at p; cases p
def rEq2 (K : PySem.W.Frag) : R2 := fun x y H Q => rEq x y H Q ∨ rEqD K x y H Q
def rNe2 (K : PySem.W.Frag) : R2 := fun x y H Q => rNe x y H Q ∨ rNeD K x y H Q
theorem op_eq2 {X : Cx} {k : Nat} (hr : Room k X.A) : OpR X (compareOp .Eq) (rEq2 X.K) := OpR.or op_eq (op_eqD hr.units)
theorem op_ne2 {X : Cx} {k : Nat} (hr : Room k X.A) : OpR X (compareOp .NotEq) (rNe2 X.K) := OpR.or op_ne (op_neD hr.units)
/-- are these two equal -/
def dEqB (x y : D) : R Bool := match x, y with
  | .int i, .int j => .ok (decide (i = j))
  | .str i, .str j => .ok (decide (i = j))
  | .bl i, .bl j => .ok (decide (i = j))
  | x, y => R.when (x.pl = true ∧ y.pl = true ∧ SeqAt.shaped x.py = true ∧ SeqAt.shaped y.py = true) (.ok (PyData.eqv x.py y.py))
def dEq (x y : D) : R D := (dEqB x y).bind fun b => .ok (.bl b)
def dNe (x y : D) : R D := (dEqB x y).bind fun b => .ok (.bl (!b))
theorem eqB_ok {A : List Addr} {H : Hp} {x y : V} {dx dy : D} {b : Bool} (rx : WR K mg A H x dx) (ry : WR K mg A H y dy) (h : dEqB dx dy = .ok b) :
    (scal x y = true ∧ decide (x = y) = b) ∨ ∃ d e, Dp K H x d ∧ Dp K H y e ∧ SeqAt.shaped d = true ∧ SeqAt.shaped e = true ∧ PyData.eqv d e = b := by
  have gen : ∀ {x y : V} {dx dy : D}, WR K mg A H x dx → WR K mg A H y dy → R.when (dx.pl = true ∧ dy.pl = true ∧ SeqAt.shaped dx.py = true ∧ SeqAt.shaped dy.py = true) (.ok (PyData.eqv dx.py dy.py)) = .ok b →
      (scal x y = true ∧ decide (x = y) = b) ∨ ∃ d e, Dp K H x d ∧ Dp K H y e ∧ SeqAt.shaped d = true ∧ SeqAt.shaped e = true ∧ PyData.eqv d e = b := by
    intro x y dx dy rx ry h
    unfold R.when at h
    by_cases c : dx.pl = true ∧ dy.pl = true ∧ SeqAt.shaped dx.py = true ∧ SeqAt.shaped dy.py = true
    · rw [if_pos c] at h
      cases h
      exact .inr ⟨_, _, dp_wr rx c.1, dp_wr ry c.2.1, c.2.2.1, c.2.2.2, rfl⟩
    · rw [if_neg c] at h; cases h
  cases dx <;> cases dy <;> first
    | exact gen rx ry h
    | (cases h; rw [WR.int rx, WR.int ry]; exact .inl ⟨rfl, by simp⟩)
    | (cases h; rw [WR.str rx, WR.str ry]; exact .inl ⟨rfl, by simp⟩)
    | (cases h; rw [WR.bl rx, WR.bl ry]; exact .inl ⟨rfl, by simp⟩)
theorem so_eq : Op2 K mg (rEq2 K) dEq := fun E A H x y dx dy off rx ry Q w => by
  unfold dEq at w
  cases h : dEqB dx dy with
  | ok b =>
    rw [h] at w
    rcases eqB_ok rx ry h with ⟨a, e⟩ | ⟨d, e, a1, a2, a3, a4, a5⟩
    · exact .inl ⟨a, by rw [e]; exact w _ H (Ex.refl _) (.bl _)⟩
    · exact .inr ⟨d, e, a1, a2, a3, a4, by rw [a5]; exact w _ H (Ex.refl _) (.bl _)⟩
  | exc c fs =>
    exfalso
    cases dx <;> cases dy <;> simp [dEqB, R.when] at h <;> split at h <;> cases h
  | bad => rw [h] at w; exact w.elim
theorem so_ne : Op2 K mg (rNe2 K) dNe := fun E A H x y dx dy off rx ry Q w => by
  unfold dNe at w
  cases h : dEqB dx dy with
  | ok b =>
    rw [h] at w
    rcases eqB_ok rx ry h with ⟨a, e⟩ | ⟨d, e, a1, a2, a3, a4, a5⟩
    · exact .inl ⟨a, by rw [e]; exact w _ H (Ex.refl _) (.bl _)⟩
    · exact .inr ⟨d, e, a1, a2, a3, a4, by rw [a5]; exact w _ H (Ex.refl _) (.bl _)⟩
  | exc c fs =>
    exfalso
    cases dx <;> cases dy <;> simp [dEqB, R.when] at h <;> split at h <;> cases h
  | bad => rw [h] at w; exact w.elim

/-! ### is None -/
def D.isN : D → Bool
  | .non => true
  | _ => false
def dIsN (x y : D) : R D := match y with
  | .non => .ok (.bl x.isN)
  | _ => .bad
def dNotN (x y : D) : R D := match y with
  | .non => .ok (.bl (!x.isN))
  | _ => .bad
theorem isN_eq {A : List Addr} {H : Hp} {x : V} {dx : D} (rx : WR K mg A H x dx) : decide (x = .non) = dx.isN := by
  cases rx with
  | sh h => cases h <;> simp [D.isN]
  | ow h => cases h <;> simp [D.isN]
theorem so_isN : Op2 K mg (fun x y H Q => y = .non ∧ Q (.bl (decide (x = .non))) H) dIsN := fun E A H x y dx dy off rx ry Q w => by
  cases dy <;> first | exact w.elim | skip
  exact ⟨ry.non, by rw [isN_eq rx]; exact w _ H (Ex.refl _) (.bl _)⟩
theorem so_notN : Op2 K mg (fun x y H Q => y = .non ∧ Q (.bl (!decide (x = .non))) H) dNotN := fun E A H x y dx dy off rx ry Q w => by
  cases dy <;> first | exact w.elim | skip
  exact ⟨ry.non, by rw [isN_eq rx]; exact w _ H (Ex.refl _) (.bl _)⟩

/-! ### in, not in: a flat value in a sequence, a sign in a text, a key in a dict -/
/-- a flat value's V -/
def D.fv : D → Option V
  | .non => some .non
  | .bl b => some (.bl b)
  | .int i => some (.int i)
  | .str x => some (.str x)
  | _ => none
def fvs (ds : List D) : Option (List V) := ds.mapM D.fv
theorem fv_ok {A : List Addr} {H : Hp} {x v : V} {d : D} (r : WR K mg A H x d) (h : d.fv = some v) : x = v ∧ flatV v = true := by
  cases d <;> cases h
  · exact ⟨r.non, rfl⟩
  · exact ⟨r.bl, rfl⟩
  · exact ⟨r.int, rfl⟩
  · exact ⟨r.str, rfl⟩
theorem fvs_cons {d : D} {ds : List D} {us : List V} (h : fvs (d :: ds) = some us) : ∃ u r, us = u :: r ∧ d.fv = some u ∧ fvs ds = some r := by
  unfold fvs at h ⊢
  rw [List.mapM_cons] at h
  cases h1 : d.fv with
  | none => rw [h1] at h; cases h
  | some u =>
    rw [h1] at h
    cases h2 : List.mapM D.fv ds with
    | none => rw [h2] at h; cases h
    | some r => rw [h2] at h; cases h; exact ⟨u, r, rfl, rfl, rfl⟩
theorem fvs_ok {G : Hp} : ∀ {ds : List D} {vs us : List V}, DRs K mg G vs ds → fvs ds = some us → vs = us ∧ us.all flatV = true
  | [], vs, us, h, e => by
    have := h.1
    cases vs with
    | nil => cases e; exact ⟨rfl, rfl⟩
    | cons v vs => simp at this
  | d :: ds, vs, us, h, e => by
    cases vs with
    | nil => have := h.1; simp at this
    | cons v vs =>
      obtain ⟨h1, h2⟩ := h.uncons
      obtain ⟨u, r, rfl, e1, e2⟩ := fvs_cons e
      obtain ⟨a, b⟩ := fv_ok (A := []) (H := G) (.sh (by rw [cut_nil]; exact h1)) e1
      obtain ⟨a', b'⟩ := fvs_ok h2 e2
      subst a a'
      exact ⟨rfl, by simp [b, b']⟩
/-- a dict's key -/
def D.key : D → Option L2.Key
  | .int i => some (.inl i)
  | .str x => some (.inr x)
  | _ => none
/-- a tuple of keys -/
def D.tkey : D → Option (List L2.Key)
  | .tup ds => ds.mapM D.key
  | _ => none
theorem key_ok {A : List Addr} {H : Hp} {x : V} {d : D} {k : L2.Key} (r : WR K mg A H x d) (h : d.key = some k) : x = kV k := by
  cases d <;> cases h
  · exact r.int
  · exact r.str
theorem keys_ok {G : Hp} : ∀ {ds : List D} {vs : List V} {ks : List L2.Key}, DRs K mg G vs ds → ds.mapM D.key = some ks → vs = ks.map kV
  | [], vs, ks, h, e => by
    have := h.1
    cases vs with
    | nil => cases e; rfl
    | cons v vs => simp at this
  | d :: ds, vs, ks, h, e => by
    cases vs with
    | nil => have := h.1; simp at this
    | cons v vs =>
      obtain ⟨h1, h2⟩ := h.uncons
      rw [List.mapM_cons] at e
      cases e1 : d.key with
      | none => rw [e1] at e; cases e
      | some k =>
        rw [e1] at e
        cases e2 : List.mapM D.key ds with
        | none => rw [e2] at e; cases e
        | some r =>
          rw [e2] at e
          cases e
          rw [keys_ok h2 e2, key_ok (A := []) (H := G) (x := v) (.sh (by rw [cut_nil]; exact h1)) e1]
          rfl
theorem tkey_ok {A : List Addr} {H : Hp} {x : V} {d : D} {k : List L2.Key} (r : WR K mg A H x d) (h : d.tkey = some k) : ∃ p, x = .ref p ∧ H p = some (.tup (k.map kV)) := by
  cases d <;> first | (cases h) | skip
  obtain ⟨p, vs, rfl, h1, h2⟩ := r.tup
  exact ⟨p, rfl, by rw [h1, keys_ok h2 h]⟩
/-- what a dict of data holds at a key -/
def dAt {κ : Type} [DecidableEq κ] (es : List (κ × D)) (k : κ) : Option D := (es.find? fun kv => decide (kv.1 = k)).map (·.2)
theorem dAt_ok {κ : Type} [DecidableEq κ] {G : Hp} (k : κ) : ∀ {kvs : List (κ × V)} {es : List (κ × D)}, kvs.map Prod.fst = es.map Prod.fst → DRs K mg G (kvs.map Prod.snd) (es.map Prod.snd) →
    match dAt es k with
    | none => valV kvs k = none
    | some d => ∃ v, valV kvs k = some v ∧ DR K mg G v d
  | [], [], _, _ => rfl
  | [], e :: es, h, _ => by cases h
  | p :: kvs, [], h, _ => by cases h
  | (k1, v) :: kvs, (k2, d) :: es, h, hd => by
    simp only [List.map_cons, List.cons.injEq] at h
    obtain ⟨h1, h2⟩ := h
    subst h1
    simp only [List.map_cons] at hd
    obtain ⟨d1, d2⟩ := hd.uncons
    have ih := dAt_ok k h2 d2
    by_cases e : k1 = k
    · have e1 : dAt ((k1, d) :: es) k = some d := by simp [dAt, List.find?_cons, e]
      rw [e1]
      exact ⟨v, valV_pos e, d1⟩
    · have e1 : dAt ((k1, d) :: es) k = dAt es k := by simp [dAt, List.find?_cons, e]
      rw [e1, valV_neg e]
      exact ih
def inB (x s : D) : R Bool := match s with
  | .str z => match x with
    | .str y => match y.cps.toList with
      | [c] => .ok (decide (c ∈ z.cps.toList))
      | _ => .bad
    | _ => .bad
  | .dct es => (R.of x.tkey).bind fun k => .ok (dAt es k).isSome
  | .dik es => (R.of x.key).bind fun k => .ok (dAt es k).isSome
  | s => (R.of (seqOf s)).bind fun ds => (R.of x.fv).bind fun v => (R.of (fvs ds)).bind fun us => .ok (inV v us)
def dIn (x s : D) : R D := (inB x s).bind fun b => .ok (.bl b)
def dNotIn (x s : D) : R D := (inB x s).bind fun b => .ok (.bl (!b))
def rInX (K : PySem.W.Frag) : R2 := fun x y H Q => (∃ (c : Nat) (z : Str), x = .str ⟨#[c]⟩ ∧ y = .str z ∧ Q (.bl (decide (c ∈ z.cps.toList))) H) ∨ (rIn K false x y H Q ∨ ∃ a o, y = .ref a ∧ DGet H a x o ∧ Q (.bl o.isSome) H)
def rNotInX (K : PySem.W.Frag) : R2 := fun x y H Q => (∃ (c : Nat) (z : Str), x = .str ⟨#[c]⟩ ∧ y = .str z ∧ Q (.bl (!decide (c ∈ z.cps.toList))) H) ∨ (rIn K true x y H Q ∨ ∃ a o, y = .ref a ∧ DGet H a x o ∧ Q (.bl (!o.isSome)) H)
theorem op_inX {X : Cx} {k : Nat} (hr : Room k X.A) : OpR X (compareOp .In) (rInX X.K) := OpR.or op_in_sign (OpR.or op_in_seq fun pins s σ H x y v u Q I rx ry h => by
  obtain ⟨a, o, rfl, g, q⟩ := h
  cases ry
  exact d_in (hu_of hr) I g rx fun s' I' => ⟨.bl _, H, I', rfl, q⟩)
theorem op_notInX {X : Cx} {k : Nat} (hr : Room k X.A) : OpR X (compareOp .NotIn) (rNotInX X.K) := OpR.or op_notIn_sign (OpR.or op_notIn_seq fun pins s σ H x y v u Q I rx ry h => by
  obtain ⟨a, o, rfl, g, q⟩ := h
  cases ry
  exact d_notIn (hu_of hr) I g rx fun s' I' => ⟨.bl _, H, I', rfl, q⟩)
theorem inB_ok {A : List Addr} {H : Hp} {x y : V} {dx dy : D} {b : Bool} (rx : WR K mg A H x dx) (ry : WR K mg A H y dy) (h : inB dx dy = .ok b) :
    (∃ (c : Nat) (z : Str), x = .str ⟨#[c]⟩ ∧ y = .str z ∧ decide (c ∈ z.cps.toList) = b) ∨ ((∃ p xs, y = .ref p ∧ (SqL K H p xs ∨ SqT K H p xs) ∧ flatV x = true ∧ xs.all flatV = true ∧ inV x xs = b) ∨ ∃ a o, y = .ref a ∧ DGet H a x o ∧ o.isSome = b) := by
  have gen : ∀ {dy : D}, WR K mg A H y dy → ((R.of (seqOf dy)).bind fun ds => (R.of dx.fv).bind fun v => (R.of (fvs ds)).bind fun us => .ok (inV v us)) = .ok b →
      ∃ p xs, y = .ref p ∧ (SqL K H p xs ∨ SqT K H p xs) ∧ flatV x = true ∧ xs.all flatV = true ∧ inV x xs = b := by
    intro dy ry h
    cases e1 : seqOf dy with
    | none => rw [e1] at h; cases h
    | some ds =>
      rw [e1] at h
      cases e2 : dx.fv with
      | none => rw [e2] at h; cases h
      | some v =>
        rw [e2] at h
        cases e3 : fvs ds with
        | none => simp [e3] at h
        | some us =>
          simp [e3] at h
          obtain ⟨p, vs, rfl, q, dd⟩ := ry.seq e1
          obtain ⟨a1, a2⟩ := fv_ok rx e2
          obtain ⟨b1, b2⟩ := fvs_ok dd e3
          subst a1 b1
          exact ⟨p, vs, rfl, q, a2, b2, h⟩
  cases dy <;> first | exact .inr (.inl (gen ry h)) | skip
  · rename_i z
    cases dx <;> first | cases h | skip
    rename_i y0
    simp only [inB] at h
    split at h
    · rename_i c hc
      cases h
      refine .inl ⟨c, z, ?_, ry.str, rfl⟩
      rw [rx.str]
      congr 1
      cases y0 with
      | mk cps =>
        have : cps = #[c] := by
          apply Array.toList_inj.mp
          simpa using hc
        rw [this]
    · cases h
  · rename_i es
    simp only [inB] at h
    cases e : dx.tkey with
    | none => rw [e] at h; cases h
    | some k =>
      rw [e] at h
      cases h
      obtain ⟨p, kvs, rfl, h1, h2, h3⟩ := ry.dct
      obtain ⟨q, rfl, h4⟩ := tkey_ok rx e
      refine .inr (.inr ⟨p, valV kvs k, rfl, .t h1 h4, ?_⟩)
      have z := dAt_ok k h2 h3
      cases hd : dAt es k with
      | none => rw [hd] at z; rw [z]; rfl
      | some d => rw [hd] at z; obtain ⟨v, z, _⟩ := z; rw [z]; rfl
  · rename_i es
    simp only [inB] at h
    cases e : dx.key with
    | none => rw [e] at h; cases h
    | some k =>
      rw [e] at h
      cases h
      obtain ⟨p, kvs, rfl, h1, h2, h3⟩ := ry.dik
      have h4 := key_ok rx e
      subst h4
      refine .inr (.inr ⟨p, valV kvs k, rfl, .k h1, ?_⟩)
      have z := dAt_ok k h2 h3
      cases hd : dAt es k with
      | none => rw [hd] at z; rw [z]; rfl
      | some d => rw [hd] at z; obtain ⟨v, z, _⟩ := z; rw [z]; rfl
theorem inB_exc {x s : D} {c : Str} {fs : List (Str × D)} (h : inB x s = .exc c fs) : False := by
  have of_exc : ∀ {α β : Type} {o : Option α} {f : α → R β}, (∀ a, f a ≠ .exc c fs) → (R.of o).bind f ≠ .exc c fs := by
    intro α β o f hf e
    cases o with
    | none => cases e
    | some a => exact hf a e
  have gen : ∀ s : D, ((R.of (seqOf s)).bind fun ds => (R.of x.fv).bind fun v => (R.of (fvs ds)).bind fun us => (.ok (inV v us) : R Bool)) ≠ .exc c fs := fun s => of_exc fun ds => of_exc fun v => of_exc fun us e => by cases e
  unfold inB at h
  split at h
  · split at h
    · split at h <;> cases h
    · cases h
  · exact of_exc (fun k e => by cases e) h
  · exact of_exc (fun k e => by cases e) h
  · exact gen _ h
theorem so_in : Op2 K mg (rInX K) dIn := fun E A H x y dx dy off rx ry Q w => by
  unfold dIn at w
  cases h : inB dx dy with
  | exc c fs => exact (inB_exc h).elim
  | bad => rw [h] at w; exact w.elim
  | ok b =>
    rw [h] at w
    rcases inB_ok rx ry h with ⟨c, z, a1, a2, a3⟩ | ⟨p, xs, a1, a2, a3, a4, a5⟩ | ⟨a, o, a1, a2, a3⟩
    · exact .inl ⟨c, z, a1, a2, by rw [a3]; exact w _ H (Ex.refl _) (.bl _)⟩
    · exact .inr (.inl ⟨p, xs, a1, a2, a3, a4, by show Q (.bl (inV x xs)) H; rw [a5]; exact w _ H (Ex.refl _) (.bl _)⟩)
    · exact .inr (.inr ⟨a, o, a1, a2, by rw [a3]; exact w _ H (Ex.refl _) (.bl _)⟩)
theorem so_notIn : Op2 K mg (rNotInX K) dNotIn := fun E A H x y dx dy off rx ry Q w => by
  unfold dNotIn at w
  cases h : inB dx dy with
  | exc c fs => exact (inB_exc h).elim
  | bad => rw [h] at w; exact w.elim
  | ok b =>
    rw [h] at w
    rcases inB_ok rx ry h with ⟨c, z, a1, a2, a3⟩ | ⟨p, xs, a1, a2, a3, a4, a5⟩ | ⟨a, o, a1, a2, a3⟩
    · exact .inl ⟨c, z, a1, a2, by rw [a3]; exact w _ H (Ex.refl _) (.bl _)⟩
    · exact .inr (.inl ⟨p, xs, a1, a2, a3, a4, by show Q (.bl (!inV x xs)) H; rw [a5]; exact w _ H (Ex.refl _) (.bl _)⟩)
    · exact .inr (.inr ⟨a, o, a1, a2, by rw [a3]; exact w _ H (Ex.refl _) (.bl _)⟩)
end
end MD

namespace MD
open PySem L2
section
variable {X : Cx} {E : L2.St → XK} {F : Fm} {O : List Nat} {a b c e : Expr} {es : List Expr} {ma mb mc : EM} {pos : Pos}
theorem pe_or2 {e : Expr} {t u : TE} (h : PE X e t) (h' : PE X e u) : PE X e (fun σ H Q => t σ H Q ∨ u σ H Q) := ⟨fun pins s σ H Q I q => by
  rcases q with q | q
  · exact h.run pins s σ H Q I q
  · exact h'.run pins s σ H Q I q⟩
theorem WR.tupD {K : PySem.W.Frag} {mg : Str → Option Value} {A : List Addr} {H : Hp} {v : V} {ds : List D} (h : WR K mg A H v (.tup ds)) : DR K mg (cut A H) v (.tup ds) := by
  cases h with
  | sh r => exact r
  | ow r => cases r
/-! ### a[b] -/
def dIx (x i : D) : R D := match x with
  | .str z => match i with
    | .int k => R.when (z.length ≤ sizeLine) ((R.of (atI z.cps.toList k)).bind fun c => .ok (.str ⟨#[c]⟩))
    | _ => .bad
  | .dct es => (R.of i.tkey).bind fun k => R.of (dAt es k)
  | .dik es => (R.of i.key).bind fun k => R.of (dAt es k)
  | s => (R.of (seqOf s)).bind fun ds => match i with
    | .int k => R.of (atI ds k)
    | _ => .bad
theorem drs_at {K : PySem.W.Frag} {mg : Str → Option Value} {G : Hp} {vs : List V} {ds : List D} (h : DRs K mg G vs ds) {k : Int} {d : D} (e : atI ds k = some d) : ∃ v, atI vs k = some v ∧ DR K mg G v d := by
  unfold atI at e ⊢
  rw [h.1]
  cases hn : ixN ds.length k with
  | none => rw [hn] at e; cases e
  | some j =>
    rw [hn] at e
    obtain ⟨v, a, b⟩ := h.get (i := j) (d := d) e
    exact ⟨v, a, b⟩
def isDict : D → Bool
  | .dct _ => true
  | .dik _ => true
  | _ => false
theorem of_get {K : PySem.W.Frag} {mg : Str → Option Value} {E : XK} {A : List Addr} {H : Hp} {α β γ : Type} {rel : Hp → α → γ → Prop} {Q : α → Hp → Prop} {o : Option β} {f : β → R γ} (w : Wn K mg E A H rel Q ((R.of o).bind f)) : ∃ b, o = some b ∧ Wn K mg E A H rel Q (f b) := by
  cases o with
  | none => exact w.elim
  | some b => exact ⟨b, rfl, w⟩
theorem of_get1 {K : PySem.W.Frag} {mg : Str → Option Value} {E : XK} {A : List Addr} {H : Hp} {α β : Type} {rel : Hp → α → β → Prop} {Q : α → Hp → Prop} {o : Option β} (w : Wn K mg E A H rel Q (R.of o)) : ∃ b, o = some b ∧ ∀ a, rel H a b → Q a H := by
  cases o with
  | none => exact w.elim
  | some b => exact ⟨b, rfl, fun a r => w a H (Ex.refl _) r⟩
theorem ix_d {e0 : XK} {K : PySem.W.Frag} {mg : Str → Option Value} {A : List Addr} {H : Hp} {x y : V} {dx dy : D} {Q : VK} (hd : isDict dx = true) (rx : WR K mg A H x dx) (ry : WR K mg A H y dy) (w : Wn K mg e0 A H (rD K mg A) Q (dIx dx dy)) : ∃ a v, x = .ref a ∧ DGet H a y (some v) ∧ Q v H := by
  cases dx <;> first | (cases hd; done) | skip
  · obtain ⟨k, e, w⟩ := of_get w
    obtain ⟨d, e2, q⟩ := of_get1 w
    obtain ⟨p, kvs, rfl, h1, h2, h3⟩ := rx.dct
    obtain ⟨t, rfl, h4⟩ := tkey_ok ry e
    have z := dAt_ok k h2 h3
    rw [e2] at z
    obtain ⟨v, z1, z2⟩ := z
    exact ⟨p, v, rfl, by rw [← z1]; exact .t h1 h4, q v z2⟩
  · obtain ⟨k, e, w⟩ := of_get w
    obtain ⟨d, e2, q⟩ := of_get1 w
    obtain ⟨p, kvs, rfl, h1, h2, h3⟩ := rx.dik
    have h4 := key_ok ry e
    subst h4
    have z := dAt_ok k h2 h3
    rw [e2] at z
    obtain ⟨v, z1, z2⟩ := z
    exact ⟨p, v, rfl, by rw [← z1]; exact .k h1, q v z2⟩
theorem ix_s {e0 : XK} {K : PySem.W.Frag} {mg : Str → Option Value} {A : List Addr} {H : Hp} {x y : V} {dx dy : D} {Q : VK} (hd : isDict dx = false) (rx : WR K mg A H x dx) (ry : WR K mg A H y dy) (w : Wn K mg e0 A H (rD K mg A) Q (dIx dx dy)) : rIx K x y H Q := by
  have gen : ∀ {ds : List D}, seqOf dx = some ds → ∀ {k : Int}, y = .int k → ∀ {d : D}, atI ds k = some d → (∀ v, DR K mg (cut A H) v d → Q v H) → rIx K x y H Q := by
    intro ds hs k hy d hd q
    obtain ⟨p, vs, rfl, h1, h2⟩ := rx.seq hs
    obtain ⟨v, h3, h4⟩ := drs_at h2 hd
    rcases h1 with h1 | h1
    · exact .inl ⟨p, vs, k, v, rfl, hy, h1, h3, q v h4⟩
    · exact .inr (.inl ⟨p, vs, k, v, rfl, hy, h1, h3, q v h4⟩)
  have gen2 : ((R.of (seqOf dx)).bind fun ds => match dy with
      | .int k => R.of (atI ds k)
      | _ => .bad) = dIx dx dy → rIx K x y H Q := fun h => by
    rw [← h] at w
    obtain ⟨ds, e, w⟩ := of_get w
    cases dy <;> first | exact w.elim | skip
    obtain ⟨d, e2, q⟩ := of_get1 w
    exact gen e ry.int e2 q
  cases dx <;> first | (cases hd; done) | exact gen2 rfl | skip
  cases dy <;> first | exact w.elim | skip
  obtain ⟨c, w⟩ := Wn.when w
  obtain ⟨k, e, w⟩ := of_get w
  rw [rx.str, ry.int]
  exact .inr (.inr ⟨_, _, k, rfl, rfl, c, e, w _ H (Ex.refl _) (.str _)⟩)
theorem me_ix {k : Nat} (hr : Room k X.A) (ha : MW X E O a ma) (hb : MW X E O b mb) (hs : PlainIx b := by exact fun _ _ => rfl) : ME X E O (.Subscript a b pos) (e2 dIx ma mb) := by
  obtain ⟨ta, pa, sa⟩ := ha.ex
  obtain ⟨tb, pb, sb⟩ := hb.ex
  refine ⟨_, pe_or2 (pe_dget (hu_of hr) pa pb hs) (pe_ix ix_seq pa pb hs), fun F σ H env s Q w => ?_⟩
  by_cases hd : ∃ d, ma env = .ok d ∧ isDict d = true
  · left
    obtain ⟨d, e0, hd⟩ := hd
    refine sa F σ H env s _ ?_
    unfold e2 at w
    rw [e0] at w ⊢
    intro x H1 q1 r1
    refine sb F σ H1 env (s.ext q1) _ (Wn.seq (w.mono q1) fun y dy H2 q2 r2 w2 => ?_)
    exact ix_d hd (r1.mono q2) r2 w2
  · right
    refine sa F σ H env s _ ?_
    unfold e2 at w
    cases e0 : ma env with
    | bad => rw [e0] at w; exact w
    | exc c fs => rw [e0] at w; exact w
    | ok d =>
      have hd' : isDict d = false := by
        cases q : isDict d with
        | false => rfl
        | true => exact absurd ⟨d, e0, q⟩ hd
      rw [e0] at w
      intro x H1 q1 r1
      refine sb F σ H1 env (s.ext q1) _ (Wn.seq (w.mono q1) fun y dy H2 q2 r2 w2 => ?_)
      exact ix_s hd' (r1.mono q2) r2 w2

/-! ### a[lo:hi] -/
def oNone : Env → R (Option Int) := fun _ => .ok none
def oSome (a : EM) : Env → R (Option Int) := fun env => (a env).bind fun d => match d with
  | .int i => .ok (some i)
  | _ => .bad
structure MO (X : Cx) (E : L2.St → XK) (O : List Nat) (e : Option Expr) (m : Env → R (Option Int)) : Prop where
  ex : ∃ t, PO X e t ∧ ∀ F σ H env, SR X.K X.mg F O σ H env → ∀ Q, Wn X.K X.mg (E σ) (F.l ++ ows O σ) H (fun _ a b => a = b) Q (m env) → t σ H Q
theorem mo_none : MO X E O none oNone := ⟨_, po_none, fun F σ H env s Q w => w _ H (Ex.refl _) rfl⟩
theorem mo_some (h : MW X E O e ma) : MO X E O (some e) (oSome ma) := by
  obtain ⟨t, p, z⟩ := h.ex
  refine ⟨_, po_some p, fun F σ H env s Q w => z F σ H env s _ (w.seq fun x dx H1 e1 r1 w1 => ?_)⟩
  cases dx <;> first | exact w1.elim | skip
  exact ⟨_, r1.int, w1 _ H1 (Ex.refl _) rfl⟩
def cutD (ds : List D) (lo hi : Option Int) : List D := (ds.drop (HT.sIx ds.length 0 lo)).take (HT.sIx ds.length ds.length hi - HT.sIx ds.length 0 lo)
theorem drs_cut {K : PySem.W.Frag} {mg : Str → Option Value} {G : Hp} {vs : List V} {ds : List D} (h : DRs K mg G vs ds) (lo hi : Option Int) : DRs K mg G (cutV vs lo hi) (cutD ds lo hi) := by
  unfold cutV cutD
  rw [h.1]
  exact (h.drop _).take _
def dSl (x : D) (lo hi : Option Int) : R D := match x with
  | .lst ds => .ok (.lst (cutD ds lo hi))
  | .scr ds => .ok (.lst (cutD ds lo hi))
  | .tup ds => .ok (.tup (cutD ds lo hi))
  | .str z => R.when (z.length ≤ sizeLine) (.ok (.str (cutS z lo hi)))
  | _ => .bad
def dSlF (x : D) (lo hi : Option Int) : R D := match x with
  | .lst ds => .ok (.lst (cutD ds lo hi))
  | .scr ds => .ok (.lst (cutD ds lo hi))
  | _ => .bad
def eSl (f : D → Option Int → Option Int → R D) (a : EM) (lo hi : Env → R (Option Int)) : EM := fun env => (a env).bind fun x => (lo env).bind fun l => (hi env).bind fun h => f x l h
def rSlX (K : PySem.W.Frag) : V → Option Int → Option Int → Hp → VK → Prop := fun x lo hi H Q => rSlL K x lo hi H Q ∨ (rSlA K x lo hi H Q ∨ rSlS x lo hi H Q)
theorem sl_x : SlR X (rSlX X.K) := sl_list.or (sl_tupA.or sl_str)
theorem cut_whole (ds : List D) (lo hi : Option Int) (h : HT.sIx ds.length 0 lo = 0 ∧ HT.sIx ds.length ds.length hi = ds.length) : cutD ds lo hi = ds := by
  unfold cutD
  rw [h.1, h.2]
  simp
theorem me_sl {p2 : Pos} {lo hi : Option Expr} {ml mh : Env → R (Option Int)} (ha : MW X E O a ma) (hl : MO X E O lo ml) (hh : MO X E O hi mh) : ME X E O (.Subscript a (.Slice lo hi none p2) pos) (eSl dSl ma ml mh) := by
  obtain ⟨ta, pa, sa⟩ := ha.ex
  obtain ⟨tl, pl, sl⟩ := hl.ex
  obtain ⟨th, ph, sh⟩ := hh.ex
  refine ⟨_, pe_slice sl_x pa pl ph, fun F σ H env s Q w => sa F σ H env s _ (w.seq fun x dx H1 e1 r1 w1 => sl F σ H1 env (s.ext e1) _ (w1.seq fun l l' H2 e2 q2 w2 => sh F σ H2 env (s.ext (e1.trans e2)) _ (w2.seq fun u u' H3 e3 q3 w3 => ?_)))⟩
  subst q2 q3
  have off := (s.ext (e1.trans (e2.trans e3))).mb
  have r3 := r1.mono (e2.trans e3)
  cases dx <;> first | exact w3.elim | skip
  · obtain ⟨c, w⟩ := Wn.when w3
    exact .inr (.inr ⟨_, WR.str r3, c, w _ H3 (Ex.refl _) (.str _)⟩)
  · obtain ⟨p, vs, rfl, h1, h2⟩ := WR.lst r3
    exact .inl ⟨p, vs, rfl, SqL.of h1, fun q hq => w3 _ _ (Ex.new hq) (lst_new off hq (drs_cut h2 l u))⟩
  · obtain ⟨p, vs, rfl, h1, h2⟩ := WR.tup r3
    refine .inr (.inl ⟨p, vs, rfl, SqT.of h1, fun hw => ?_, fun _ q hq => w3 _ _ (Ex.new hq) (tup_new off hq (drs_cut h2 l u))⟩)
    refine w3 _ H3 (Ex.refl _) ?_
    rename_i ds
    have hw' : HT.sIx ds.length 0 l = 0 ∧ HT.sIx ds.length ds.length u = ds.length := by rw [← h2.1]; exact hw
    show DR _ _ _ _ (.tup (cutD ds l u))
    rw [cut_whole ds l u hw']
    exact WR.tupD r3
  · obtain ⟨p, vs, rfl, h1, h2⟩ := WR.scr r3
    exact .inl ⟨p, vs, rfl, h1, fun q hq => w3 _ _ (Ex.new hq) (lst_new off hq (drs_cut h2 l u))⟩
theorem mf_sl {p2 : Pos} {lo hi : Option Expr} {ml mh : Env → R (Option Int)} (ha : MW X E O a ma) (hl : MO X E O lo ml) (hh : MO X E O hi mh) : MF X E O (.Subscript a (.Slice lo hi none p2) pos) (eSl dSlF ma ml mh) := by
  obtain ⟨ta, pa, sa⟩ := ha.ex
  obtain ⟨tl, pl, sl⟩ := hl.ex
  obtain ⟨th, ph, sh⟩ := hh.ex
  refine ⟨_, pe_slice sl_x pa pl ph, fun F σ H env s Q w => sa F σ H env s _ (w.seqF fun x dx H1 e1 r1 w1 => sl F σ H1 env (s.ext e1) _ (w1.seqF fun l l' H2 e2 q2 w2 => sh F σ H2 env (s.ext (e1.trans e2)) _ (w2.seqF fun u u' H3 e3 q3 w3 => ?_)))⟩
  subst q2 q3
  have off := (s.ext (e1.trans (e2.trans e3))).mb
  have r3 := r1.mono (e2.trans e3)
  cases dx <;> first | exact w3.elim | skip
  · obtain ⟨p, vs, rfl, h1, h2⟩ := WR.lst r3
    exact .inl ⟨p, vs, rfl, SqL.of h1, fun q hq => w3 _ _ (Ex.new hq) (own_new off hq (drs_cut h2 l u))⟩
  · obtain ⟨p, vs, rfl, h1, h2⟩ := WR.scr r3
    exact .inl ⟨p, vs, rfl, h1, fun q hq => w3 _ _ (Ex.new hq) (own_new off hq (drs_cut h2 l u))⟩
end

section
variable {K : PySem.W.Frag} {mg : Str → Option Value}
/-! ### built-ins -/
def asInts (ds : List D) : Option (List Int) := ds.mapM fun d => match d with
  | .int i => some i
  | _ => none
theorem asInts_eq : ∀ {ds : List D} {ns : List Int}, asInts ds = some ns → ds = ns.map D.int
  | [], ns, h => by cases h; rfl
  | d :: ds, ns, h => by
    unfold asInts at h
    rw [List.mapM_cons] at h
    cases d <;> first | (cases h; done) | skip
    rename_i i
    cases e : List.mapM (fun d => match d with | D.int i => some i | _ => none) ds with
    | none => rw [e] at h; cases h
    | some r =>
      rw [e] at h
      cases h
      rw [asInts_eq (ds := ds) (ns := r) e]
      rfl
@[simp] theorem asInts_map (ns : List Int) : asInts (ns.map D.int) = some ns := by
  induction ns with
  | nil => rfl
  | cons n ns ih =>
    unfold asInts at ih ⊢
    rw [List.map_cons, List.mapM_cons, ih]
    rfl
def dLen : D → R D
  | .str z => R.when (z.length ≤ sizeLine) (.ok (.int z.length))
  | .dct es => .ok (.int es.length)
  | s => (R.of (seqOf s)).bind fun ds => .ok (.int ds.length)
def rLenX (K : PySem.W.Frag) : List V → Hp → VK → Prop := fun xs H Q => (∃ x n, xs = [x] ∧ LenV K x H n ∧ Q (.int n) H) ∨ rLenT xs H Q
theorem call_lenX {X : Cx} : CallR X (.builtin "len") (rLenX X.K) := call_len.or call_len_dT
theorem so_len : OpC1 K mg (rLenX K) dLen := fun E A H x dx off rx Q w => by
  have gen : ((R.of (seqOf dx)).bind fun ds => (.ok (.int ds.length) : R D)) = dLen dx → rLenX K [x] H Q := fun h => by
    rw [← h] at w
    obtain ⟨ds, e, w⟩ := of_get w
    obtain ⟨p, vs, rfl, h1, h2⟩ := rx.seq e
    refine .inl ⟨.ref p, vs.length, rfl, ?_, by rw [h2.1]; exact w _ H (Ex.refl _) (.int _)⟩
    rcases h1 with h1 | h1
    · exact .inl ⟨vs, h1, rfl⟩
    · exact .inr ⟨vs, h1, rfl⟩
  cases dx <;> first | exact gen rfl | skip
  · obtain ⟨c, w⟩ := Wn.when w
    exact .inl ⟨x, _, rfl, by rw [rx.str]; exact ⟨c, rfl⟩, w _ H (Ex.refl _) (.int _)⟩
  · obtain ⟨p, kvs, rfl, h1, h2, h3⟩ := rx.dct
    refine .inr ⟨p, kvs, rfl, h1, ?_⟩
    have := congrArg List.length h2
    simp at this
    rw [this]
    exact w _ H (Ex.refl _) (.int _)
def dInt : D → R D
  | .int i => .ok (.int i)
  | .bl k => .ok (.int (if k then 1 else 0))
  | _ => .bad
theorem so_int1 : OpC1 K mg (fun xs H Q => (∃ i, xs = [.int i] ∧ Q (.int i) H) ∨ ∃ k, xs = [.bl k] ∧ Q (.int (if k then 1 else 0)) H) dInt := fun E A H x dx off rx Q w => by
  cases dx <;> first | exact w.elim | skip
  · exact .inr ⟨_, by rw [rx.bl], w _ H (Ex.refl _) (.int _)⟩
  · exact .inl ⟨_, by rw [rx.int], w _ H (Ex.refl _) (.int _)⟩
def dAbs : D → R D
  | .int i => .ok (.int (if i < 0 then -i else i))
  | _ => .bad
theorem so_abs : OpC1 K mg (fun xs H Q => ∃ i, xs = [.int i] ∧ Q (.int (if i < 0 then -i else i)) H) dAbs := fun E A H x dx off rx Q w => by
  cases dx <;> first | exact w.elim | skip
  exact ⟨_, by rw [rx.int], w _ H (Ex.refl _) (.int _)⟩
/-- a list of asInts -/
def intsOf : D → Option (List Int)
  | .lst ds => asInts ds
  | .scr ds => asInts ds
  | _ => none
theorem intsOf_ok {A : List Addr} {H : Hp} {x : V} {dx : D} {ns : List Int} (rx : WR K mg A H x dx) (e : intsOf dx = some ns) : ∃ p, x = .ref p ∧ SqL K H p (ns.map V.int) := by
  cases dx <;> first | (cases e; done) | skip
  · obtain ⟨p, vs, rfl, h1, h2⟩ := rx.lst
    rw [asInts_eq e] at h2
    rw [DRs.ints h2] at h1
    exact ⟨p, rfl, SqL.of h1⟩
  · obtain ⟨p, vs, rfl, h1, h2⟩ := rx.scr
    rw [asInts_eq e] at h2
    rw [DRs.ints h2] at h1
    exact ⟨p, rfl, h1⟩
def dSum (x : D) : R D := (R.of (intsOf x)).bind fun ns => .ok (.int ns.sum)
theorem so_sum : OpC1 K mg (rSum K) dSum := fun E A H x dx off rx Q w => by
  obtain ⟨ns, e, w⟩ := of_get w
  obtain ⟨p, rfl, h⟩ := intsOf_ok rx e
  exact ⟨p, ns, rfl, h, w _ H (Ex.refl _) (.int _)⟩
def dMin (x : D) : R D := (R.of (intsOf x)).bind fun ns => (R.of ns.min?).bind fun m => .ok (.int m)
def dMax (x : D) : R D := (R.of (intsOf x)).bind fun ns => (R.of ns.max?).bind fun m => .ok (.int m)
theorem so_min : OpC1 K mg (rMin K) dMin := fun E A H x dx off rx Q w => by
  obtain ⟨ns, e, w⟩ := of_get w
  obtain ⟨m, e2, w⟩ := of_get w
  obtain ⟨p, rfl, h⟩ := intsOf_ok rx e
  obtain ⟨a1, a2⟩ := List.min?_eq_some_iff.mp e2
  refine ⟨p, ns, rfl, h, List.length_pos_of_mem a1, fun m' h1 h2 => ?_⟩
  have : m' = m := Int.le_antisymm (h2 m a1) (a2 m' h1)
  subst this
  exact w _ H (Ex.refl _) (.int _)
theorem so_max : OpC1 K mg (rMax K) dMax := fun E A H x dx off rx Q w => by
  obtain ⟨ns, e, w⟩ := of_get w
  obtain ⟨m, e2, w⟩ := of_get w
  obtain ⟨p, rfl, h⟩ := intsOf_ok rx e
  obtain ⟨a1, a2⟩ := List.max?_eq_some_iff.mp e2
  refine ⟨p, ns, rfl, h, List.length_pos_of_mem a1, fun m' h1 h2 => ?_⟩
  have : m' = m := Int.le_antisymm (a2 m' h1) (h2 m a1)
  subst this
  exact w _ H (Ex.refl _) (.int _)
def dMin2 : D → D → R D := dI2 fun i j => .ok (.int (if j < i then j else i))
def dMax2 : D → D → R D := dI2 fun i j => .ok (.int (if j > i then j else i))
theorem so_min2 : OpC2 K mg (fun xs H Q => ∃ i j, xs = [.int i, .int j] ∧ Q (.int (if j < i then j else i)) H) dMin2 := fun E A H x y dx dy off rx ry Q w => by
  cases dx <;> cases dy <;> first | exact w.elim | skip
  exact ⟨_, _, by rw [rx.int, ry.int], w _ H (Ex.refl _) (.int _)⟩
theorem so_max2 : OpC2 K mg (fun xs H Q => ∃ i j, xs = [.int i, .int j] ∧ Q (.int (if j > i then j else i)) H) dMax2 := fun E A H x y dx dy off rx ry Q w => by
  cases dx <;> cases dy <;> first | exact w.elim | skip
  exact ⟨_, _, by rw [rx.int, ry.int], w _ H (Ex.refl _) (.int _)⟩
/-! list(..), tuple(..), sorted(..) -/
def kD : L2.Key → D
  | .inl i => .int i
  | .inr x => .str x
theorem dr_key {G : Hp} (k : L2.Key) : DR K mg G (kV k) (kD k) := by
  cases k with
  | inl i => exact .int i
  | inr x => exact .str x
theorem drs_keys {G : Hp} : ∀ ks : List L2.Key, DRs K mg G (ks.map kV) (ks.map kD)
  | [] => .nil
  | k :: ks => .cons (dr_key k) (drs_keys ks)
def dList (x : D) : R D := match x with
  | .dct es => .ok (.lst (es.map fun e => .tup (e.1.map kD)))
  | s => (R.of (seqOf s)).bind fun ds => .ok (.lst ds)
def rListX (K : PySem.W.Frag) : List V → Hp → VK → Prop := fun xs H Q => (∃ p ys, xs = [.ref p] ∧ (SqL K H p ys ∨ SqT K H p ys) ∧ ∀ l, H l = none → Q (.ref l) (upd H l (.lst ys))) ∨ ∃ d kvs, xs = [V.ref d] ∧ Rd H d (.dT kvs) ∧ ∀ p bs, H p = none → IsKeys H kvs bs → Q (.ref p) (upd H p (.lst (bs.map V.ref)))
theorem call_listX {X : Cx} (hc : X.calm = true) : CallR X (.type "list") (rListX X.K) := call_list_of.or (call_list_dT hc)
theorem drs_isKeys {A : List Addr} {H : Hp} (off : Off A H) : ∀ {kvs : List (List L2.Key × V)} {es : List (List L2.Key × D)} {bs : List Addr}, kvs.map Prod.fst = es.map Prod.fst → IsKeys H kvs bs → DRs K mg (cut A H) (bs.map V.ref) (es.map fun e => .tup (e.1.map kD))
  | [], [], _, _, .nil => .nil
  | [], e :: es, _, h, _ => by cases h
  | p :: kvs, [], _, h, _ => by cases h
  | p :: kvs, e :: es, _, h, .cons (b := b) r t => by
    simp only [List.map_cons, List.cons.injEq] at h
    refine .cons ?_ (drs_isKeys off h.2 t)
    have hb : b ∉ A := fun z => by
      obtain ⟨o, h1, h2⟩ := off b z
      rw [r] at h1
      cases h1
      rcases h2 with ⟨_, q⟩ | ⟨_, q⟩ | ⟨_, q⟩ | ⟨_, _, _, q⟩ <;> cases q
    have q : DRs K mg (cut A H) (e.1.map kV) (e.1.map kD) := drs_keys e.1
    exact .tup (by rw [cut_out hb, r, h.1]) q.1 q.2
theorem so_listF : OpC1F K mg (rListX K) dList := fun E A H x dx off rx Q w => by
  have gen : ((R.of (seqOf dx)).bind fun ds => (.ok (.lst ds) : R D)) = dList dx → rListX K [x] H Q := fun h => by
    rw [← h] at w
    obtain ⟨ds, e, w⟩ := of_get w
    obtain ⟨p, vs, rfl, h1, h2⟩ := rx.seq e
    exact .inl ⟨p, vs, rfl, h1, fun l hl => w _ _ (Ex.new hl) (own_new off hl h2)⟩
  cases dx <;> first | exact gen rfl | skip
  obtain ⟨p, kvs, rfl, h1, h2, h3⟩ := rx.dct
  exact .inr ⟨p, kvs, rfl, .inl h1, fun l bs hl hk => w _ _ (Ex.new hl) (own_new off hl (drs_isKeys off h2 hk))⟩
def dTup (x : D) : R D := match x with
  | .lst ds => .ok (.tup ds)
  | .scr ds => .ok (.tup ds)
  | .tup ds => .ok (.tup ds)
  | _ => .bad
theorem so_tup : OpC1 K mg (fun xs H Q => ∃ p ys, xs = [.ref p] ∧ ((SqL K H p ys ∧ ∀ l, H l = none → Q (.ref l) (upd H l (.tup ys))) ∨ (SqT K H p ys ∧ Q (.ref p) H))) dTup := fun E A H x dx off rx Q w => by
  cases dx <;> first | exact w.elim | skip
  · obtain ⟨p, vs, rfl, h1, h2⟩ := rx.lst
    exact ⟨p, vs, rfl, .inl ⟨SqL.of h1, fun l hl => w _ _ (Ex.new hl) (tup_new off hl h2)⟩⟩
  · obtain ⟨p, vs, rfl, h1, h2⟩ := rx.tup
    exact ⟨p, vs, rfl, .inr ⟨SqT.of h1, w _ H (Ex.refl _) (WR.tupD rx)⟩⟩
  · obtain ⟨p, vs, rfl, h1, h2⟩ := rx.scr
    exact ⟨p, vs, rfl, .inl ⟨h1, fun l hl => w _ _ (Ex.new hl) (tup_new off hl h2)⟩⟩
/-- pairs of asInts -/
def asPrs (ds : List D) : Option (List (Int × Int)) := ds.mapM fun d => match d with
  | .tup [.int i, .int j] => some (i, j)
  | _ => none
def pD (p : Int × Int) : D := .tup [.int p.1, .int p.2]
def leP (p q : Int × Int) : Bool := decide (p.1 < q.1 ∨ (p.1 = q.1 ∧ p.2 ≤ q.2))
def leI (i j : Int) : Bool := decide (i ≤ j)
def dSorted (x : D) : R D := match x with
  | .lst ds => match asInts ds with
    | some ns => .ok (.lst ((ns.mergeSort leI).map D.int))
    | none => (R.of (asPrs ds)).bind fun ps => .ok (.lst ((ps.mergeSort leP).map pD))
  | .scr ds => (R.of (asInts ds)).bind fun ns => .ok (.lst ((ns.mergeSort leI).map D.int))
  | _ => .bad
theorem prs_eq : ∀ {ds : List D} {ns : List (Int × Int)}, asPrs ds = some ns → ds = ns.map pD
  | [], ns, h => by cases h; rfl
  | d :: ds, ns, h => by
    unfold asPrs at h
    rw [List.mapM_cons] at h
    split at h
    · rename_i i j
      cases e : List.mapM (fun d => match d with | D.tup [.int i, .int j] => some (i, j) | _ => none) ds with
      | none => rw [e] at h; cases h
      | some r =>
        rw [e] at h
        cases h
        rw [prs_eq (ds := ds) (ns := r) e]
        rfl
    · cases h
@[simp] theorem prs_map (ns : List (Int × Int)) : asPrs (ns.map pD) = some ns := by
  induction ns with
  | nil => rfl
  | cons n ns ih =>
    unfold asPrs at ih ⊢
    rw [List.map_cons, List.mapM_cons, ih]
    rfl
def kP (H : Hp) (x : V) : Int × Int := match x with
  | .ref t => match H t with
    | some (.tup [.int i, .int j]) => (i, j)
    | _ => (0, 0)
  | _ => (0, 0)
theorem drs_prs {G : Hp} : ∀ {vs : List V} {ns : List (Int × Int)}, DRs K mg G vs (ns.map pD) → (∀ x ∈ vs, ∃ t, x = V.ref t ∧ G t = some (.tup [.int (kP G x).1, .int (kP G x).2])) ∧ vs.map (kP G) = ns
  | [], [], _ => ⟨fun x hx => by simp at hx, rfl⟩
  | [], n :: ns, h => by have := h.1; simp at this
  | v :: vs, [], h => by have := h.1; simp at this
  | v :: vs, n :: ns, h => by
    rw [List.map_cons] at h
    obtain ⟨h1, h2⟩ := h.uncons
    obtain ⟨i1, i2⟩ := drs_prs h2
    have key : ∃ t, v = V.ref t ∧ G t = some (.tup [.int n.1, .int n.2]) := by
      cases h1 with
      | tup g l ih =>
        rename_i a us
        refine ⟨a, rfl, ?_⟩
        rw [g]
        match us, l, ih with
        | [u1, u2], _, ih =>
          have q1 := ih 0 u1 _ rfl rfl
          have q2 := ih 1 u2 _ rfl rfl
          cases q1
          cases q2
          rfl
    obtain ⟨t, rfl, g⟩ := key
    have hk : kP G (.ref t) = n := by
      show (match G t with | some (.tup [.int i, .int j]) => (i, j) | _ => (0, 0)) = n
      rw [g]
    refine ⟨fun x hx => ?_, by rw [List.map_cons, hk, i2]⟩
    rcases List.mem_cons.mp hx with e | e
    · subst e
      exact ⟨t, rfl, by rw [hk]; exact g⟩
    · exact i1 x e
theorem leP_iff {p q : Int × Int} : leP p q = !(SrtO.lexB q p) := by
  have h : SrtO.lexB q p = decide (q.1 < p.1 ∨ (q.1 = p.1 ∧ q.2 < p.2)) := by
    cases e : SrtO.lexB q p with
    | true => have a := SrtO.lexB_iff.mp e; exact (decide_eq_true a).symm
    | false => have a := SrtO.lexB_no.mp e; exact (decide_eq_false (by omega)).symm
  rw [h]
  unfold leP
  rw [← decide_not]
  congr 1
  apply propext
  omega
theorem leI_t (x y z : Int) (h1 : leI x y = true) (h2 : leI y z = true) : leI x z = true := by
  unfold leI at *
  simp only [decide_eq_true_eq] at *
  omega
theorem leI_o (x y : Int) : (leI x y || leI y x) = true := by
  unfold leI
  simp only [Bool.or_eq_true, decide_eq_true_eq]
  omega
theorem leP_t (x y z : Int × Int) (h1 : leP x y = true) (h2 : leP y z = true) : leP x z = true := by
  unfold leP at *
  simp only [decide_eq_true_eq] at *
  omega
theorem leP_o (x y : Int × Int) : (leP x y || leP y x) = true := by
  unfold leP
  simp only [Bool.or_eq_true, decide_eq_true_eq]
  omega
theorem sort_ints {ns ns' : List Int} (hp : ns'.Perm ns) (hs : ns'.Pairwise (· ≤ ·)) : ns' = ns.mergeSort leI :=
  PySem.W.Srt.the_of_perm leI leI_t leI_o (fun x y h1 h2 => by
    unfold leI at *
    simp only [decide_eq_true_eq] at *
    omega) hp (hs.imp fun h => decide_eq_true h)
theorem sort_prs {ps ps' : List (Int × Int)} (hp : ps'.Perm ps) (hs : ps'.Pairwise fun p q => leP p q = true) : ps' = ps.mergeSort leP :=
  PySem.W.Srt.the_of_perm leP leP_t leP_o (fun x y h1 h2 => by
    unfold leP at *
    simp only [decide_eq_true_eq] at *
    exact Prod.ext (by omega) (by omega)) hp hs
def rSortedX (K : PySem.W.Frag) : List V → Hp → VK → Prop := fun xs H Q => rSortedI K xs H Q ∨ rSortedPO K xs H Q
theorem cr_sortedX {X : Cx} : CallR X (.builtin "sorted") (rSortedX X.K) := cr_sortedI.or cr_sortedPO
theorem drs_map_int {G : Hp} : ∀ ns : List Int, DRs K mg G (ns.map V.int) (ns.map D.int)
  | [] => .nil
  | n :: ns => .cons (.int n) (drs_map_int ns)
theorem so_sortedF : OpC1F K mg (rSortedX K) dSorted := fun E A H x dx off rx Q w => by
  have gi : ∀ {ns : List Int}, intsOf dx = some ns → Wn K mg E A H (rF K mg A H) Q (.ok (.lst ((ns.mergeSort leI).map D.int))) → rSortedX K [x] H Q := fun {ns} e w => by
    obtain ⟨p, rfl, h⟩ := intsOf_ok rx e
    refine .inl ⟨p, ns, rfl, h, fun ns' q h1 h2 hq => w _ _ (Ex.new hq) ?_⟩
    rw [← sort_ints h1 h2]
    exact own_new off hq (drs_map_int ns')
  cases dx <;> first | exact w.elim | skip
  · rename_i ds
    unfold dSorted at w
    cases e : asInts ds with
    | some ns => simp only [e] at w; exact gi e w
    | none =>
      simp only [e] at w
      obtain ⟨ps, e2, w⟩ := of_get w
      obtain ⟨p, vs, rfl, h1, h2⟩ := rx.lst
      rw [prs_eq e2] at h2
      obtain ⟨a1, a2⟩ := drs_prs h2
      refine .inr ⟨p, vs, kP (cut A H), rfl, SqL.of h1, fun x hx => ?_, fun ys q hs hb hq => w _ _ (Ex.new hq) ?_⟩
      · obtain ⟨t, b1, b2⟩ := a1 x hx
        exact ⟨t, b1, (cut_some b2).2⟩
      · have e3 : ys.map (kP (cut A H)) = ps.mergeSort leP := by
          refine sort_prs (by rw [← a2]; exact hb.perm.map _) ?_
          refine List.pairwise_map.mpr (List.Pairwise.imp ?_ hs)
          intro u v huv
          rw [leP_iff]
          simp only [Bool.not_eq_true']
          exact huv
        rw [← e3, List.map_map]
        refine own_new off hq ⟨by simp, fun i v d g1 g2 => ?_⟩
        rw [List.getElem?_map, g1] at g2
        cases g2
        have hm : v ∈ vs := hb.perm.mem_iff.mp (List.mem_of_getElem? g1)
        obtain ⟨t, rfl, b2⟩ := a1 v hm
        have z : DRs K mg (cut A H) [.int (kP (cut A H) (.ref t)).1, .int (kP (cut A H) (.ref t)).2] [.int (kP (cut A H) (.ref t)).1, .int (kP (cut A H) (.ref t)).2] := .cons (.int _) (.cons (.int _) .nil)
        exact .tup b2 z.1 z.2
  · rename_i ds
    unfold dSorted at w
    obtain ⟨ns, e, w⟩ := of_get w
    exact gi e w
/-! isinstance -/
def tyN : D → Option String
  | .non => some "NoneType"
  | .bl _ => some "bool"
  | .int _ => some "int"
  | .str _ => some "str"
  | .lst _ => some "list"
  | .tup _ => some "tuple"
  | .dct _ => some "dict"
  | .dik _ => some "dict"
  | _ => none
theorem tyN_ok {A : List Addr} {H : Hp} {x : V} {dx : D} {n : String} (rx : WR K mg A H x dx) (e : tyN dx = some n) : TyX K H x (.type n) := by
  cases dx <;> cases e
  · rw [rx.non]; exact .base .non
  · rw [rx.bl]; exact .base (.bl _)
  · rw [rx.int]; exact .base (.int _)
  · rw [rx.str]; exact .base (.str _)
  · obtain ⟨p, vs, rfl, h, _⟩ := rx.lst; exact .base (.lst h)
  · obtain ⟨p, vs, rfl, h, _⟩ := rx.tup; exact .base (.tup h)
  · obtain ⟨p, vs, rfl, h, _⟩ := rx.dct; exact .base (.dT h)
  · obtain ⟨p, vs, rfl, h, _⟩ := rx.dik; exact .base (.dK h)
def dIsi (T : String) (x : D) : R D := (R.of (tyN x)).bind fun n => (R.of (kitB n T)).bind fun b => .ok (.bl b)
def dIsi2 (T U : String) (x : D) : R D := (R.of (tyN x)).bind fun n => (R.of (kitB n T)).bind fun b => (R.of (kitB n U)).bind fun c => .ok (.bl (b || c))
end
section
variable {X : Cx} {E : L2.St → XK} {F : Fm} {O : List Nat} {a b c e : Expr} {es : List Expr} {ma mb mc : EM} {pos p p1 p2 p3 : Pos} {T U : String} {x y z : Str}
theorem me_isi (hm : X.mg "isinstance" = none) (hmT : X.mg y = none) (ha : MW X E O a ma) (hg : Gl X "isinstance" := by rfl) (hgT : Gl X y := by rfl) (hv : bootBuiltins y = some (.type T) := by decide +kernel) (hn : y ≠ "__name__" := by decide) (hd : (y == ("__debug__" : Str)) = false := by decide)
    (hst : starEach (a :: [.Name y p2]) X.env = (false, eval a X.env) :: starEach [.Name y p2] X.env := by rfl) (hst2 : starEach ((.Name y p2) :: []) X.env = (false, eval (.Name y p2) X.env) :: starEach [] X.env := by rfl) (hpl : (backTo pos (starEach [.Name y p2] X.env)).any (·.1) = false := by rfl) :
    ME X E O (.Call (.Name "isinstance" p) [a, .Name y p2] [] pos) (e1 (dIsi T) ma) := by
  obtain ⟨ta, pa, sa⟩ := ha.ex
  refine ⟨_, pe_callB call_isi hg hm (by decide +kernel) (pa_cons pa (pa_cons (pe_bltn (v := .ty T) hgT hmT hv rfl hn hd) pa_nil hst2) hst) (by decide) (by decide) hst hpl, fun F σ H env s Q w => sa F σ H env s _ (w.seq fun x dx H1 e1 r1 w1 => ?_)⟩
  obtain ⟨n, h1, w1⟩ := of_get w1
  obtain ⟨k, h2, w1⟩ := of_get w1
  exact ⟨x, .ty T, .type n, .type T, k, rfl, .ty T, tyN_ok r1 h1, kit_ty h2, w1 _ H1 (Ex.refl _) (.bl _)⟩
theorem me_isi2 {k : Nat} (hm : X.mg "isinstance" = none) (hmT : X.mg y = none) (hmU : X.mg z = none) (ha : MW X E O a ma) (hg : Gl X "isinstance" := by rfl) (hgT : Gl X y := by rfl) (hgU : Gl X z := by rfl) (hv : bootBuiltins y = some (.type T) := by decide +kernel) (hv2 : bootBuiltins z = some (.type U) := by decide +kernel)
    (hn : y ≠ "__name__" := by decide) (hd : (y == ("__debug__" : Str)) = false := by decide) (hn2 : z ≠ "__name__" := by decide) (hd2 : (z == ("__debug__" : Str)) = false := by decide)
    (hst : starEach (a :: [.Tuple [.Name y p1, .Name z p2] k p3]) X.env = (false, eval a X.env) :: starEach [.Tuple [.Name y p1, .Name z p2] k p3] X.env := by rfl) (hst2 : starEach ((.Tuple [.Name y p1, .Name z p2] k p3) :: []) X.env = (false, eval (.Tuple [.Name y p1, .Name z p2] k p3) X.env) :: starEach [] X.env := by rfl)
    (hst3 : starEach ((.Name y p1) :: [.Name z p2]) X.env = (false, eval (.Name y p1) X.env) :: starEach [.Name z p2] X.env := by rfl) (hst4 : starEach ((.Name z p2) :: []) X.env = (false, eval (.Name z p2) X.env) :: starEach [] X.env := by rfl) (hpl : (backTo pos (starEach [.Tuple [.Name y p1, .Name z p2] k p3] X.env)).any (·.1) = false := by rfl) :
    ME X E O (.Call (.Name "isinstance" p) [a, .Tuple [.Name y p1, .Name z p2] k p3] [] pos) (e1 (dIsi2 T U) ma) := by
  obtain ⟨ta, pa, sa⟩ := ha.ex
  refine ⟨_, pe_callB call_isiT hg hm (by decide +kernel) (pa_cons pa (pa_cons (pe_tup (pa_cons (pe_bltn (v := .ty T) hgT hmT hv rfl hn hd) (pa_cons (pe_bltn (v := .ty U) hgU hmU hv2 rfl hn2 hd2) pa_nil hst4) hst3)) pa_nil hst2) hst) (by decide) (by decide) hst hpl, fun F σ H env s Q w => sa F σ H env s _ (w.seq fun x dx H1 e1 r1 w1 => ?_)⟩
  obtain ⟨n, h1, w1⟩ := of_get w1
  obtain ⟨k, h2, w1⟩ := of_get w1
  obtain ⟨l, h3, w1⟩ := of_get w1
  refine ⟨size_of (by show 2 ≤ 100000; decide), fun q hq => ?_⟩
  refine ⟨x, q, [.ty T, .ty U], .type n, [.type T, .type U], k || l, rfl, upd_same, .cons (.ty T) (.cons (.ty U) .nil), tyN_ok (r1.mono (Ex.new hq)) h1, ?_, w1 _ _ (Ex.new hq) (.bl _)⟩
  refine kitAny_cons (b := k) (kit_ty h2) (fun hk => ?_) (fun hk => by rw [hk]; rfl)
  rw [hk, Bool.false_or]
  refine kitAny_cons (b := l) (kit_ty h3) (fun hl => by rw [hl]; exact kitAny_nil) (fun hl => hl)
/-- d.get(k, x) -/
def dGet (d k x : D) : R D := match d with
  | .dct es => (R.of k.tkey).bind fun k => .ok ((dAt es k).getD x)
  | .dik es => (R.of k.key).bind fun k => .ok ((dAt es k).getD x)
  | _ => .bad
def eGet (a b c : EM) : EM := fun env => (a env).bind fun x => if isDict x = true then (b env).bind fun y => (c env).bind fun z => dGet x y z else .bad
theorem me_get {k : Nat} {apos : Pos} (hr : Room k X.A) (ha : MW X E O a ma) (hb : MW X E O b mb) (hc : ME X E O c mc) (m : M2 X a "get" apos b c pos := by exact ⟨rfl, rfl, rfl, rfl⟩) : ME X E O (.Call (.Attribute a "get" apos) [b, c] [] pos) (eGet ma mb mc) := by
  obtain ⟨ta, pa, sa⟩ := ha.ex
  obtain ⟨tb, pb, sb⟩ := hb.ex
  obtain ⟨tc, pc, sc⟩ := hc.ex
  refine ⟨_, pe_dget2 (hu_of hr) pa pb pc m, fun F σ H env s Q w => sa F σ H env s _ (w.seq fun x dx H1 q1 r1 w1 => ?_)⟩
  cases dx <;> first | exact w1.elim | skip
  · replace w1 : Wn X.K X.mg (E σ) (F.l ++ ows O σ) H1 (rD X.K X.mg (F.l ++ ows O σ)) Q ((mb env).bind fun y => (mc env).bind fun z => dGet (.dct _) y z) := w1
    obtain ⟨p, kvs, rfl, h1, h2, h3⟩ := WR.dct r1
    refine ⟨p, rfl, .inr ⟨kvs, .inl h1⟩, sb F σ H1 env (s.ext q1) _ (w1.seq fun y dy H2 q2 r2 w2 => sc F σ H2 env (s.ext (q1.trans q2)) _ (w2.seq fun z dz H3 q3 r3 w3 => ?_))⟩
    obtain ⟨k, e, w3⟩ := of_get w3
    obtain ⟨t, rfl, h4⟩ := tkey_ok (r2.mono q3) e
    have z := dAt_ok k h2 (h3.mono (q2.trans q3).cutS)
    refine ⟨_, .t ((q2.trans q3) _ _ h1) h4, ?_⟩
    cases hd : dAt _ k with
    | none => rw [hd] at z w3; rw [z]; exact w3 _ H3 (Ex.refl _) r3
    | some d => rw [hd] at z w3; obtain ⟨v, z1, z2⟩ := z; rw [z1]; exact w3 _ H3 (Ex.refl _) z2
  · replace w1 : Wn X.K X.mg (E σ) (F.l ++ ows O σ) H1 (rD X.K X.mg (F.l ++ ows O σ)) Q ((mb env).bind fun y => (mc env).bind fun z => dGet (.dik _) y z) := w1
    obtain ⟨p, kvs, rfl, h1, h2, h3⟩ := WR.dik r1
    refine ⟨p, rfl, .inl ⟨kvs, .inl h1⟩, sb F σ H1 env (s.ext q1) _ (w1.seq fun y dy H2 q2 r2 w2 => sc F σ H2 env (s.ext (q1.trans q2)) _ (w2.seq fun z dz H3 q3 r3 w3 => ?_))⟩
    obtain ⟨k, e, w3⟩ := of_get w3
    have h4 := key_ok (r2.mono q3) e
    subst h4
    have z := dAt_ok k h2 (h3.mono (q2.trans q3).cutS)
    refine ⟨_, .k ((q2.trans q3) _ _ h1), ?_⟩
    cases hd : dAt _ k with
    | none => rw [hd] at z w3; rw [z]; exact w3 _ H3 (Ex.refl _) r3
    | some d => rw [hd] at z w3; obtain ⟨v, z1, z2⟩ := z; rw [z1]; exact w3 _ H3 (Ex.refl _) z2
end
end MD

namespace MD
open PySem L2
theorem cut_upd {A : List Addr} {H : Hp} {p : Addr} {o : HO} (h : p ∈ A) : cut A (upd H p o) = cut A H := by
  funext b
  by_cases hb : b ∈ A
  · rw [cut_in hb, cut_in hb]
  · rw [cut_out hb, cut_out hb, upd_ne (fun e => hb (by rw [e]; exact h))]
theorem cut_app {A B : List Addr} {H : Hp} : cut (A ++ B) H = cut A (cut B H) := cut_cut.symm
/-- how a statement ends -/
inductive Ct where
  | nx (env : Env) | rt (d : D) | bk (env : Env) | ct (env : Env)
/-- a statement's end; an exception tells the state that it leaves -/
inductive RS where
  | ok (c : Ct) | exc (c : Str) (fs : List (Str × D)) (env : Env) | bad
abbrev SM := Env → RS
def RS.bind (r : RS) (f : Ct → RS) : RS := match r with
  | .ok c => f c
  | .exc c fs env => .exc c fs env
  | .bad => .bad
def R.go {α : Type} (r : R α) (env : Env) (f : α → RS) : RS := match r with
  | .ok a => f a
  | .exc c fs => .exc c fs env
  | .bad => .bad
def RS.when (c : Prop) [Decidable c] (r : RS) : RS := if c then r else .bad
@[simp] theorem RS.bind_ok (c : Ct) (f : Ct → RS) : (RS.ok c).bind f = f c := rfl
@[simp] theorem RS.bind_exc (c : Str) (fs : List (Str × D)) (env : Env) (f : Ct → RS) : (RS.exc c fs env).bind f = .exc c fs env := rfl
@[simp] theorem RS.bind_bad (f : Ct → RS) : RS.bad.bind f = .bad := rfl
@[simp] theorem R.go_ok {α : Type} (a : α) (env : Env) (f : α → RS) : (R.ok a).go env f = f a := rfl
@[simp] theorem R.go_exc {α : Type} (c : Str) (fs : List (Str × D)) (env : Env) (f : α → RS) : (R.exc c fs : R α).go env f = .exc c fs env := rfl
@[simp] theorem R.go_bad {α : Type} (env : Env) (f : α → RS) : (R.bad : R α).go env f = .bad := rfl
section
variable (K : PySem.W.Frag) (mg : Str → Option Value) (E : L2.St → XK) (F : Fm) (Ol O' : List Nat) (A0 : List Addr) (H0 : Hp) (Dn : Ends)
def WS : RS → Prop
  | .ok (.nx env') => ∀ σ' H', SR K mg F O' σ' H' env' → Ex (cut A0 H0) (cut (ows O' σ') H') → Dn.nx σ' H'
  | .ok (.rt d) => ∀ v H', Ex (cut A0 H0) H' → DR K mg (cut F.l H') v d → Dn.rt v H'
  | .ok (.bk env') => ∀ σ' H', SR K mg F Ol σ' H' env' → Ex (cut A0 H0) (cut (ows Ol σ') H') → Dn.bk σ' H'
  | .ok (.ct env') => ∀ σ' H', SR K mg F Ol σ' H' env' → Ex (cut A0 H0) (cut (ows Ol σ') H') → Dn.ct σ' H'
  | .exc c fs env' => ∀ (C : Addr) (o : Option Addr) (σ' : L2.St) (H' : Hp), SR K mg F [] σ' H' env' → Ex (cut A0 H0) H' → mg c = some (.ref C) → XD K mg F.l H' o fs → E σ' (.ref C) o H'
  | .bad => False
end
section
variable {K : PySem.W.Frag} {mg : Str → Option Value} {E : L2.St → XK} {F : Fm} {O O1 O2 Ol O' : List Nat} {A0 A1 : List Addr} {H H' H0 H1 : Hp} {Dn : Ends} {σ : L2.St} {env : Env}
theorem WS.mono {r : RS} (h : WS K mg E F Ol O' A0 H0 Dn r) (e : Ex (cut A0 H0) (cut A1 H1)) : WS K mg E F Ol O' A1 H1 Dn r := by
  cases r with
  | ok c =>
    cases c with
    | nx env' => exact fun σ' H' s q => h σ' H' s (e.trans q)
    | rt d => exact fun v H' q r => h v H' (e.trans q) r
    | bk env' => exact fun σ' H' s q => h σ' H' s (e.trans q)
    | ct env' => exact fun σ' H' s q => h σ' H' s (e.trans q)
  | exc c fs env' => exact fun C o σ' H' s q m x => h C o σ' H' s (e.trans q) m x
  | bad => exact h
theorem XD.mono {A B : List Addr} {o : Option Addr} {fs : List (Str × D)} (h : XD K mg A H o fs) (hs : ∀ b ∈ B, b ∈ A) : XD K mg B H o fs := by
  rcases h with h | ⟨d, vfs, h1, h2, h3, h4⟩
  · exact .inl h
  · exact .inr ⟨d, vfs, h1, h2, h3, h4.mono ((Ex.refl H).cut fun b hb => .inl (hs b hb))⟩
/-- a statement that begins with an expression -/
theorem WS.seqE {α β : Type} {rel : Hp → α → β → Prop} {Q : α → Hp → Prop} {r : R β} {f : β → RS} (s : SR K mg F O σ H env) (h : WS K mg E F Ol O' (ows O σ) H Dn (r.go env f)) (k : ∀ a b H', Ex H H' → rel H' a b → WS K mg E F Ol O' (ows O σ) H' Dn (f b) → Q a H') : Wn K mg (E σ) (F.l ++ ows O σ) H rel Q r := by
  cases r with
  | ok b => exact fun a H' e q => k a b H' e q (WS.mono h e.cutS)
  | exc c fs => exact fun C o H' e m x => h C o σ H' ((s.ext e).weak fun i hi => by simp at hi) (Ex.ofCut.trans e) m (x.mono fun b hb => List.mem_append_left _ hb)
  | bad => exact h
/-- a slot is given a value that is kept -/
theorem mem_rem {O : List Nat} {i j : Nat} : j ∈ O.filter (fun k => k != i) ↔ j ∈ O ∧ j ≠ i := by simp
theorem ows_set {i : Nat} {v : V} : ∀ b ∈ ows (O.filter fun k => k != i) (σ.set i (some v)), b ∈ ows O σ := fun b hb => by
  obtain ⟨j, hj, e⟩ := mem_ows.mp hb
  obtain ⟨h1, h2⟩ := mem_rem.mp hj
  rw [List.getElem?_set_ne (Ne.symm h2)] at e
  exact mem_ows.mpr ⟨j, h1, e⟩
theorem SR.set {i : Nat} {v : V} {d : D} (hb : ∀ q ∈ F.b, q.1 ≠ i) (s : SR K mg F O σ H env) (r : DR K mg (cut (F.l ++ ows O σ) H) v d) :
    SR K mg F (O.filter fun k => k != i) (σ.set i (some v)) H (env.set i (some d)) ∧ Ex (cut (ows O σ) H) (cut (ows (O.filter fun k => k != i) (σ.set i (some v))) H) := by
  have sub := ows_set (O := O) (σ := σ) (i := i) (v := v)
  have e : Ex (cut (F.l ++ ows O σ) H) (cut (F.l ++ ows (O.filter fun k => k != i) (σ.set i (some v))) H) := (Ex.refl H).cut fun b hb => .inl (by
    rcases List.mem_append.mp hb with q | q
    · exact List.mem_append_left _ q
    · exact List.mem_append_right _ (sub b q))
  refine ⟨⟨by rw [List.length_set, List.length_set]; exact s.len, s.dom, fun q hq => by rw [List.getElem?_set_ne (Ne.symm (hb q hq))]; exact s.pin q hq, fun j d' hj he => ?_, fun j hj => ?_, fun j hj k hk p e1 e2 => ?_⟩, (Ex.refl H).cut fun b hb => .inl (sub b hb)⟩
  · by_cases hji : j = i
    · subst hji
      by_cases hl : j < env.length
      · rw [List.getElem?_set_self hl] at he
        cases he
        exact ⟨v, by rw [List.getElem?_set_self (by rw [s.len]; exact hl)], r.mono e⟩
      · rw [List.getElem?_eq_none (by simpa using hl)] at he
        cases he
    · rw [List.getElem?_set_ne (Ne.symm hji)] at he
      have hjO : j ∉ O := fun z => hj (mem_rem.mpr ⟨z, hji⟩)
      obtain ⟨v', a, b⟩ := s.shr j d' hjO he
      exact ⟨v', by rw [List.getElem?_set_ne (Ne.symm hji)]; exact a, b.mono e⟩
  · obtain ⟨h1, h2⟩ := mem_rem.mp hj
    obtain ⟨p, d', a, b, c, o⟩ := s.own j h1
    exact ⟨p, d', by rw [List.getElem?_set_ne (Ne.symm h2)]; exact a, by rw [List.getElem?_set_ne (Ne.symm h2)]; exact b, c, o.mono e fun _ z => z⟩
  · obtain ⟨h1, h2⟩ := mem_rem.mp hj
    obtain ⟨h3, h4⟩ := mem_rem.mp hk
    rw [List.getElem?_set_ne (Ne.symm h2)] at e1
    rw [List.getElem?_set_ne (Ne.symm h4)] at e2
    exact s.inj j h1 k h3 p e1 e2
/-- a slot is given a new thing that it owns -/
theorem SR.setOwn {i : Nat} {v : V} {d : D} (hb : ∀ q ∈ F.b, q.1 ≠ i) (hi : i < env.length) (s : SR K mg F O σ H0 env) (ex : Ex H0 H) (r : rF K mg (F.l ++ ows O σ) H0 H v d) :
    SR K mg F (i :: O.filter fun k => k != i) (σ.set i (some v)) H (env.set i (some d)) ∧ Ex (cut (ows O σ) H0) (cut (ows (i :: O.filter fun k => k != i) (σ.set i (some v))) H) := by
  obtain ⟨p, rfl, hp, o⟩ := r
  have s1 := s.ext ex
  have hσ : i < σ.length := by rw [s.len]; exact hi
  have pF : p ∉ F.l := fun z => by
    obtain ⟨o, a, _⟩ := s.dom p z
    rw [hp] at a; cases a
  have pO : p ∉ ows O σ := fun z => by
    obtain ⟨o, a, _⟩ := s.mb p (List.mem_append_right _ z)
    rw [hp] at a; cases a
  have sub : ∀ b ∈ ows (i :: O.filter fun k => k != i) (σ.set i (some (.ref p))), b ∈ ows O σ ∨ b = p := fun b hb => by
    obtain ⟨j, hj, e⟩ := mem_ows.mp hb
    rcases List.mem_cons.mp hj with q | q
    · subst q
      rw [List.getElem?_set_self hσ] at e
      cases e
      exact .inr rfl
    · exact .inl (ows_set b (mem_ows.mpr ⟨j, q, e⟩))
  have e0 : Ex (cut (F.l ++ ows O σ) H0) (cut (F.l ++ ows (i :: O.filter fun k => k != i) (σ.set i (some (.ref p)))) H) := ex.cut fun b hb => by
    rcases List.mem_append.mp hb with q | q
    · exact .inl (List.mem_append_left _ q)
    · rcases sub b q with q | q
      · exact .inl (List.mem_append_right _ q)
      · exact .inr (by rw [q]; exact hp)
  have e1 : Ex (cut (p :: (F.l ++ ows O σ)) H) (cut (F.l ++ ows (i :: O.filter fun k => k != i) (σ.set i (some (.ref p)))) H) := (Ex.refl H).cut fun b hb => .inl (by
    rcases List.mem_append.mp hb with q | q
    · exact List.mem_cons_of_mem _ (List.mem_append_left _ q)
    · rcases sub b q with q | q
      · exact List.mem_cons_of_mem _ (List.mem_append_right _ q)
      · rw [q]; exact List.mem_cons_self)
  have old : ∀ j ∈ O.filter (fun k => k != i), ∀ q : Addr, σ[j]? = some (some (.ref q)) → q ≠ p := fun j hj q e z => by
    subst z
    exact pO (mem_ows.mpr ⟨j, (mem_rem.mp hj).1, e⟩)
  refine ⟨⟨by rw [List.length_set, List.length_set]; exact s.len, s1.dom, fun q hq => by rw [List.getElem?_set_ne (Ne.symm (hb q hq))]; exact s.pin q hq, fun j d' hj he => ?_, fun j hj => ?_, fun j hj k hk q e1 e2 => ?_⟩, ex.cut fun b hb => by
    rcases sub b hb with q | q
    · exact .inl q
    · exact .inr (by rw [q]; exact hp)⟩
  · have hji : j ≠ i := fun z => hj (by rw [z]; exact List.mem_cons_self)
    rw [List.getElem?_set_ne (Ne.symm hji)] at he
    have hjO : j ∉ O := fun z => hj (List.mem_cons_of_mem _ (mem_rem.mpr ⟨z, hji⟩))
    obtain ⟨v', a, b⟩ := s.shr j d' hjO he
    exact ⟨v', by rw [List.getElem?_set_ne (Ne.symm hji)]; exact a, b.mono e0⟩
  · rcases List.mem_cons.mp hj with q | q
    · subst q
      exact ⟨p, d, List.getElem?_set_self hi, List.getElem?_set_self hσ, pF, o.mono e1 fun _ z => z⟩
    · obtain ⟨h1, h2⟩ := mem_rem.mp q
      obtain ⟨p', d', a, b, c, o'⟩ := s.own j h1
      exact ⟨p', d', by rw [List.getElem?_set_ne (Ne.symm h2)]; exact a, by rw [List.getElem?_set_ne (Ne.symm h2)]; exact b, c, o'.mono e0 fun u z => ex _ _ z⟩
  · rcases List.mem_cons.mp hj with q1 | q1
    · rcases List.mem_cons.mp hk with q2 | q2
      · rw [q1, q2]
      · subst q1
        rw [List.getElem?_set_self hσ] at e1
        cases e1
        rw [List.getElem?_set_ne (Ne.symm (mem_rem.mp q2).2)] at e2
        exact absurd rfl (old k q2 p e2)
    · rcases List.mem_cons.mp hk with q2 | q2
      · subst q2
        rw [List.getElem?_set_self hσ] at e2
        cases e2
        rw [List.getElem?_set_ne (Ne.symm (mem_rem.mp q1).2)] at e1
        exact absurd rfl (old j q1 p e1)
      · rw [List.getElem?_set_ne (Ne.symm (mem_rem.mp q1).2)] at e1
        rw [List.getElem?_set_ne (Ne.symm (mem_rem.mp q2).2)] at e2
        exact s.inj j (mem_rem.mp q1).1 k (mem_rem.mp q2).1 q e1 e2
/-- an owned thing changes where it stands -/
theorem SR.chg {i : Nat} {p : Addr} {d : D} {o : HO} (hi : i ∈ O) (s : SR K mg F O σ H env) (hp : σ[i]? = some (some (.ref p))) (hm : Mb o) (r : Own K mg (cut (F.l ++ ows O σ) H) (upd H p o) p d) :
    SR K mg F O σ (upd H p o) (env.set i (some d)) ∧ Ex (cut (ows O σ) H) (cut (ows O σ) (upd H p o)) := by
  have pO : p ∈ ows O σ := mem_ows.mpr ⟨i, hi, hp⟩
  have hc : cut (F.l ++ ows O σ) (upd H p o) = cut (F.l ++ ows O σ) H := cut_upd (List.mem_append_right _ pO)
  obtain ⟨p0, d0, a0, b0, c0, o0⟩ := s.own i hi
  rw [hp] at b0
  cases b0
  have hl : i < env.length := by
    have := (List.getElem?_eq_some_iff.mp a0).1
    exact this
  refine ⟨⟨by rw [List.length_set]; exact s.len, fun q hq => ?_, s.pin, fun j d' hj he => ?_, fun j hj => ?_, s.inj⟩, by rw [cut_upd pO]; exact Ex.refl _⟩
  · have hne : q ≠ p := fun z => c0 (by rw [← z]; exact hq)
    obtain ⟨u, a, b⟩ := s.dom q hq
    exact ⟨u, by rw [upd_ne hne]; exact a, b⟩
  · have hji : j ≠ i := fun z => hj (by rw [z]; exact hi)
    rw [List.getElem?_set_ne (Ne.symm hji)] at he
    obtain ⟨v', a, b⟩ := s.shr j d' hj he
    exact ⟨v', a, by rw [hc]; exact b⟩
  · by_cases hji : j = i
    · subst hji
      exact ⟨p, d, List.getElem?_set_self hl, hp, c0, by rw [hc]; exact r⟩
    · obtain ⟨p', d', a, b, c, o'⟩ := s.own j hj
      have hne : p' ≠ p := fun z => hji (s.inj j hj i hi p (by rw [← z]; exact b) hp)
      exact ⟨p', d', by rw [List.getElem?_set_ne (Ne.symm hji)]; exact a, b, c, o'.mono (by rw [hc]; exact Ex.refl _) fun u z => by rw [upd_ne hne]; exact z⟩
theorem ex_weak (s : SR K mg F O σ H env) (hs : ∀ i ∈ O2, i ∈ O) : Ex (cut (ows O σ) H) (cut (ows O2 σ) H) := (Ex.refl H).cut fun b hb => .inl (by
  obtain ⟨j, hj, e⟩ := mem_ows.mp hb
  exact mem_ows.mpr ⟨j, hs j hj, e⟩)
end

/-! ### statements do as their mirrors -/
def SS (K : PySem.W.Frag) (mg : Str → Option Value) (E : L2.St → XK) (F : Fm) (Ol O O' : List Nat) (t : TS) (m : SM) : Prop :=
  ∀ σ H env, SR K mg F O σ H env → ∀ Dn, WS K mg E F Ol O' (ows O σ) H Dn (m env) → t Dn σ H
structure MS (X : Cx) (E : L2.St → XK) (B Ol O O' : List Nat) (st : Stmt) (m : SM) : Prop where
  ex : ∃ t, PS X st t ∧ ∀ F, (∀ q ∈ F.b, q.1 ∈ B) → SS X.K X.mg E F Ol O O' t m
structure MSs (X : Cx) (E : L2.St → XK) (B Ol O O' : List Nat) (st : List Stmt) (m : SM) : Prop where
  ex : ∃ t, PSs X st t ∧ ∀ F, (∀ q ∈ F.b, q.1 ∈ B) → SS X.K X.mg E F Ol O O' t m
section
variable {X : Cx} {E : L2.St → XK} {F : Fm} {B Ol O O1 O2 O' : List Nat} {a b c e : Expr} {st : Stmt} {sts rest : List Stmt} {ma mb mc : EM} {mt : TM} {m m1 m2 : SM} {pos pos' : Pos}
def sNil : SM := fun env => .ok (.nx env)
def sSeq (a b : SM) : SM := fun env => (a env).bind fun c => match c with
  | .nx env' => b env'
  | c => .ok c
/-- the end of a block: the slots that own there are told -/
theorem mss_nil (hs : ∀ i ∈ O', i ∈ O := by decide) : MSs X E B Ol O O' [] sNil :=
  ⟨_, pss_nil, fun F hB σ H env s Dn w => w σ H (s.weak hs) (ex_weak s hs)⟩
theorem mss_cons (h1 : MS X E B Ol O O1 st m1) (h2 : MSs X E B Ol O1 O2 rest m2) : MSs X E B Ol O O2 (st :: rest) (sSeq m1 m2) := by
  obtain ⟨t, p, s1⟩ := h1.ex
  obtain ⟨u, q, s2⟩ := h2.ex
  refine ⟨_, pss_cons p q, fun F hB σ H env s Dn w => s1 F hB σ H env s { Dn with nx := u Dn } ?_⟩
  unfold sSeq at w
  cases h : m1 env with
  | ok c =>
    rw [h] at w
    cases c with
    | nx env' => exact fun σ' H' s' e => s2 F hB σ' H' env' s' Dn (WS.mono w e)
    | rt d => exact w
    | bk env' => exact w
    | ct env' => exact w
  | exc c fs env' => rw [h] at w; exact w
  | bad => rw [h] at w; exact w
/-- ahead of a block some slots give up what they own -/
theorem mss_pre (h : MSs X E B Ol O1 O' sts m) (hs : ∀ i ∈ O1, i ∈ O := by decide) : MSs X E B Ol O O' sts m := by
  obtain ⟨t, p, s1⟩ := h.ex
  exact ⟨t, p, fun F hB σ H env s Dn w => s1 F hB σ H env (s.weak hs) Dn (WS.mono w (ex_weak s hs))⟩
theorem ms_pre (h : MS X E B Ol O1 O' st m) (hs : ∀ i ∈ O1, i ∈ O := by decide) : MS X E B Ol O O' st m := by
  obtain ⟨t, p, s1⟩ := h.ex
  exact ⟨t, p, fun F hB σ H env s Dn w => s1 F hB σ H env (s.weak hs) Dn (WS.mono w (ex_weak s hs))⟩
theorem ms_pass : MS X E B Ol O O (.Pass pos) sNil := ⟨_, ps_pass, fun F hB σ H env s Dn w => w σ H s (Ex.refl _)⟩
def sBk : SM := fun env => .ok (.bk env)
def sCt : SM := fun env => .ok (.ct env)
theorem ms_break (hs : ∀ i ∈ Ol, i ∈ O := by decide) : MS X E B Ol O O' (.Break pos) sBk := ⟨_, ps_break, fun F hB σ H env s Dn w => w σ H (s.weak hs) (ex_weak s hs)⟩
theorem ms_continue (hs : ∀ i ∈ Ol, i ∈ O := by decide) : MS X E B Ol O O' (.Continue pos) sCt := ⟨_, ps_continue, fun F hB σ H env s Dn w => w σ H (s.weak hs) (ex_weak s hs)⟩
/-- x = e -/
def sSet (i : Nat) (m : EM) : SM := fun env => (m env).go env fun d => .ok (.nx (env.set i (some d)))
theorem s_set (i : Nat) {te : TE} (hb : ∀ q ∈ F.b, q.1 ≠ i) (h : SE X.K X.mg E F O te ma) : SS X.K X.mg E F Ol O (O.filter fun k => k != i) (tAsg te (gName i)) (sSet i ma) := fun σ H env s Dn w =>
  h σ H env s _ (WS.seqE s w fun v d H1 e r w1 => let ⟨s2, e2⟩ := SR.set (i := i) hb (s.ext e) r; w1 _ H1 s2 e2)
theorem ms_set (i : Nat) {x : Str} (hN : X.N.Nodup) (h : ME X E O e ma) (hi0 : i ∉ B := by decide) (hO : (O.filter fun k => k != i) = O' := by rfl) (hi : X.N[i]? = some x := by rfl) (hx : Loc X.env.scope x := by first | exact Or.inl rfl | exact Or.inr rfl) (hs : swapsWith e (some (.Name x pos')) pos.line X.env = pure false := by rfl)
    (hf : X.fn x = true ∨ X.env.scope.names.lookup x = some .local := by first | exact .inl rfl | exact .inr rfl) : MS X E B Ol O O' (.Assign [.Name x pos'] e pos) (sSet i ma) := by
  obtain ⟨t, p, z⟩ := h.ex
  subst hO
  exact ⟨_, ps_set hN hi hx p hs hf, fun F hB => s_set i (fun q hq e => hi0 (e ▸ hB q hq)) (z F)⟩
/-- x = e, e a new list or dict, which x is to own -/
def sSetF (i : Nat) (m : EM) : SM := fun env => (m env).go env fun d => RS.when (i < env.length) (.ok (.nx (env.set i (some d))))
theorem s_setF (i : Nat) {te : TE} (hb : ∀ q ∈ F.b, q.1 ≠ i) (h : SF X.K X.mg E F O te ma) : SS X.K X.mg E F Ol O (i :: O.filter fun k => k != i) (tAsg te (gName i)) (sSetF i ma) := fun σ H env s Dn w => by
  refine h σ H env s _ ?_
  unfold sSetF at w
  cases hm : ma env with
  | ok d =>
    rw [hm] at w
    intro v H1 e r
    replace w : WS X.K X.mg E F Ol (i :: O.filter fun k => k != i) (ows O σ) H Dn (if i < env.length then .ok (.nx (env.set i (some d))) else .bad) := w
    by_cases hi : i < env.length
    · rw [if_pos hi] at w
      obtain ⟨s2, e2⟩ := SR.setOwn hb hi s e r
      exact w _ H1 s2 e2
    · rw [if_neg hi] at w; exact w.elim
  | exc c fs => rw [hm] at w; exact fun C o H' e m x => w C o σ H' ((s.ext e).weak fun i hi => by simp at hi) (Ex.ofCut.trans e) m (x.mono fun b hb => List.mem_append_left _ hb)
  | bad => rw [hm] at w; exact w
theorem ms_setF (i : Nat) {x : Str} (hN : X.N.Nodup) (h : MF X E O e ma) (hi0 : i ∉ B := by decide) (hO : (i :: O.filter fun k => k != i) = O' := by rfl) (hi : X.N[i]? = some x := by rfl) (hx : Loc X.env.scope x := by first | exact Or.inl rfl | exact Or.inr rfl) (hs : swapsWith e (some (.Name x pos')) pos.line X.env = pure false := by rfl)
    (hf : X.fn x = true ∨ X.env.scope.names.lookup x = some .local := by first | exact .inl rfl | exact .inr rfl) : MS X E B Ol O O' (.Assign [.Name x pos'] e pos) (sSetF i ma) := by
  obtain ⟨t, p, z⟩ := h.ex
  subst hO
  exact ⟨_, ps_set hN hi hx p hs hf, fun F hB => s_setF i (fun q hq e => hi0 (e ▸ hB q hq)) (z F)⟩
/-- e; return e -/
def sDrop (m : EM) : SM := fun env => (m env).go env fun _ => .ok (.nx env)
theorem ms_expr (h : MW X E O e ma) (hs : swapsWith e none pos.line X.env = pure false := by rfl) : MS X E B Ol O O (.Expr e pos) (sDrop ma) := by
  obtain ⟨t, p, z⟩ := h.ex
  exact ⟨_, ps_expr p hs, fun F hB σ H env s Dn w => z F σ H env s _ (WS.seqE s w fun v d H1 e r w1 => w1 σ H1 (s.ext e) (Ex.refl _))⟩
def sRet (m : EM) : SM := fun env => (m env).go env fun d => .ok (.rt d)
theorem ms_ret (h : ME X E O e ma) : MS X E B Ol O O' (.Return (some e) pos) (sRet ma) := by
  obtain ⟨t, p, z⟩ := h.ex
  exact ⟨_, ps_ret p, fun F hB σ H env s Dn w => z F σ H env s _ (WS.seqE s w fun v d H1 e r w1 => w1 v H1 Ex.ofCut (DR.mono r ((Ex.refl H1).cut fun b hb => .inl (List.mem_append_left _ hb))))⟩
def sRetN : SM := fun _ => .ok (.rt .non)
theorem ms_retN : MS X E B Ol O O' (.Return none pos) sRetN := ⟨_, ps_retN, fun F hB σ H env s Dn w => w .non H Ex.ofCut .non⟩
/-- if -/
def sIf (t : TM) (a b : SM) : SM := fun env => (t env).go env fun k => if k = true then a env else b env
theorem ms_if {as bs : List Stmt} (ht : MT X E O c mt) (ha : MSs X E B Ol O O' as m1) (hb : MSs X E B Ol O O' bs m2) : MS X E B Ol O O' (.If c as bs pos) (sIf mt m1 m2) := by
  obtain ⟨t, p, z⟩ := ht.ex
  obtain ⟨u, q, z1⟩ := ha.ex
  obtain ⟨u', q', z2⟩ := hb.ex
  refine ⟨_, ps_if p q q', fun F hB σ H env s Dn w => z F σ H env s _ (WS.seqE s w fun k k' H1 e r w1 => ?_)⟩
  cases r
  cases k with
  | true => exact z1 F hB σ H1 env (s.ext e) Dn w1
  | false => exact z2 F hB σ H1 env (s.ext e) Dn w1
/-- while: fuel -/
def sWhile (t : TM) (b : SM) : Nat → SM
  | 0, _ => .bad
  | n + 1, env => (t env).go env fun k => if k = true then (b env).bind fun c => match c with
      | .nx env' => sWhile t b n env'
      | .ct env' => sWhile t b n env'
      | .bk env' => .ok (.nx env')
      | .rt d => .ok (.rt d)
    else .ok (.nx env)
theorem ms_while (n : Nat) {body : List Stmt} (hp : PassesOwn (model X.prog X.w) X.A X.env X.xe) (ht : MT X E O c mt) (hb : MSs X E B O O O body m) : MS X E B Ol O O (.While c body [] pos) (sWhile mt m n) := by
  obtain ⟨t, p, z⟩ := ht.ex
  obtain ⟨u, q, z1⟩ := hb.ex
  refine ⟨_, ps_while hp p q, fun F hB σ H env s Dn w => ?_⟩
  refine ⟨fun k σ' H' => ∃ env', SR X.K X.mg F O σ' H' env' ∧ Ex (cut (ows O σ) H) (cut (ows O σ') H') ∧ WS X.K X.mg E F Ol O (ows O σ) H Dn (sWhile mt m k env'), ⟨n, env, s, Ex.refl _, w⟩, ?_⟩
  rintro k σ' H' ⟨env', s', e', w'⟩
  cases k with
  | zero => exact w'.elim
  | succ k =>
    have w3 : WS X.K X.mg E F Ol O (ows O σ) H Dn ((mt env').go env' fun k' => if k' = true then (m env').bind fun c => match c with
        | .nx env' => sWhile mt m k env'
        | .ct env' => sWhile mt m k env'
        | .bk env' => .ok (.nx env')
        | .rt d => .ok (.rt d)
      else .ok (.nx env')) := w'
    cases ht : mt env' with
    | bad => rw [ht] at w3; exact w3.elim
    | exc c fs =>
      rw [ht] at w3
      refine z F σ' H' env' s' _ ?_
      rw [ht]
      exact fun C o H2 e2 mm x => w3 C o σ' H2 ((s'.ext e2).weak fun i hi => by simp at hi) (e'.trans (Ex.ofCut.trans e2)) mm (x.mono fun b hb => List.mem_append_left _ hb)
    | ok b0 =>
      rw [ht] at w3
      refine z F σ' H' env' s' _ ?_
      rw [ht]
      intro b H1 e r
      cases r
      have e3 : Ex (cut (ows O σ) H) (cut (ows O σ') H1) := e'.trans e.cutS
      cases b0 with
      | false => exact w3 σ' H1 (s'.ext e) e3
      | true =>
        refine ⟨fun σ2 H2 => ∃ env2, SR X.K X.mg F O σ2 H2 env2 ∧ Ex (cut (ows O σ) H) (cut (ows O σ2) H2) ∧ WS X.K X.mg E F Ol O (ows O σ) H Dn (sWhile mt m k env2), fun σ2 H2 q2 => ⟨k, Nat.lt_succ_self k, q2⟩, ?_⟩
        refine z1 F hB σ' H1 env' (s'.ext e) _ ?_
        replace w3 : WS X.K X.mg E F Ol O (ows O σ) H Dn ((m env').bind fun c => match c with
          | .nx env' => sWhile mt m k env'
          | .ct env' => sWhile mt m k env'
          | .bk env' => .ok (.nx env')
          | .rt d => .ok (.rt d)) := w3
        cases hm : m env' with
        | ok c =>
          rw [hm] at w3
          cases c with
          | nx env2 => exact fun σ2 H2 s2 e2 => ⟨env2, s2, e3.trans e2, w3⟩
          | ct env2 => exact fun σ2 H2 s2 e2 => ⟨env2, s2, e3.trans e2, w3⟩
          | bk env2 => exact fun σ2 H2 s2 e2 => w3 σ2 H2 s2 (e3.trans e2)
          | rt d => exact fun v H2 e2 r => w3 v H2 (e3.trans e2) r
        | exc c fs env2 => rw [hm] at w3; exact fun C o σ2 H2 s2 e2 mm x => w3 C o σ2 H2 s2 (e3.trans e2) mm x
        | bad => rw [hm] at w3; exact w3
end
end MD

namespace MD
open PySem L2
theorem pg_or {X : Cx} {e : Expr} {t u : TG} (h : PG X e t) (h' : PG X e u) : PG X e (fun v σ H Q => t v σ H Q ∨ u v σ H Q) := ⟨fun pins s σ H v w Q I r q => by
  rcases q with q | q
  · exact h.run pins s σ H v w Q I r q
  · exact h'.run pins s σ H v w Q I r q⟩
theorem pi_or {X : Cx} {tg e : Expr} {t u : TI} (h : PI X tg e t) (h' : PI X tg e u) : PI X tg e (fun σ H R => t σ H R ∨ u σ H R) := ⟨fun pins s σ H R I q => by
  rcases q with q | q
  · exact h.run pins s σ H R I q
  · exact h'.run pins s σ H R I q⟩
theorem rem_none {O : List Nat} {i : Nat} (h : i ∉ O) : (O.filter fun k => k != i) = O := List.filter_eq_self.mpr fun k hk => by simp; intro e; exact h (by rw [← e]; exact hk)
theorem ows_same {O : List Nat} {σ : L2.St} {i : Nat} {v : Option V} (h : i ∉ O) : ows O (σ.set i v) = ows O σ := by
  have gen : ∀ l : List Nat, (∀ j ∈ l, j ≠ i) → l.filterMap (adr (σ.set i v)) = l.filterMap (adr σ) := by
    intro l
    induction l with
    | nil => intro _; rfl
    | cons j l ih =>
      intro hl
      have e : adr (σ.set i v) j = adr σ j := by
        unfold adr
        rw [List.getElem?_set_ne (Ne.symm (hl j List.mem_cons_self))]
      rw [List.filterMap_cons, List.filterMap_cons, e, ih fun k hk => hl k (List.mem_cons_of_mem _ hk)]
  exact gen O fun j hj z => h (by rw [← z]; exact hj)
section
variable {K : PySem.W.Frag} {mg : Str → Option Value} {E : XK} {F : Fm} {O : List Nat} {H H' : Hp} {σ : L2.St} {env : Env}
theorem SR.put {i : Nat} {v : V} {d : D} (hb : ∀ q ∈ F.b, q.1 ≠ i) (hi : i ∉ O) (s : SR K mg F O σ H env) (r : DR K mg (cut (F.l ++ ows O σ) H) v d) : SR K mg F O (σ.set i (some v)) H (env.set i (some d)) := by
  have q := (SR.set (i := i) hb s r).1
  rw [rem_none hi] at q
  exact q
/-! ### targets -/
abbrev GM := D → Env → Option Env
def SG (K : PySem.W.Frag) (mg : Str → Option Value) (F : Fm) (O is : List Nat) (g : TG) (m : GM) : Prop :=
  ∀ σ H env v d, SR K mg F O σ H env → DR K mg (cut (F.l ++ ows O σ) H) v d → ∀ Q : L2.St → Hp → Prop, (match m d env with
    | some env' => ∀ σ', SR K mg F O σ' H env' → ows O σ' = ows O σ → (∀ vs, (∀ i ∈ is, i ∈ vs) → wipe σ' vs = wipe σ vs) → Q σ' H
    | none => False) → g v σ H Q
def gmName (i : Nat) : GM := fun d env => some (env.set i (some d))
theorem wipe_at : ∀ (vs : List Nat) (σ : L2.St) (j : Nat), (wipe σ vs)[j]? = if j ∈ vs then (if j < σ.length then some none else none) else σ[j]?
  | [], σ, j => by simp [wipe]
  | v :: vs, σ, j => by
    show ((wipe σ vs).set v none)[j]? = _
    by_cases h : v = j
    · subst h
      rw [if_pos List.mem_cons_self]
      by_cases hl : v < σ.length
      · rw [List.getElem?_set_self (by rw [wipe_length]; exact hl), if_pos hl]
      · rw [List.getElem?_eq_none (by rw [List.length_set, wipe_length]; omega), if_neg hl]
    · rw [List.getElem?_set_ne h, wipe_at vs σ j]
      have e : (j ∈ v :: vs) ↔ j ∈ vs := by
        rw [List.mem_cons]
        exact ⟨fun q => q.elim (fun z => absurd z.symm h) id, .inr⟩
      by_cases hm : j ∈ vs
      · rw [if_pos hm, if_pos (e.mpr hm)]
      · rw [if_neg hm, if_neg fun z => hm (e.mp z)]
theorem wipe_set {vs : List Nat} {σ : L2.St} {i : Nat} {v : Option V} (h : i ∈ vs) : wipe (σ.set i v) vs = wipe σ vs := by
  apply List.ext_getElem?
  intro j
  rw [wipe_at, wipe_at, List.length_set]
  by_cases hj : j ∈ vs
  · rw [if_pos hj, if_pos hj]
  · rw [if_neg hj, if_neg hj, List.getElem?_set_ne (fun z => hj (by rw [← z]; exact h))]
theorem wipe_wipe {vs : List Nat} {σ : L2.St} : wipe (wipe σ vs) vs = wipe σ vs := by
  apply List.ext_getElem?
  intro j
  rw [wipe_at, wipe_length, wipe_at]
  by_cases hj : j ∈ vs
  · rw [if_pos hj, if_pos hj]
  · rw [if_neg hj]
theorem sg_name {i : Nat} (hb : ∀ q ∈ F.b, q.1 ≠ i) (hi : i ∉ O) : SG K mg F O [i] (gName i) (gmName i) := fun σ H env v d s r Q w => w _ (s.put hb hi r) (ows_same hi) fun vs h => wipe_set (h i List.mem_cons_self)
def setAll : Env → List Nat → List D → Env
  | env, i :: is, d :: ds => setAll (env.set i (some d)) is ds
  | env, _, _ => env
def gNames : List Nat → TGs
  | [] => gNil
  | i :: is => gCons (gName i) (gNames is)
theorem gs_all : ∀ {is : List Nat} {σ : L2.St} {env : Env} {vs : List V} {ds : List D}, (∀ q ∈ F.b, q.1 ∉ is) → (∀ i ∈ is, i ∉ O) → SR K mg F O σ H env → DRs K mg (cut (F.l ++ ows O σ) H) vs ds → vs.length = is.length → ∀ Q : L2.St → Hp → Prop,
    (∀ σ', SR K mg F O σ' H (setAll env is ds) → ows O σ' = ows O σ → (∀ vs, (∀ i ∈ is, i ∈ vs) → wipe σ' vs = wipe σ vs) → Q σ' H) → gNames is vs σ H Q
  | [], σ, env, vs, ds, _, _, s, h, hl, Q, w => by
    cases vs with
    | cons v vs => simp at hl
    | nil => exact ⟨rfl, w σ (by cases ds <;> exact s) rfl fun _ _ => rfl⟩
  | i :: is, σ, env, vs, ds, hb, hO, s, h, hl, Q, w => by
    cases vs with
    | nil => simp at hl
    | cons v vs =>
      cases ds with
      | nil => have := h.1; simp at this
      | cons d ds =>
        obtain ⟨h1, h2⟩ := h.uncons
        have hi := hO i List.mem_cons_self
        have e := ows_same (σ := σ) (v := some v) hi
        exact ⟨v, vs, rfl, gs_all (fun q hq z => hb q hq (List.mem_cons_of_mem _ z)) (fun j hj => hO j (List.mem_cons_of_mem _ hj)) (s.put (fun q hq e => hb q hq (by rw [e]; exact List.mem_cons_self)) hi h1) (by rw [e]; exact h2) (by simpa using hl) Q fun σ' s' q z => w σ' s' (q.trans e) fun vs hv => (z vs fun j hj => hv j (List.mem_cons_of_mem _ hj)).trans (wipe_set (hv i List.mem_cons_self))⟩
def gmTup (is : List Nat) : GM := fun d env => (seqOf d).bind fun ds => if ds.length = is.length then some (setAll env is ds) else none
theorem sg_tup {is : List Nat} {n : Nat} (hb : ∀ q ∈ F.b, q.1 ∉ is) (hn : is.length = n) (hO : ∀ i ∈ is, i ∉ O) : SG K mg F O is (fun v σ H Q => gTup K n (gNames is) v σ H Q ∨ gUnl K n (gNames is) v σ H Q) (gmTup is) := fun σ H env v d s r Q w => by
  unfold gmTup at w
  cases e : seqOf d with
  | none => rw [e] at w; exact w.elim
  | some ds =>
    rw [e] at w
    simp only [Option.bind_some] at w
    by_cases hl : ds.length = is.length
    · rw [if_pos hl] at w
      obtain ⟨p, vs, rfl, h1, h2⟩ := (WR.sh r).seq e
      have q := gs_all (Q := Q) hb hO s h2 (by rw [h2.1, hl]) w
      have hvn : vs.length = n := by rw [h2.1, hl, hn]
      rcases h1 with h1 | h1
      · exact .inr ⟨p, vs, rfl, h1, hvn, q⟩
      · exact .inl ⟨p, vs, rfl, h1, hvn, q⟩
    · rw [if_neg hl] at w; exact w.elim
end
structure MG (X : Cx) (O : List Nat) (tg : Expr) (is : List Nat) (m : GM) : Prop where
  ex : ∃ g, PG X tg g ∧ ∀ F, (∀ q ∈ F.b, q.1 ∉ is) → SG X.K X.mg F O is g m
structure MGs (X : Cx) (O : List Nat) (tgs : List Expr) (is : List Nat) : Prop where
  pg : PGs X tgs (gNames is)
  out : ∀ i ∈ is, i ∉ O
section
variable {X : Cx} {O : List Nat} {pos : Pos} {x : Str} {es : List Expr} {is : List Nat}
theorem mg_name (i : Nat) (hN : X.N.Nodup) (hO : i ∉ O := by decide) (hi : X.N[i]? = some x := by rfl) (hx : Loc X.env.scope x := by first | exact Or.inl rfl | exact Or.inr rfl) (hf : X.fn x = true ∨ X.env.scope.names.lookup x = some .local := by first | exact .inl rfl | exact .inr rfl) : MG X O (.Name x pos) [i] (gmName i) :=
  ⟨_, pg_name hN hi hx hf, fun F hb => sg_name (fun q hq e => hb q hq (by rw [e]; exact List.mem_cons_self)) hO⟩
theorem mgs_nil : MGs X O [] [] := ⟨pgs_nil, fun i h => by simp at h⟩
theorem mgs_cons (i : Nat) (hN : X.N.Nodup) (h : MGs X O es is) (hO : i ∉ O := by decide) (hi : X.N[i]? = some x := by rfl) (hx : Loc X.env.scope x := by first | exact Or.inl rfl | exact Or.inr rfl) (hf : X.fn x = true ∨ X.env.scope.names.lookup x = some .local := by first | exact .inl rfl | exact .inr rfl)
    (hs : (assignEach (.Name x pos :: es) X.env).map (·.2) = assign (.Name x pos) X.env :: (assignEach es X.env).map (·.2) := by rfl) : MGs X O (.Name x pos :: es) (i :: is) :=
  ⟨pgs_cons (pg_name hN hi hx hf) h.pg hs, fun j hj => by
    rcases List.mem_cons.mp hj with e | e
    · rw [e]; exact hO
    · exact h.out j e⟩
theorem mg_tup {k : Nat} (hc : X.calm = true) (h : MGs X O es is) (hn : (assignEach es X.env).length = is.length := by rfl) (hst : (assignEach es X.env).findIdx? (·.1) = none := by rfl) : MG X O (.Tuple es k pos) is (gmTup is) :=
  ⟨_, pg_or (pg_tup hc h.pg hn hst) (pg_unl hc h.pg hn hst), fun F hb => sg_tup hb rfl h.out⟩
end

/-! ### what is walked -/
def Wk (K : PySem.W.Frag) (mg : Str → Option Value) (F A0 : List Addr) (H1 : Hp) (J : It) (ds : List D) : Prop := ∀ (i : Nat) H', Ex (cut A0 H1) H' → (i = ds.length → J.stop i H') ∧ ∀ d, ds[i]? = some d → J.go i H' ∧ ∀ x H'', J.yld i H' x H'' → H'' = H' ∧ DR K mg (cut (F ++ A0) H1) x d
structure MI (X : Cx) (E : L2.St → XK) (O : List Nat) (tg iter : Expr) (m : AM) : Prop where
  ex : ∃ wi, PI X tg iter wi ∧ ∀ F σ H env, SR X.K X.mg F O σ H env → ∀ Q, Wn X.K X.mg (E σ) (F.l ++ ows O σ) H (fun H1 J ds => Wk X.K X.mg F.l (ows O σ) H1 J ds) Q (m env) → wi σ H Q
section
variable {K : PySem.W.Frag} {mg : Str → Option Value} {F A0 : List Addr} {H1 : Hp}
theorem wk_list {a : Addr} {vs : List V} {ds : List D} (h : SqL K (cut A0 H1) a vs) (hd : DRs K mg (cut (F ++ A0) H1) vs ds) : Wk K mg F A0 H1 (Itl K a) ds := fun i H' e => by
  have q := Ex.sqL e h
  refine ⟨fun hi => ⟨vs, q, by rw [hi, hd.1]; exact Nat.le_refl _⟩, fun d hd' => ?_⟩
  obtain ⟨v, hv, r⟩ := hd.get hd'
  exact ⟨⟨vs, v, q, hv⟩, fun x H'' ⟨y1, y2⟩ => ⟨y1, by
    have z := y2 vs q
    rw [hv] at z
    cases z
    exact r⟩⟩
theorem wk_tup {a : Addr} {vs : List V} {ds : List D} (h : SqT K (cut A0 H1) a vs) (hd : DRs K mg (cut (F ++ A0) H1) vs ds) : Wk K mg F A0 H1 (Itt K a) ds := fun i H' e => by
  have q := Ex.sqT e h
  refine ⟨fun hi => ⟨vs, q, by rw [hi, hd.1]; exact Nat.le_refl _⟩, fun d hd' => ?_⟩
  obtain ⟨v, hv, r⟩ := hd.get hd'
  exact ⟨⟨vs, v, q, hv⟩, fun x H'' ⟨y1, y2⟩ => ⟨y1, by
    have z := y2 vs q
    rw [hv] at z
    cases z
    exact r⟩⟩
theorem rngD_get {lo : Int} {n i : Nat} {d : D} (h : ((List.range n).map fun (k : Nat) => D.int (lo + (k : Int)))[i]? = some d) : i < n ∧ d = .int (lo + (i : Int)) := by
  rw [List.getElem?_map] at h
  by_cases hi : i < n
  · rw [List.getElem?_range hi] at h
    cases h
    exact ⟨hi, rfl⟩
  · rw [List.getElem?_eq_none (by simpa using hi)] at h
    cases h
def rngD (lo : Int) (n : Nat) : List D := (List.range n).map fun (k : Nat) => D.int (lo + (k : Int))
theorem wk_rng {lo : Int} {n : Nat} : Wk K mg F A0 H1 (Itr lo n) (rngD lo n) := fun i H' e => by
  refine ⟨fun hi => ?_, fun d hd => ?_⟩
  · show n ≤ i
    rw [hi]; unfold rngD; simp
  · obtain ⟨h1, h2⟩ := rngD_get hd
    exact ⟨h1, fun x H'' ⟨y1, y2⟩ => ⟨y1, by rw [y2, h2]; exact .int _⟩⟩
theorem wk_str {z : Str} : Wk K mg F A0 H1 (Its z) (z.cps.toList.map fun c => D.str ⟨#[c]⟩) := fun i H' e => by
  refine ⟨fun hi => ?_, fun d hd => ?_⟩
  · show z.cps.size ≤ i
    rw [hi]; simp
  · rw [List.getElem?_map] at hd
    cases hc : z.cps.toList[i]? with
    | none => rw [hc] at hd; cases hd
    | some c =>
      rw [hc] at hd
      cases hd
      have hc' : z.cps[i]? = some c := by rw [← hc]; simp
      have hi : i < z.cps.size := by
        have := (List.getElem?_eq_some_iff.mp hc).1
        simpa using this
      refine ⟨hi, fun x H'' ⟨y1, c', y2, y3⟩ => ⟨y1, ?_⟩⟩
      rw [hc'] at y2
      cases y2
      rw [y3]
      exact .str _
end
section
variable {X : Cx} {E : L2.St → XK} {F : Fm} {O : List Nat} {a b e tg : Expr} {ma mb : EM} {pos p : Pos}
def itD : D → Option (List D)
  | .str z => some (z.cps.toList.map fun c => D.str ⟨#[c]⟩)
  | s => seqOf s
def iSeq (a : EM) : AM := fun env => (a env).bind fun d => R.of (itD d)
def isTupD : D → Bool
  | .tup _ => true
  | .ktp _ => true
  | _ => false
def isStrD : D → Bool
  | .str _ => true
  | _ => false
theorem mi_seq (h : ME X E O e ma) : MI X E O tg e (iSeq ma) := by
  obtain ⟨te, pe, se⟩ := h.ex
  refine ⟨_, pi_or (pi_or (pi_list pe) (pi_tup pe)) (pi_str pe), fun F σ H env s Q w => ?_⟩
  unfold iSeq at w
  have cutW : ∀ {G : Hp}, Ex (cut (F.l ++ ows O σ) G) (cut (ows O σ) G) := fun {G} => (Ex.refl G).cut fun b hb => .inl (List.mem_append_right _ hb)
  cases h0 : ma env with
  | bad => rw [h0] at w; exact w.elim
  | exc c fs =>
    rw [h0] at w
    exact .inl (.inl (se F σ H env s _ (by rw [h0]; exact w)))
  | ok d =>
    rw [h0] at w
    replace w : Wn X.K X.mg (E σ) (F.l ++ ows O σ) H (fun H1 J ds => Wk X.K X.mg F.l (ows O σ) H1 J ds) Q (R.of (itD d)) := w
    cases hd : itD d with
    | none => rw [hd] at w; exact w.elim
    | some ds =>
      rw [hd] at w
      cases d <;> first | (cases hd; done) | skip
      · cases hd
        refine .inr (se F σ H env s _ ?_)
        rw [h0]
        intro v H1 e r
        cases r
        exact ⟨_, rfl, w _ H1 e wk_str⟩
      · cases hd
        refine .inl (.inl (se F σ H env s _ ?_))
        rw [h0]
        intro v H1 e r
        cases r with
        | lst g l z => exact ⟨_, rfl, ⟨_, SqL.of (cut_some g).2⟩, w _ H1 e (wk_list (SqL.of (cutW _ _ g)) ⟨l, z⟩)⟩
      · cases hd
        refine .inl (.inr (se F σ H env s _ ?_))
        rw [h0]
        intro v H1 e r
        cases r with
        | tup g l z => exact ⟨_, rfl, ⟨_, SqT.of (cut_some g).2⟩, w _ H1 e (wk_tup (SqT.of (cutW _ _ g)) ⟨l, z⟩)⟩
      · cases hd
        refine .inl (.inl (se F σ H env s _ ?_))
        rw [h0]
        intro v H1 e r
        cases r with
        | scr g l z => exact ⟨_, rfl, ⟨_, Ex.ofCut.sqL g⟩, w _ H1 e (wk_list (Ex.sqL cutW g) ⟨l, z⟩)⟩
      · cases hd
        refine .inl (.inr (se F σ H env s _ ?_))
        rw [h0]
        intro v H1 e r
        cases r with
        | ktp g l z => exact ⟨_, rfl, ⟨_, Ex.ofCut.sqT g⟩, w _ H1 e (wk_tup (Ex.sqT cutW g) ⟨l, z⟩)⟩
def CRng (i : Int) : Prop := -(2 ^ 62) ≤ i ∧ i < 2 ^ 62
instance (i : Int) : Decidable (CRng i) := by unfold CRng; infer_instance
def iRng (a : EM) : AM := fun env => (a env).bind fun d => match d with
  | .int j => R.when (CRng j) (.ok (rngD 0 j.toNat))
  | _ => .bad
def iRng' (a b : EM) : AM := fun env => (a env).bind fun d => (b env).bind fun d' => match d, d' with
  | .int i, .int j => R.when (CRng i ∧ CRng j) (.ok (rngD i (j - i).toNat))
  | _, _ => .bad
theorem mi_rng1 (hm : X.mg "range" = none) (h : MW X E O a ma) (hg : Gl X "range" := by rfl) (hst : starEach (a :: []) X.env = (false, eval a X.env) :: starEach [] X.env := by rfl) (hst' : starEach [a] X.env = [(false, eval a X.env)] := by rfl) : MI X E O tg (.Call (.Name "range" p) [a] [] pos) (iRng ma) := by
  obtain ⟨te, pe, se⟩ := h.ex
  refine ⟨_, pi_range1 hg hm (pa_cons pe pa_nil hst) hst', fun F σ H env s Q w => se F σ H env s _ (w.seq fun x dx H1 e1 r1 w1 => ?_)⟩
  cases dx <;> first | exact w1.elim | skip
  obtain ⟨c, w1⟩ := Wn.when w1
  exact ⟨_, by rw [WR.int r1], c.1, c.2, w1 _ H1 (Ex.refl _) wk_rng⟩
theorem mi_rng2 (hm : X.mg "range" = none) (h : MW X E O a ma) (h' : MW X E O b mb) (hg : Gl X "range" := by rfl) (hst : starEach (a :: [b]) X.env = (false, eval a X.env) :: starEach [b] X.env := by rfl) (hst2 : starEach (b :: []) X.env = (false, eval b X.env) :: starEach [] X.env := by rfl)
    (hs : starEach [a, b] X.env = [(false, eval a X.env), (false, eval b X.env)] := by rfl) (hs2 : starEach [b] X.env = [(false, eval b X.env)] := by rfl) : MI X E O tg (.Call (.Name "range" p) [a, b] [] pos) (iRng' ma mb) := by
  obtain ⟨te, pe, se⟩ := h.ex
  obtain ⟨te', pe', se'⟩ := h'.ex
  refine ⟨_, pi_range2 hg hm (pa_cons pe (pa_cons pe' pa_nil hst2) hst) hs hs2, fun F σ H env s Q w => se F σ H env s _ (w.seq fun x dx H1 e1 r1 w1 => se' F σ H1 env (s.ext e1) _ (w1.seq fun y dy H2 e2 r2 w2 => ?_))⟩
  cases dx <;> cases dy <;> first | exact w2.elim | skip
  obtain ⟨c, w2⟩ := Wn.when w2
  exact ⟨_, _, by rw [WR.int r1, WR.int r2], ⟨c.1.1, c.1.2, c.2.1, c.2.2⟩, w2 _ H2 (Ex.refl _) wk_rng⟩
end

/-! ### for -/
def sForL (g : GM) (b : SM) : List D → SM
  | [], env => .ok (.nx env)
  | d :: ds, env => (R.of (g d env)).go env fun env1 => (b env1).bind fun c => match c with
    | .nx env' => sForL g b ds env'
    | .ct env' => sForL g b ds env'
    | .bk env' => .ok (.nx env')
    | .rt d => .ok (.rt d)
def sFor (i : AM) (g : GM) (b : SM) : SM := fun env => (i env).go env fun ds => sForL g b ds env
section
variable {X : Cx} {E : L2.St → XK} {F : Fm} {B Ol O O1 O' : List Nat} {iter tg : Expr} {body : List Stmt} {mi : AM} {mg : GM} {m : SM} {pos : Pos}
theorem ms_for (hp : PassesOwn (model X.prog X.w) X.A X.env X.xe) (hc : X.calm = true) (hi : MI X E O tg iter mi) {is : List Nat} (hg : MG X O tg is mg) (hb : MSs X E B O O O body m) (hB' : ∀ i ∈ is, i ∉ B := by decide) (hs : ∀ x, foldedSetIterable iter X.env x = pure x := by intro _; rfl) : MS X E B Ol O O (.For tg iter body [] pos) (sFor mi mg m) := by
  obtain ⟨wi, pi, si⟩ := hi.ex
  obtain ⟨g, pg, sg⟩ := hg.ex
  obtain ⟨u, q, z1⟩ := hb.ex
  refine ⟨_, ps_for hp hc pi pg q hs, fun F hB σ H env s Dn w => si F σ H env s _ (WS.seqE s w fun J ds H1 e1 wk w1 => ?_)⟩
  refine ⟨fun i k σ' H' => i ≤ ds.length ∧ k = ds.length - i ∧ ∃ env', SR X.K X.mg F O σ' H' env' ∧ Ex (cut (ows O σ) H1) (cut (ows O σ') H') ∧ WS X.K X.mg E F Ol O (ows O σ) H1 Dn (sForL mg m (ds.drop i) env'), ⟨ds.length, Nat.zero_le _, rfl, env, s.ext e1, Ex.refl _, w1⟩, ?_⟩
  rintro i k σ' H' ⟨hi, rfl, env', s', e', w'⟩
  have hw := wk i H' (e'.trans Ex.ofCut)
  by_cases hlt : i < ds.length
  · right
    have hd : ds[i]? = some ds[i] := List.getElem?_eq_getElem hlt
    obtain ⟨hgo, hy⟩ := hw.2 _ hd
    refine ⟨hgo, fun σ2 H2 => i + 1 ≤ ds.length ∧ ∃ env2, SR X.K X.mg F O σ2 H2 env2 ∧ Ex (cut (ows O σ) H1) (cut (ows O σ2) H2) ∧ WS X.K X.mg E F Ol O (ows O σ) H1 Dn (sForL mg m (ds.drop (i + 1)) env2), fun σ2 H2 q2 => ⟨ds.length - (i + 1), by omega, q2.1, rfl, q2.2⟩, fun x H2 hy2 => ?_⟩
    obtain ⟨rfl, r⟩ := hy x H2 hy2
    have eF : Ex (cut (F.l ++ ows O σ) H1) (cut (F.l ++ ows O σ') H2) := by rw [cut_app, cut_app]; exact e'.cutS
    rw [List.drop_eq_getElem_cons hlt] at w'
    replace w' : WS X.K X.mg E F Ol O (ows O σ) H1 Dn ((R.of (mg ds[i] env')).go env' fun env1 => (m env1).bind fun c => match c with
      | .nx env' => sForL mg m (ds.drop (i + 1)) env'
      | .ct env' => sForL mg m (ds.drop (i + 1)) env'
      | .bk env' => .ok (.nx env')
      | .rt d => .ok (.rt d)) := w'
    refine sg F (fun q hq z => hB' _ z (hB q hq)) σ' H2 env' x _ s' (r.mono eF) _ ?_
    cases hg0 : mg ds[i] env' with
    | none => rw [hg0] at w'; exact w'.elim
    | some env1 =>
      rw [hg0] at w'
      intro σ3 s3 ho _
      have e3 : Ex (cut (ows O σ) H1) (cut (ows O σ3) H2) := by rw [ho]; exact e'
      refine z1 F hB σ3 H2 env1 s3 _ ?_
      replace w' : WS X.K X.mg E F Ol O (ows O σ) H1 Dn ((m env1).bind fun c => match c with
        | .nx env' => sForL mg m (ds.drop (i + 1)) env'
        | .ct env' => sForL mg m (ds.drop (i + 1)) env'
        | .bk env' => .ok (.nx env')
        | .rt d => .ok (.rt d)) := w'
      cases hm : m env1 with
      | ok c =>
        rw [hm] at w'
        cases c with
        | nx env2 => exact fun σ2 H2 s2 e2 => ⟨hlt, env2, s2, e3.trans e2, w'⟩
        | ct env2 => exact fun σ2 H2 s2 e2 => ⟨hlt, env2, s2, e3.trans e2, w'⟩
        | bk env2 => exact fun σ2 H2 s2 e2 => w' σ2 H2 s2 (e3.trans e2)
        | rt d => exact fun v H2 e2 r => w' v H2 (e3.trans e2) r
      | exc c fs env2 => rw [hm] at w'; exact fun C o σ2 H2 s2 e2 mm x => w' C o σ2 H2 s2 (e3.trans e2) mm x
      | bad => rw [hm] at w'; exact w'
  · left
    have hi' : i = ds.length := by omega
    refine ⟨hw.1 hi', ?_⟩
    rw [List.drop_of_length_le (by omega)] at w'
    exact w' σ' H' s' e'
end
end MD

namespace MD
open PySem L2
/-! ### list comprehensions -/
def wipeE : Env → List Nat → Env
  | env, [] => env
  | env, v :: vs => (wipeE env vs).set v none
def lcL (g : GM) (t : TM) (m : EM) : List D → Env → R (List D)
  | [], _ => .ok []
  | d :: ds, env => (R.of (g d env)).bind fun env1 => (t env1).bind fun k => if k = true then (m env1).bind fun x => (lcL g t m ds env).bind fun r => .ok (x :: r) else lcL g t m ds env
def eLc (i : AM) (g : GM) (t : TM) (m : EM) (vs : List Nat) : EM := fun env => (i env).bind fun ds => R.when (ds.length ≤ 1000000) ((lcL g t m ds (wipeE env vs)).nox.bind fun r => .ok (.lst r))
section
variable {K : PySem.W.Frag} {mg : Str → Option Value} {E : XK} {F : Fm} {O : List Nat} {H H' : Hp} {σ : L2.St} {env : Env}
theorem adr_wipe {vs : List Nat} {i : Nat} (h : i ∉ vs) : adr (wipe σ vs) i = adr σ i := by
  unfold adr
  rw [wipe_out h]
theorem ows_wipe {vs : List Nat} (h : ∀ v ∈ vs, v ∉ O) : ows O (wipe σ vs) = ows O σ := by
  have gen : ∀ l : List Nat, (∀ j ∈ l, j ∉ vs) → l.filterMap (adr (wipe σ vs)) = l.filterMap (adr σ) := by
    intro l
    induction l with
    | nil => intro _; rfl
    | cons j l ih =>
      intro hl
      rw [List.filterMap_cons, List.filterMap_cons, adr_wipe (hl j List.mem_cons_self), ih fun k hk => hl k (List.mem_cons_of_mem _ hk)]
  exact gen O fun j hj z => h j z hj
theorem wipeE_at : ∀ (vs : List Nat) (env : Env) (j : Nat), (wipeE env vs)[j]? = if j ∈ vs then (if j < env.length then some none else none) else env[j]?
  | [], env, j => by simp [wipeE]
  | v :: vs, env, j => by
    have hlen : ∀ vs : List Nat, (wipeE env vs).length = env.length := by
      intro vs
      induction vs with
      | nil => rfl
      | cons v vs ih => unfold wipeE; rw [List.length_set, ih]
    show ((wipeE env vs).set v none)[j]? = _
    by_cases h : v = j
    · subst h
      rw [if_pos List.mem_cons_self]
      by_cases hl : v < env.length
      · rw [List.getElem?_set_self (by rw [hlen]; exact hl), if_pos hl]
      · rw [List.getElem?_eq_none (by rw [List.length_set, hlen]; omega), if_neg hl]
    · rw [List.getElem?_set_ne h, wipeE_at vs env j]
      have e : (j ∈ v :: vs) ↔ j ∈ vs := by
        rw [List.mem_cons]
        exact ⟨fun q => q.elim (fun z => absurd z.symm h) id, .inr⟩
      by_cases hm : j ∈ vs
      · rw [if_pos hm, if_pos (e.mpr hm)]
      · rw [if_neg hm, if_neg fun z => hm (e.mp z)]
theorem wipeE_len (vs : List Nat) : (wipeE env vs).length = env.length := by
  induction vs with
  | nil => rfl
  | cons v vs ih => unfold wipeE; rw [List.length_set, ih]
theorem SR.wipe {vs : List Nat} (s : SR K mg F O σ H env) (hb : F.b = []) (h : ∀ v ∈ vs, v ∉ O) : SR K mg F O (wipe σ vs) H (wipeE env vs) := by
  have e := ows_wipe (σ := σ) h
  refine ⟨by rw [wipe_length, wipeE_len]; exact s.len, s.dom, fun q hq => by rw [hb] at hq; simp at hq, fun i d hi he => ?_, fun i hi => ?_, fun i hi j hj p e1 e2 => ?_⟩
  · rw [wipeE_at] at he
    by_cases hv : i ∈ vs
    · rw [if_pos hv] at he
      split at he <;> cases he
    · rw [if_neg hv] at he
      obtain ⟨v, a, b⟩ := s.shr i d hi he
      exact ⟨v, by rw [wipe_out hv]; exact a, by rw [e]; exact b⟩
  · have hv : i ∉ vs := fun z => h i z hi
    obtain ⟨p, d, a, b, c, o⟩ := s.own i hi
    exact ⟨p, d, by rw [wipeE_at, if_neg hv]; exact a, by rw [wipe_out hv]; exact b, c, by rw [e]; exact o⟩
  · rw [wipe_out fun z => h i z hi] at e1
    rw [wipe_out fun z => h j z hj] at e2
    exact s.inj i hi j hj p e1 e2
/-- a further address is off limits -/
theorem SR.addF {p : Addr} {o : HO} (s : SR K mg F O σ H env) (hp : H p = none) (e : Ex H H') (ho : H' p = some o) (hm : Mb o) : SR K mg ⟨p :: F.l, []⟩ O σ H' env := by
  have ec : Ex (cut (F.l ++ ows O σ) H) (cut (p :: F.l ++ ows O σ) H') := e.cut fun b hb => by
    rcases List.mem_cons.mp hb with q | q
    · exact .inr (by rw [q]; exact hp)
    · exact .inl q
  refine ⟨s.len, fun q hq => ?_, fun q hq => by simp at hq, fun i d hi he => ?_, fun i hi => ?_, s.inj⟩
  · rcases List.mem_cons.mp hq with z | z
    · exact ⟨o, by rw [z]; exact ho, hm⟩
    · obtain ⟨u, a, b⟩ := s.dom q z
      exact ⟨u, e _ _ a, b⟩
  · obtain ⟨v, a, b⟩ := s.shr i d hi he
    exact ⟨v, a, b.mono ec⟩
  · obtain ⟨q, d, a, b, c, o'⟩ := s.own i hi
    refine ⟨q, d, a, b, fun z => ?_, o'.mono ec fun _ z => e _ _ z⟩
    rcases List.mem_cons.mp z with z | z
    · obtain ⟨u, g, _⟩ := o'.mb
      rw [z, hp] at g
      cases g
    · exact c z
theorem lcL_cons {g : GM} {t : TM} {m : EM} {d : D} {ds r : List D} (h : lcL g t m (d :: ds) env = .ok r) : ∃ env1 k, g d env = some env1 ∧ t env1 = .ok k ∧
    (if k = true then ∃ x r', m env1 = .ok x ∧ lcL g t m ds env = .ok r' ∧ r = x :: r' else lcL g t m ds env = .ok r) := by
  unfold lcL at h
  cases h1 : g d env with
  | none => rw [h1] at h; cases h
  | some env1 =>
    rw [h1] at h
    simp only [R.of_some, R.bind_ok] at h
    cases h2 : t env1 with
    | bad => rw [h2] at h; cases h
    | exc c fs => rw [h2] at h; cases h
    | ok k =>
      rw [h2] at h
      simp only [R.bind_ok] at h
      refine ⟨env1, k, rfl, h2, ?_⟩
      cases k with
      | false => exact h
      | true =>
        rw [if_pos rfl] at h ⊢
        cases h3 : m env1 with
        | bad => rw [h3] at h; cases h
        | exc c fs => rw [h3] at h; cases h
        | ok x =>
          rw [h3] at h
          simp only [R.bind_ok] at h
          cases h4 : lcL g t m ds env with
          | bad => rw [h4] at h; cases h
          | exc c fs => rw [h4] at h; cases h
          | ok r' => rw [h4] at h; cases h; exact ⟨x, r', rfl, rfl, rfl⟩
end
structure MTs (X : Cx) (E : L2.St → XK) (O : List Nat) (ifs : List Expr) (m : TM) : Prop where
  ex : ∃ tt, PTs X ifs tt ∧ ∀ F, ST X.K X.mg E F O tt m
def tTrue : TM := fun _ => .ok true
section
variable {X : Cx} {E : L2.St → XK} {O : List Nat} {c : Expr} {mt : TM}
theorem mts_nil : MTs X E O [] tTrue := ⟨_, pts_nil, fun F σ H env s Q w => w _ H (Ex.refl _) rfl⟩
theorem mts_one (h : MT X E O c mt) : MTs X E O [c] mt := let ⟨_, p, s⟩ := h.ex; ⟨_, pts_one p, s⟩
end
theorem PE.imp {X : Cx} {e : Expr} {t t' : TE} (h : PE X e t) (i : ∀ σ H Q, t' σ H Q → t σ H Q) : PE X e t' := ⟨fun pins s σ H Q I q => h.run pins s σ H Q I (i σ H Q q)⟩
theorem PTs.imp {X : Cx} {e : List Expr} {t t' : TT} (h : PTs X e t) (i : ∀ σ H Q, t' σ H Q → t σ H Q) : PTs X e t' := ⟨fun pins s σ H Q I q => h.run pins s σ H Q I (i σ H Q q)⟩
theorem PG.imp {X : Cx} {e : Expr} {t t' : TG} (h : PG X e t) (i : ∀ v σ H Q, t' v σ H Q → t v σ H Q) : PG X e t' := ⟨fun pins s σ H v u Q I r q => h.run pins s σ H v u Q I r (i v σ H Q q)⟩
section
variable {X : Cx} {E : L2.St → XK} {O : List Nat} {tg iter elt : Expr} {ifs : List Expr} {scope : Scope} {own : List (Str × Nat)} {mi : AM} {gm : GM} {mt : TM} {me : EM} {is : List Nat} {pos spos : Pos}
/-- the reading of a comprehension does as its mirror -/
theorem s_lc {wi : TI} {g : TG} {tt : TT} {te : TE} {vs : List Nat} (hO : ∀ v ∈ vs, v ∉ O) (his : ∀ i ∈ is, i ∈ vs)
    (si : ∀ F σ H env, SR X.K X.mg F O σ H env → ∀ Q, Wn X.K X.mg (E σ) (F.l ++ ows O σ) H (fun H1 J ds => Wk X.K X.mg F.l (ows O σ) H1 J ds) Q (mi env) → wi σ H Q)
    (sg : ∀ F, (∀ q ∈ F.b, q.1 ∉ is) → SG X.K X.mg F O is g gm) (st : ∀ F, ST X.K X.mg (fun _ => E0) F O tt mt) (se : ∀ F, SE X.K X.mg (fun _ => E0) F O te me) (F : Fm) : SF X.K X.mg E F O (tLc wi g tt te vs) (eLc mi gm mt me vs) := by
  intro σ H env s Q w
  refine si F σ H env s _ (w.seqF fun J ds H1 e1 wk w1 => fun Dl hD => ?_)
  obtain ⟨hz, w1⟩ := Wn.when w1
  cases hr : lcL gm mt me ds (wipeE env vs) with
  | bad => rw [hr] at w1; exact w1.elim
  | exc c fs => rw [hr] at w1; exact w1.elim
  | ok r =>
    rw [hr] at w1
    have s1 := s.ext e1
    have ow := ows_wipe (σ := σ) hO
    refine ⟨fun i m H' => i ≤ ds.length ∧ m = ds.length - i ∧ Ex H1 H' ∧ ∃ acc accD rest, H' Dl = some (.lst acc) ∧ DRs X.K X.mg (cut (Dl :: F.l ++ ows O σ) H') acc accD ∧ acc.length ≤ i ∧ r = accD ++ rest ∧ lcL gm mt me (ds.drop i) (wipeE env vs) = .ok rest,
      ⟨ds.length, Nat.zero_le _, rfl, Ex.new hD, [], [], r, upd_same, .nil, Nat.le_refl _, rfl, hr⟩, ?_⟩
    rintro i m H' ⟨hi, rfl, eH, acc, accD, rest, hacc, hdr, hle, hrr, hrest⟩
    have hw := wk i H' (Ex.ofCut.trans eH)
    by_cases hlt : i < ds.length
    · right
      have hd : ds[i]? = some ds[i] := List.getElem?_eq_getElem hlt
      obtain ⟨hgo, hy⟩ := hw.2 _ hd
      rw [List.drop_eq_getElem_cons hlt] at hrest
      obtain ⟨env1, k, h1, h2, h3⟩ := lcL_cons hrest
      refine ⟨hgo, fun H2 => i + 1 ≤ ds.length ∧ Ex H1 H2 ∧ ∃ acc accD rest, H2 Dl = some (.lst acc) ∧ DRs X.K X.mg (cut (Dl :: F.l ++ ows O σ) H2) acc accD ∧ acc.length ≤ i + 1 ∧ r = accD ++ rest ∧ lcL gm mt me (ds.drop (i + 1)) (wipeE env vs) = .ok rest,
        fun H2 q2 => ⟨ds.length - (i + 1), by omega, q2.1, rfl, q2.2⟩, fun x H2 hy2 => ?_⟩
      obtain ⟨rfl, rx⟩ := hy x H2 hy2
      have sF : SR X.K X.mg ⟨Dl :: F.l, []⟩ O σ H2 env := s1.addF hD eH hacc (.inl ⟨_, rfl⟩)
      have sW : SR X.K X.mg ⟨Dl :: F.l, []⟩ O (wipe σ vs) H2 (wipeE env vs) := sF.wipe rfl hO
      have eC : Ex (cut (F.l ++ ows O σ) H1) (cut (Dl :: F.l ++ ows O σ) H2) := eH.cut fun b hb => by
        rcases List.mem_cons.mp hb with q | q
        · exact .inr (by rw [q]; exact hD)
        · exact .inl q
      refine sg ⟨Dl :: F.l, []⟩ (fun q hq => by simp at hq) (wipe σ vs) H2 (wipeE env vs) x _ sW (by rw [ow]; exact rx.mono eC) _ ?_
      rw [h1]
      intro σ2 s2 o2 w2
      have o2' : ows O σ2 = ows O σ := o2.trans ow
      refine ⟨(w2 vs his).trans wipe_wipe, ?_⟩
      refine st ⟨Dl :: F.l, []⟩ σ2 H2 env1 s2 _ ?_
      rw [h2]
      intro b H3 e3 hb
      cases hb
      have z3 : Ex H1 H3 := eH.trans e3
      cases k with
      | false =>
        exact ⟨hlt, z3, acc, accD, rest, e3 _ _ hacc, hdr.mono e3.cutS, by omega, hrr, h3⟩
      | true =>
        obtain ⟨xd, r', h4, h5, h6⟩ := h3
        refine se ⟨Dl :: F.l, []⟩ σ2 H3 env1 (s2.ext e3) _ ?_
        rw [h4]
        intro y H4 e4 ry
        have z4 : Ex H1 H4 := z3.trans e4
        have ry' : DR X.K X.mg (cut (Dl :: F.l ++ ows O σ) H4) y xd := by
          have q : DR X.K X.mg (cut (Dl :: F.l ++ ows O σ2) H4) y xd := ry
          rw [o2'] at q
          exact q
        refine ⟨acc, e4 _ _ (e3 _ _ hacc), Nat.lt_of_le_of_lt (by omega : acc.length ≤ 1000000) (by decide), hlt, fun b o hb => ?_, acc ++ [y], accD ++ [xd], r', upd_same, ?_, by rw [List.length_append]; simp; omega, by rw [hrr, h6]; simp, h5⟩
        · rw [upd_ne (ne_of_none hb hD)]
          exact z4 b o hb
        · rw [cut_upd (A := Dl :: F.l ++ ows O σ) (p := Dl) (by simp)]
          exact (hdr.mono (e3.trans e4).cutS).append (.one ry')
    · left
      have hi' : i = ds.length := by omega
      refine ⟨hw.1 hi', ?_⟩
      rw [List.drop_of_length_le (by omega)] at hrest
      cases hrest
      rw [List.append_nil] at hrr
      subst hrr
      exact w1 _ H' eH ⟨Dl, rfl, hD, .lst hacc hdr⟩
theorem mf_lc (hc : X.calm = true) (hN : X.N.Nodup) (hi : MI X E O tg iter mi) (ok : BlkOk X.N X.env.scope scope own)
    (hg : ∀ (s : Shared) (H : Hp) (C : Addr) (cl : List (Str × Addr)) (fp : List Addr), MG (X.blk s H scope (compEnvC scope cl C X.env) fp) O tg is gm)
    (ht : ∀ (s : Shared) (H : Hp) (C : Addr) (cl : List (Str × Addr)) (fp : List Addr), MTs (X.blk s H scope (compEnvC scope cl C X.env) fp) (fun _ => E0) O ifs mt)
    (he : ∀ (s : Shared) (H : Hp) (C : Addr) (cl : List (Str × Addr)) (fp : List Addr), ME (X.blk s H scope (compEnvC scope cl C X.env) fp) (fun _ => E0) O elt me)
    (hO : ∀ v ∈ own.map (·.2), v ∉ O := by decide) (his : ∀ i ∈ is, i ∈ own.map (·.2) := by decide) (hs : ∀ x, foldedSetIterable iter X.env x = pure x := by intro _; rfl) {vs : List Nat} (hvs : own.map (·.2) = vs := by rfl) : MF X E O (.ListComp elt [⟨tg, iter, ifs, 0⟩] scope pos) (eLc mi gm mt me vs) := by
  subst hvs
  obtain ⟨wi, pi, si⟩ := hi.ex
  have g1 := fun s H C cl fp => (hg s H C cl fp).ex
  have t1 := fun s H C cl fp => (ht s H C cl fp).ex
  have e1 := fun s H C cl fp => (he s H C cl fp).ex
  refine ⟨_, pe_lc hc hN pi ok (g := fun v σ H Q => ∀ s H0 C cl fp, Classical.choose (g1 s H0 C cl fp) v σ H Q) (tt := fun σ H Q => ∀ s H0 C cl fp, Classical.choose (t1 s H0 C cl fp) σ H Q) (te := fun σ H Q => ∀ s H0 C cl fp, Classical.choose (e1 s H0 C cl fp) σ H Q)
    (fun s H C cl fp => PG.imp (Classical.choose_spec (g1 s H C cl fp)).1 fun v σ H' Q q => q s H C cl fp) (fun s H C cl fp => PTs.imp (Classical.choose_spec (t1 s H C cl fp)).1 fun σ H' Q q => q s H C cl fp) (fun s H C cl fp => PE.imp (Classical.choose_spec (e1 s H C cl fp)).1 fun σ H' Q q => q s H C cl fp) hs, ?_⟩
  refine s_lc hO his si (fun F hb σ H env v d r1 r2 Q w s H0 C cl fp => (Classical.choose_spec (g1 s H0 C cl fp)).2 F hb σ H env v d r1 r2 Q w) (fun F σ H env r Q w s H0 C cl fp => (Classical.choose_spec (t1 s H0 C cl fp)).2 F σ H env r Q w) (fun F σ H env r Q w s H0 C cl fp => (Classical.choose_spec (e1 s H0 C cl fp)).2 F σ H env r Q w)
/-- y = [..], kept | owned -/
theorem ps_lc' {i : Nat} {y : Str} {py : Pos} (hc : X.calm = true) (hN : X.N.Nodup) (hi : MI X E O tg iter mi) (ok : BlkOk X.N X.env.scope scope own)
    (hg : ∀ (s : Shared) (H : Hp) (C : Addr) (cl : List (Str × Addr)) (fp : List Addr), MG (X.blk s H scope (compEnvC scope cl C X.env) fp) O tg is gm)
    (ht : ∀ (s : Shared) (H : Hp) (C : Addr) (cl : List (Str × Addr)) (fp : List Addr), MTs (X.blk s H scope (compEnvC scope cl C X.env) fp) (fun _ => E0) O ifs mt)
    (he : ∀ (s : Shared) (H : Hp) (C : Addr) (cl : List (Str × Addr)) (fp : List Addr), ME (X.blk s H scope (compEnvC scope cl C X.env) fp) (fun _ => E0) O elt me)
    (hO : ∀ v ∈ own.map (·.2), v ∉ O) (his : ∀ i ∈ is, i ∈ own.map (·.2)) (hs : ∀ x, foldedSetIterable iter X.env x = pure x)
    (hy : X.N[i]? = some y) (hyl : X.env.scope.names.lookup y = some .local) (hsw : swapsWith (.ListComp elt [⟨tg, iter, ifs, 0⟩] scope pos) (some (.Name y py)) spos.line X.env = pure true) :
    ∃ te, PS X (.Assign [.Name y py] (.ListComp elt [⟨tg, iter, ifs, 0⟩] scope pos) spos) (tAsg te (gName i)) ∧ ∀ F, SF X.K X.mg E F O te (eLc mi gm mt me (own.map (·.2))) := by
  obtain ⟨wi, pi, si⟩ := hi.ex
  have g1 := fun s H C cl fp => (hg s H C cl fp).ex
  have t1 := fun s H C cl fp => (ht s H C cl fp).ex
  have e1 := fun s H C cl fp => (he s H C cl fp).ex
  refine ⟨_, ps_setLc hc hN hy hyl hsw pi ok (g := fun v σ H Q => ∀ s H0 C cl fp, Classical.choose (g1 s H0 C cl fp) v σ H Q) (tt := fun σ H Q => ∀ s H0 C cl fp, Classical.choose (t1 s H0 C cl fp) σ H Q) (te := fun σ H Q => ∀ s H0 C cl fp, Classical.choose (e1 s H0 C cl fp) σ H Q)
    (fun s H C cl fp => PG.imp (Classical.choose_spec (g1 s H C cl fp)).1 fun v σ H' Q q => q s H C cl fp) (fun s H C cl fp => PTs.imp (Classical.choose_spec (t1 s H C cl fp)).1 fun σ H' Q q => q s H C cl fp) (fun s H C cl fp => PE.imp (Classical.choose_spec (e1 s H C cl fp)).1 fun σ H' Q q => q s H C cl fp) hs, ?_⟩
  refine s_lc hO his si (fun F hb σ H env v d r1 r2 Q w s H0 C cl fp => (Classical.choose_spec (g1 s H0 C cl fp)).2 F hb σ H env v d r1 r2 Q w) (fun F σ H env r Q w s H0 C cl fp => (Classical.choose_spec (t1 s H0 C cl fp)).2 F σ H env r Q w) (fun F σ H env r Q w s H0 C cl fp => (Classical.choose_spec (e1 s H0 C cl fp)).2 F σ H env r Q w)
theorem ms_lc (i : Nat) {y : Str} {py : Pos} {B Ol O' : List Nat} (hc : X.calm = true) (hN : X.N.Nodup) (hi : MI X E O tg iter mi) (ok : BlkOk X.N X.env.scope scope own)
    (hg : ∀ (s : Shared) (H : Hp) (C : Addr) (cl : List (Str × Addr)) (fp : List Addr), MG (X.blk s H scope (compEnvC scope cl C X.env) fp) O tg is gm)
    (ht : ∀ (s : Shared) (H : Hp) (C : Addr) (cl : List (Str × Addr)) (fp : List Addr), MTs (X.blk s H scope (compEnvC scope cl C X.env) fp) (fun _ => E0) O ifs mt)
    (he : ∀ (s : Shared) (H : Hp) (C : Addr) (cl : List (Str × Addr)) (fp : List Addr), ME (X.blk s H scope (compEnvC scope cl C X.env) fp) (fun _ => E0) O elt me)
    (hi0 : i ∉ B := by decide) (hO' : (O.filter fun k => k != i) = O' := by rfl) (hO : ∀ v ∈ own.map (·.2), v ∉ O := by decide) (his : ∀ i ∈ is, i ∈ own.map (·.2) := by decide) (hs : ∀ x, foldedSetIterable iter X.env x = pure x := by intro _; rfl)
    (hy : X.N[i]? = some y := by rfl) (hyl : X.env.scope.names.lookup y = some .local := by rfl) (hsw : swapsWith (.ListComp elt [⟨tg, iter, ifs, 0⟩] scope pos) (some (.Name y py)) spos.line X.env = pure true := by exact sw_true rfl rfl rfl (by decide +kernel)) {vs : List Nat} (hvs : own.map (·.2) = vs := by rfl) :
    MS X E B Ol O O' (.Assign [.Name y py] (.ListComp elt [⟨tg, iter, ifs, 0⟩] scope pos) spos) (sSet i (eLc mi gm mt me vs)) := by
  subst hvs
  obtain ⟨te, p, z⟩ := ps_lc' hc hN hi ok hg ht he hO his hs hy hyl hsw
  subst hO'
  exact ⟨_, p, fun F hB => s_set i (fun q hq e => hi0 (e ▸ hB q hq)) (z F).se⟩
theorem ms_lcF (i : Nat) {y : Str} {py : Pos} {B Ol O' : List Nat} (hc : X.calm = true) (hN : X.N.Nodup) (hi : MI X E O tg iter mi) (ok : BlkOk X.N X.env.scope scope own)
    (hg : ∀ (s : Shared) (H : Hp) (C : Addr) (cl : List (Str × Addr)) (fp : List Addr), MG (X.blk s H scope (compEnvC scope cl C X.env) fp) O tg is gm)
    (ht : ∀ (s : Shared) (H : Hp) (C : Addr) (cl : List (Str × Addr)) (fp : List Addr), MTs (X.blk s H scope (compEnvC scope cl C X.env) fp) (fun _ => E0) O ifs mt)
    (he : ∀ (s : Shared) (H : Hp) (C : Addr) (cl : List (Str × Addr)) (fp : List Addr), ME (X.blk s H scope (compEnvC scope cl C X.env) fp) (fun _ => E0) O elt me)
    (hi0 : i ∉ B := by decide) (hO' : (i :: O.filter fun k => k != i) = O' := by rfl) (hO : ∀ v ∈ own.map (·.2), v ∉ O := by decide) (his : ∀ i ∈ is, i ∈ own.map (·.2) := by decide) (hs : ∀ x, foldedSetIterable iter X.env x = pure x := by intro _; rfl)
    (hy : X.N[i]? = some y := by rfl) (hyl : X.env.scope.names.lookup y = some .local := by rfl) (hsw : swapsWith (.ListComp elt [⟨tg, iter, ifs, 0⟩] scope pos) (some (.Name y py)) spos.line X.env = pure true := by exact sw_true rfl rfl rfl (by decide +kernel)) {vs : List Nat} (hvs : own.map (·.2) = vs := by rfl) :
    MS X E B Ol O O' (.Assign [.Name y py] (.ListComp elt [⟨tg, iter, ifs, 0⟩] scope pos) spos) (sSetF i (eLc mi gm mt me vs)) := by
  subst hvs
  obtain ⟨te, p, z⟩ := ps_lc' hc hN hi ok hg ht he hO his hs hy hyl hsw
  subst hO'
  exact ⟨_, p, fun F hB => s_setF i (fun q hq e => hi0 (e ▸ hB q hq)) (z F)⟩
end
end MD

namespace MD
open PySem L2
/-! ### owned things change -/
def sApp (i : Nat) (m : EM) : SM := fun env => match env[i]? with
  | some (some (.lst xs)) => (m env).go env fun d => RS.when (xs.length < sizeLine) (.ok (.nx (env.set i (some (.lst (xs ++ [d]))))))
  | _ => .bad
/-- d[k] = v -/
def putD {κ : Type} [DecidableEq κ] (es : List (κ × D)) (k : κ) (v : D) : List (κ × D) := if (es.any fun kv => decide (kv.1 = k)) = true then es.map (fun kv => if kv.1 = k then (kv.1, v) else kv) else es ++ [(k, v)]
def dPut (d k v : D) : Option D := match d with
  | .dct es => k.tkey.bind fun k => if es.length < sizeLine then some (.dct (putD es k v)) else none
  | .dik es => k.key.bind fun k => if es.length < sizeLine then some (.dik (putD es k v)) else none
  | _ => none
def sPut (i : Nat) (mk mv : EM) : SM := fun env => (mv env).go env fun v => (mk env).go env fun k => match env[i]? with
  | some (some d) => match dPut d k v with
    | some d' => .ok (.nx (env.set i (some d')))
    | none => .bad
  | _ => .bad
/-- xs[k] = v -/
def sSetI (i : Nat) (mk mv : EM) : SM := fun env => (mv env).go env fun v => (mk env).go env fun k => match env[i]?, k with
  | some (some (.lst xs)), .int j => match ixN xs.length j with
    | some n => .ok (.nx (env.set i (some (.lst (xs.set n v)))))
    | none => .bad
  | _, _ => .bad
def sRev (i : Nat) : SM := fun env => match env[i]? with
  | some (some (.lst xs)) => .ok (.nx (env.set i (some (.lst xs.reverse))))
  | _ => .bad
theorem put_keys {κ : Type} [DecidableEq κ] (k : κ) (v : V) (d : D) : ∀ {kvs : List (κ × V)} {es : List (κ × D)}, kvs.map Prod.fst = es.map Prod.fst → (kvs.any fun kv => decide (kv.1 = k)) = (es.any fun kv => decide (kv.1 = k))
  | [], [], _ => rfl
  | [], e :: es, h => by cases h
  | p :: kvs, [], h => by cases h
  | p :: kvs, e :: es, h => by
    simp only [List.map_cons, List.cons.injEq] at h
    rw [List.any_cons, List.any_cons, h.1, put_keys k v d h.2]
theorem put_ok {κ : Type} [DecidableEq κ] {K : PySem.W.Frag} {mg : Str → Option Value} {G : Hp} {k : κ} {v : V} {d : D} (r : DR K mg G v d) {kvs : List (κ × V)} {es : List (κ × D)} (h : kvs.map Prod.fst = es.map Prod.fst) (hd : DRs K mg G (kvs.map Prod.snd) (es.map Prod.snd)) :
    (putK kvs k v).map Prod.fst = (putD es k d).map Prod.fst ∧ DRs K mg G ((putK kvs k v).map Prod.snd) ((putD es k d).map Prod.snd) := by
  have repl : ∀ {kvs : List (κ × V)} {es : List (κ × D)}, kvs.map Prod.fst = es.map Prod.fst → DRs K mg G (kvs.map Prod.snd) (es.map Prod.snd) →
      (kvs.map fun kv => if kv.1 = k then (kv.1, v) else kv).map Prod.fst = (es.map fun kv => if kv.1 = k then (kv.1, d) else kv).map Prod.fst ∧ DRs K mg G ((kvs.map fun kv => if kv.1 = k then (kv.1, v) else kv).map Prod.snd) ((es.map fun kv => if kv.1 = k then (kv.1, d) else kv).map Prod.snd) := by
    intro kvs
    induction kvs with
    | nil =>
      intro es h hd
      cases es with
      | nil => exact ⟨rfl, .nil⟩
      | cons e es => cases h
    | cons p kvs ih =>
      intro es h hd
      cases es with
      | nil => cases h
      | cons e es =>
        obtain ⟨k1, v1⟩ := p
        obtain ⟨k2, d2⟩ := e
        simp only [List.map_cons, List.cons.injEq] at h
        obtain ⟨h1, h2⟩ := h
        subst h1
        simp only [List.map_cons] at hd
        obtain ⟨q1, q2⟩ := hd.uncons
        obtain ⟨i1, i2⟩ := ih h2 q2
        by_cases e : k1 = k
        · simp only [List.map_cons, e, if_true]
          refine ⟨?_, .cons r ?_⟩
          · rw [i1]
          · exact i2
        · simp only [List.map_cons, e, if_false]
          exact ⟨by rw [i1], .cons q1 i2⟩
  unfold putK putD
  rw [put_keys k v d h]
  by_cases c : (es.any fun kv => decide (kv.1 = k)) = true
  · rw [if_pos c, if_pos c]
    exact repl h hd
  · rw [if_neg c, if_neg c]
    simp only [List.map_append]
    exact ⟨by rw [h]; rfl, hd.append (.one r)⟩
theorem drs_set {K : PySem.W.Frag} {mg : Str → Option Value} {G : Hp} {vs : List V} {ds : List D} (h : DRs K mg G vs ds) {v : V} {d : D} (r : DR K mg G v d) (n : Nat) : DRs K mg G (vs.set n v) (ds.set n d) := by
  refine ⟨by rw [List.length_set, List.length_set, h.1], fun i x y a b => ?_⟩
  by_cases hi : n = i
  · subst hi
    by_cases hl : n < vs.length
    · rw [List.getElem?_set_self hl] at a
      rw [List.getElem?_set_self (by rw [← h.1]; exact hl)] at b
      cases a; cases b
      exact r
    · rw [List.getElem?_eq_none (by rw [List.length_set]; omega)] at a
      cases a
  · rw [List.getElem?_set_ne hi] at a b
    exact h.2 i x y a b
section
variable {X : Cx} {E : L2.St → XK} {B Ol O O' : List Nat} {a b e tg : Expr} {ma mb : EM} {x : Str} {p p1 apos pos pos' : Pos}
theorem ms_app (i : Nat) (h : ME X E O e ma) (hO : i ∈ O := by decide) (hN : X.N[i]? = some x := by rfl) (hv : Vis X.env.scope x := by first | exact Or.inl rfl | exact Or.inr (Or.inl rfl) | exact Or.inr (Or.inr rfl)) (hd : (x == ("__debug__" : Str)) = false := by decide) (hcd : (x == ("__classdict__" : Str)) = false := by decide)
    (hst : starEach (e :: []) X.env = (false, eval e X.env) :: starEach [] X.env := by rfl)
    (hbase : attributeBase (.Name x p) "append" X.env (eval (.Name x p) X.env) = eval (.Name x p) X.env := by rfl)
    (hfew : ((backTo pos (starEach (e :: []) X.env)).all (fun x => !x.1) && (backToKw pos (keywordEach [] X.env)).all (fun x => x.1.isSome)
      && decide ((e :: []).length + ([] : List Keyword).length + (if ([] : List Keyword).isEmpty then 0 else 1) < 30)) = true := by rfl)
    (hline : (apos.endLine == pos.line) = true := by rfl) (hplain : (backTo pos (starEach [] X.env)).any (·.1) = false := by rfl)
    (hs : swapsWith (.Call (.Attribute (.Name x p) "append" apos) [e] [] pos) none pos'.line X.env = pure false := by rfl) :
    MS X E B Ol O O (.Expr (.Call (.Attribute (.Name x p) "append" apos) [e] [] pos) pos') (sApp i ma) := by
  obtain ⟨t, pe, z⟩ := h.ex
  refine ⟨_, ps_expr (pe_bm PySem.F.plainAttrs_list PySem.F.slot_list_append PySem.F.type_list_append mt_append (pe_var hN hv hd hcd) (pa_cons pe pa_nil hst) hbase hfew hline hst hplain) hs, fun F hB σ H env s Dn w => ?_⟩
  obtain ⟨q, d, h1, h2, h3, h4⟩ := s.own i hO
  unfold sApp at w
  rw [h1] at w
  cases h4 with
  | dct _ _ _ => exact w.elim
  | dik _ _ _ => exact w.elim
  | obj _ _ _ _ => exact w.elim
  | lst g gd =>
    rename_i vs xs
    refine ⟨.ref q, h2, .inl ⟨rfl, vs, SqL.of g⟩, z F σ H env s _ (WS.seqE s w fun v d H1 e1 r w1 => ?_)⟩
    replace w1 : WS X.K X.mg E F Ol O (ows O σ) H1 Dn (if xs.length < sizeLine then .ok (.nx (env.set i (some (.lst (xs ++ [d]))))) else .bad) := w1
    by_cases hz : xs.length < sizeLine
    · rw [if_pos hz] at w1
      have gd1 := gd.mono e1.cutS
      refine ⟨q, vs, v, rfl, rfl, e1 _ _ g, by rw [gd.1]; exact hz, ?_⟩
      obtain ⟨s2, e2⟩ := SR.chg (o := .lst (vs ++ [v])) (d := .lst (xs ++ [d])) hO (s.ext e1) h2 (.inl ⟨_, rfl⟩) (.lst upd_same (gd1.append (.one r)))
      exact w1 σ _ s2 e2
    · rw [if_neg hz] at w1; exact w1.elim
theorem ms_put (i : Nat) {k : Nat} (hr : Room k X.A) (hk : MW X E O a ma) (h : ME X E O e mb) (hO : i ∈ O := by decide) (hN : X.N[i]? = some x := by rfl) (hv : Vis X.env.scope x := by first | exact Or.inl rfl | exact Or.inr (Or.inl rfl) | exact Or.inr (Or.inr rfl)) (hd : (x == ("__debug__" : Str)) = false := by decide) (hcd : (x == ("__classdict__" : Str)) = false := by decide)
    (hs : swapsWith e (some (.Subscript (.Name x p) a pos')) pos.line X.env = pure false := by rfl) : MS X E B Ol O O (.Assign [.Subscript (.Name x p) a pos'] e pos) (sPut i ma mb) := by
  obtain ⟨tk, pk, zk⟩ := hk.ex
  obtain ⟨tv, pv', zv⟩ := h.ex
  refine ⟨_, ps_dput (hu_of hr) (pe_var hN hv hd hcd) pk pv' hs, fun F hB σ H env s Dn w => zv F σ H env s _ (WS.seqE s w fun v d H1 e1 r w1 => ?_)⟩
  obtain ⟨q, d0, h1, h2, h3, h4⟩ := s.own i hO
  refine ⟨.ref q, h2, zk F σ H1 env (s.ext e1) _ (WS.seqE (s.ext e1) w1 fun y dy H2 e2 ry w2 => ?_)⟩
  rw [h1] at w2
  have s2 := s.ext (e1.trans e2)
  have r2 : DR X.K X.mg (cut (F.l ++ ows O σ) H2) v d := DR.mono r e2.cutS
  cases h4 with
  | lst _ _ => exact w2.elim
  | obj _ _ _ _ => exact w2.elim
  | dct g gk gd =>
    rename_i kvs es
    replace w2 : WS X.K X.mg E F Ol O (ows O σ) H2 Dn (match (dy.tkey.bind fun k => if es.length < sizeLine then some (.dct (putD es k d)) else none) with
      | some d' => .ok (.nx (env.set i (some d')))
      | none => .bad) := w2
    cases hk : dy.tkey with
    | none => rw [hk] at w2; exact w2.elim
    | some kk =>
      rw [hk] at w2
      simp only [Option.bind_some] at w2
      by_cases hz : es.length < sizeLine
      · rw [if_pos hz] at w2
        obtain ⟨t, rfl, ht⟩ := tkey_ok ry hk
        have hl : kvs.length = es.length := by have := congrArg List.length gk; simpa using this
        have g2 := (e1.trans e2) _ _ g
        obtain ⟨a1, a2⟩ := put_ok (k := kk) r2 gk (gd.mono (e1.trans e2).cutS)
        obtain ⟨s3, e3⟩ := SR.chg (o := .dT (putK kvs kk v)) (d := .dct (putD es kk d)) hO s2 h2 (.inr (.inl ⟨_, rfl⟩)) (.dct upd_same a1 a2)
        exact ⟨q, _, rfl, .t g2 ht (by rw [hl]; exact hz), w2 σ _ s3 e3⟩
      · rw [if_neg hz] at w2; exact w2.elim
  | dik g gk gd =>
    rename_i kvs es
    replace w2 : WS X.K X.mg E F Ol O (ows O σ) H2 Dn (match (dy.key.bind fun k => if es.length < sizeLine then some (.dik (putD es k d)) else none) with
      | some d' => .ok (.nx (env.set i (some d')))
      | none => .bad) := w2
    cases hk : dy.key with
    | none => rw [hk] at w2; exact w2.elim
    | some kk =>
      rw [hk] at w2
      simp only [Option.bind_some] at w2
      by_cases hz : es.length < sizeLine
      · rw [if_pos hz] at w2
        have hy := key_ok ry hk
        subst hy
        have hl : kvs.length = es.length := by have := congrArg List.length gk; simpa using this
        have g2 := (e1.trans e2) _ _ g
        obtain ⟨a1, a2⟩ := put_ok (k := kk) r2 gk (gd.mono (e1.trans e2).cutS)
        obtain ⟨s3, e3⟩ := SR.chg (o := .dK (putK kvs kk v)) (d := .dik (putD es kk d)) hO s2 h2 (.inr (.inr (.inl ⟨_, rfl⟩))) (.dik upd_same a1 a2)
        exact ⟨q, _, rfl, .k g2 (by rw [hl]; exact hz), w2 σ _ s3 e3⟩
      · rw [if_neg hz] at w2; exact w2.elim
theorem ms_setI (i : Nat) (hk : MW X E O a ma) (h : ME X E O e mb) (hO : i ∈ O := by decide) (hN : X.N[i]? = some x := by rfl) (hv : Vis X.env.scope x := by first | exact Or.inl rfl | exact Or.inr (Or.inl rfl) | exact Or.inr (Or.inr rfl)) (hd : (x == ("__debug__" : Str)) = false := by decide) (hcd : (x == ("__classdict__" : Str)) = false := by decide)
    (hs : swapsWithSole [.Subscript (.Name x p) a pos'] e pos.line X.env = pure false := by rfl) (hw : swappedStores [.Subscript (.Name x p) a pos'] e X.env = pure none := by rfl)
    (ha : ∀ v, assign (.Subscript (.Name x p) a pos') X.env v = (do
      let ov ← holding [v] (eval (.Name x p) X.env)
      let iv ← holding [v, ov] (eval a X.env)
      standAt pos'
      holding [v, ov, iv] (setItem ov iv v)
      release [v, ov, iv] []) := by intro _; rfl) (h1' : (assignEach [.Subscript (.Name x p) a pos'] X.env).map (·.2) = [assign (.Subscript (.Name x p) a pos') X.env] := by rfl) : MS X E B Ol O O (.Assign [.Subscript (.Name x p) a pos'] e pos) (sSetI i ma mb) := by
  obtain ⟨tk, pk, zk⟩ := hk.ex
  obtain ⟨tv, pv', zv⟩ := h.ex
  refine ⟨_, ps_asg pv' (pg_sub (pe_var hN hv hd hcd) pk set_list ha) hs hw h1', fun F hB σ H env s Dn w => zv F σ H env s _ (WS.seqE s w fun v d H1 e1 r w1 => ?_)⟩
  obtain ⟨q, d0, h1, h2, h3, h4⟩ := s.own i hO
  refine ⟨.ref q, h2, zk F σ H1 env (s.ext e1) _ (WS.seqE (s.ext e1) w1 fun y dy H2 e2 ry w2 => ?_)⟩
  rw [h1] at w2
  have s2 := s.ext (e1.trans e2)
  have r2 : DR X.K X.mg (cut (F.l ++ ows O σ) H2) v d := DR.mono r e2.cutS
  cases h4 with
  | dct _ _ _ => exact w2.elim
  | dik _ _ _ => exact w2.elim
  | obj _ _ _ _ => exact w2.elim
  | lst g gd =>
    rename_i vs xs
    cases dy <;> first | exact w2.elim | skip
    rename_i j
    replace w2 : WS X.K X.mg E F Ol O (ows O σ) H2 Dn (match ixN xs.length j with
      | some n => .ok (.nx (env.set i (some (.lst (xs.set n d)))))
      | none => .bad) := w2
    cases hj : ixN xs.length j with
    | none => rw [hj] at w2; exact w2.elim
    | some n =>
      rw [hj] at w2
      obtain ⟨s3, e3⟩ := SR.chg (o := .lst (vs.set n v)) (d := .lst (xs.set n d)) hO s2 h2 (.inl ⟨_, rfl⟩) (.lst upd_same (drs_set (gd.mono (e1.trans e2).cutS) r2 n))
      exact ⟨q, vs, j, n, rfl, WR.int ry, (e1.trans e2) _ _ g, by rw [gd.1]; exact hj, w2 σ _ s3 e3⟩
theorem ms_rev (i : Nat) (hO : i ∈ O := by decide) (hN : X.N[i]? = some x := by rfl) (hv : Vis X.env.scope x := by first | exact Or.inl rfl | exact Or.inr (Or.inl rfl) | exact Or.inr (Or.inr rfl)) (hd : (x == ("__debug__" : Str)) = false := by decide) (hcd : (x == ("__classdict__" : Str)) = false := by decide)
    (hbase : attributeBase (.Name x p) "reverse" X.env (eval (.Name x p) X.env) = eval (.Name x p) X.env := by rfl) (hline : (apos.endLine == pos.line) = true := by rfl)
    (hs : swapsWith (.Call (.Attribute (.Name x p) "reverse" apos) [] [] pos) none pos'.line X.env = pure false := by rfl) :
    MS X E B Ol O O (.Expr (.Call (.Attribute (.Name x p) "reverse" apos) [] [] pos) pos') (sRev i) := by
  refine ⟨_, ps_expr (pe_bm0 PySem.F.plainAttrs_list PySem.F.slot_list_reverse PySem.F.type_list_reverse mt_reverse (pe_var hN hv hd hcd) hbase hline) hs, fun F hB σ H env s Dn w => ?_⟩
  obtain ⟨q, d, h1, h2, h3, h4⟩ := s.own i hO
  unfold sRev at w
  rw [h1] at w
  cases h4 with
  | dct _ _ _ => exact w.elim
  | dik _ _ _ => exact w.elim
  | obj _ _ _ _ => exact w.elim
  | lst g gd =>
    rename_i vs xs
    refine ⟨.ref q, h2, .inl ⟨rfl, vs, SqL.of g⟩, q, vs, rfl, rfl, g, ?_⟩
    obtain ⟨s2, e2⟩ := SR.chg (o := .lst vs.reverse) (d := .lst xs.reverse) hO s h2 (.inl ⟨_, rfl⟩) (.lst upd_same gd.reverse)
    exact w σ _ s2 e2
/-- a, b = e -/
def sUnp (g : GM) (m : EM) : SM := fun env => (m env).go env fun d => match g d env with
  | some env' => .ok (.nx env')
  | none => .bad
theorem ms_unp {is : List Nat} {gm : GM} (hg : MG X O tg is gm) (h : ME X E O e ma) (hB' : ∀ i ∈ is, i ∉ B := by decide) (hs : swapsWithSole [tg] e pos.line X.env = pure false := by rfl) (hw : swappedStores [tg] e X.env = pure none := by rfl) (h1 : (assignEach [tg] X.env).map (·.2) = [assign tg X.env] := by rfl) : MS X E B Ol O O (.Assign [tg] e pos) (sUnp gm ma) := by
  obtain ⟨t, pe, z⟩ := h.ex
  obtain ⟨g, pg, zg⟩ := hg.ex
  refine ⟨_, ps_asg pe pg hs hw h1, fun F hB σ H env s Dn w => z F σ H env s _ (WS.seqE s w fun v d H1 e1 r w1 => ?_)⟩
  refine zg F (fun q hq z => hB' _ z (hB q hq)) σ H1 env v d (s.ext e1) r _ ?_
  cases hq : gm d env with
  | none => rw [hq] at w1; exact w1.elim
  | some env' =>
    rw [hq] at w1
    intro σ' s' ho _
    exact w1 σ' H1 s' (by rw [ho]; exact Ex.refl _)
end

/-! ### a def by its body -/
def RS.fin : RS → R D
  | .ok (.nx _) => .ok .non
  | .ok (.rt d) => .ok d
  | .exc c fs _ => .exc c fs
  | _ => .bad
def fnM (L n : Nat) (m : SM) : List D → R D := fun ds => if ds.length = n then (m (ds.map some ++ List.replicate (L - n) none)).fin else .bad
section
variable {P : Program} {w : World} {K : PySem.W.Frag} {mg : Str → Option Value} {base : Heap}
theorem sr_start {N : List Str} {vs : List V} {ds : List D} {F : List Addr} {H : Hp} (off : Off F H) (h : DRs K mg (cut F H) vs ds) : SR K mg ⟨F, []⟩ [] (L2.start N vs) H (ds.map some ++ List.replicate (N.length - ds.length) none) := by
  refine ⟨by unfold L2.start; simp [h.1], off, fun q hq => by simp at hq, fun i d _ he => ?_, fun i hi => by simp at hi, fun i hi => by simp at hi⟩
  have hi : i < ds.length := by
    by_cases hi : i < ds.length
    · exact hi
    · rw [List.getElem?_append_right (by simpa using hi), List.getElem?_replicate] at he
      split at he <;> cases he
  rw [List.getElem?_append_left (by simpa using hi), List.getElem?_map] at he
  have hd : ds[i]? = some d := by
    cases q : ds[i]? with
    | none => rw [q] at he; cases he
    | some z => rw [q] at he; cases he; rfl
  obtain ⟨v, a, b⟩ := h.get hd
  refine ⟨v, ?_, ?_⟩
  · unfold L2.start
    rw [List.getElem?_append_left (by rw [List.length_map, h.1]; exact hi), List.getElem?_map, a]
    rfl
  · show DR K mg (cut (F ++ ows [] (L2.start N vs)) H) v d
    rw [show F ++ ows [] (L2.start N vs) = F from List.append_nil F]
    exact b
theorem WS.ofWn {F : List Addr} {H : Hp} {E : XK} {Q : VK} {r : RS} (w : Wn K mg E F H (rD K mg F) Q r.fin) : WS K mg (fun _ => E) ⟨F, []⟩ [] [] [] H { nx := fun _ H' => Q .non H', rt := Q } r := by
  cases r with
  | ok c =>
    cases c with
    | nx env => exact fun σ' H' s e => w .non H' (by rw [cut_nil] at e; exact e.trans Ex.ofCut) .non
    | rt d => exact fun v H' e r => w v H' (by rw [cut_nil] at e; exact e) r
    | bk env => exact w.elim
    | ct env => exact w.elim
  | exc c fs env => exact fun C o σ' H' _ e m x => w C o H' (by rw [cut_nil] at e; exact e) m x
  | bad => exact w.elim
/-- THE RULE for a def: its body does as its mirror, so it keeps the mirror's promise -/
theorem fn_ok {x qual : Str} {st : Stmt} {f : Addr} {fd : FuncData} {N ps : List Str} {k : Nat} {m : SM} (Fn : Fun K x qual st f fd) (S : FnScope N ps (defScope st))
    (hb : ∀ (cdv : Value) (A : Around) (outer : List PySem.Env) (s : Shared) (H : Hp) (E : XK), Room k (A.deeper (PyProof.Rows.envOfC qual (defScope st) s.heap.objs.size f cdv)) →
      MSs (cxOf (CX P w) P w K mg base N qual (defScope st) f cdv A outer s H E) (fun _ => E) [] [] [] [] (defBody st) m) : FnOk P w K mg base (CX P w) (k + 1) f fd ps (spM K mg ps.length (fnM N.length ps.length m)) := by
  refine Fn.okX S (fun vs H Q E h => ?_) (fun cdv A outer s H vs Q E hr h => ?_)
  · obtain ⟨ds, F, hl, _, hd, _⟩ := h
    rw [hd.1, hl]
  · obtain ⟨ds, F, hl, off, hd, hw⟩ := h
    obtain ⟨t, p, z⟩ := (hb cdv A outer s H E hr).ex
    refine ⟨t, p, z ⟨F, []⟩ (fun q hq => by simp at hq) _ H _ (sr_start off hd) _ ?_⟩
    unfold fnM at hw
    rw [if_pos hl] at hw
    have q := WS.ofWn hw
    rw [hl]
    exact q
/-- in a def's context: what its callees let out it lets out -/
theorem pass_def {N : List Str} {qual : Str} {scope : Scope} {f : Addr} {cdv : Value} {A : Around} {outer : List PySem.Env} {s : Shared} {H : Hp} {E : XK} (σ : L2.St) : PassesAt (CX P w) (cxOf (CX P w) P w K mg base N qual scope f cdv A outer s H E) σ ((fun _ => E) σ) := fun pins H' s' e s'' I c =>
  passes_call (X := cxOf (CX P w) P w K mg base N qual scope f cdv A outer s H E) (W := fun cls d _ H => E cls d H) (takes_of rfl rfl rfl rfl) (fun _ _ _ _ h => h) pins σ H' s' e s'' I c
theorem pass_own {N : List Str} {qual : Str} {scope : Scope} {f : Addr} {cdv : Value} {A : Around} {outer : List PySem.Env} {s : Shared} {H : Hp} {E : XK} : PassesOwn (model P w) (cxOf (CX P w) P w K mg base N qual scope f cdv A outer s H E).A (cxOf (CX P w) P w K mg base N qual scope f cdv A outer s H E).env (cxOf (CX P w) P w K mg base N qual scope f cdv A outer s H E).xe :=
  passes_of (X := cxOf (CX P w) P w K mg base N qual scope f cdv A outer s H E) (K := fun e s'' => CX P w outer H s E e s'') (E₁ := fun e s'' => CX P w outer H s E e s'') rfl
/-- within a comprehension nothing is let out -/
theorem pass_blk {X : Cx} (σ : L2.St) : PassesAt (CX X.prog X.w) X σ ((fun _ => E0) σ) := fun pins H s e s' I c => passL pins σ H s e s' I c
end

/-! ### raise -/
/-- __init__ of an exception that keeps one thing, two -/
def spX1 (K : PySem.W.Frag) (f : Str) : Sp := fun vs H Q _ => ∃ (a C : Addr) (v : V), vs = [.ref a, v] ∧ OexC K C ∧ PySem.W.findIn K (.ref C) f = some none ∧ H a = some (exo a C none) ∧
  ∀ dx, H dx = none → dx ≠ a → Q .non (upd (upd H dx (exd dx [(f, v)])) a (exo a C (some dx)))
def spX2 (K : PySem.W.Frag) (f g : Str) : Sp := fun vs H Q _ => ∃ (a C : Addr) (v u : V), vs = [.ref a, v, u] ∧ OexC K C ∧ PySem.W.findIn K (.ref C) f = some none ∧ PySem.W.findIn K (.ref C) g = some none ∧ H a = some (exo a C none) ∧
  ∀ dx, H dx = none → dx ≠ a → Q .non (upd (upd (upd H dx (exd dx [(f, v)])) a (exo a C (some dx))) dx (exd dx [(g, u), (f, v)]))
/-- the class x over ValueError with such an __init__ -/
structure XC1 (X : Cx) (x f : Str) : Prop where
  ex : ∃ (C fI : Addr) (fd : FuncData), X.mg x = some (.ref C) ∧ OexC X.K C ∧ PySem.W.findIn X.K (.ref C) "__init__" = some (some (.ref fI)) ∧ PySem.W.typeIn X.K (.ref fI) = some (.type "function") ∧
    FnOk X.prog X.w X.K X.mg X.base CX0 1 fI fd ["self", f] (spX1 X.K f) ∧ Binds X.K fd ["self", f] [] ∧ PySem.W.findIn X.K (.ref C) f = some none
structure XC2 (X : Cx) (x f g : Str) : Prop where
  ex : ∃ (C fI : Addr) (fd : FuncData), X.mg x = some (.ref C) ∧ OexC X.K C ∧ PySem.W.findIn X.K (.ref C) "__init__" = some (some (.ref fI)) ∧ PySem.W.typeIn X.K (.ref fI) = some (.type "function") ∧
    FnOk X.prog X.w X.K X.mg X.base CX0 1 fI fd ["self", f, g] (spX2 X.K f g) ∧ Binds X.K fd ["self", f, g] [] ∧ PySem.W.findIn X.K (.ref C) f = some none ∧ PySem.W.findIn X.K (.ref C) g = some none
def sRaise1 (x f : Str) (m : EM) : SM := fun env => (m env).go env fun d => .exc x [(f, d)] env
def sRaise2 (x f g : Str) (m m' : EM) : SM := fun env => (m env).go env fun d => (m' env).go env fun d' => .exc x [(g, d'), (f, d)] env
section
variable {X : Cx} {E : L2.St → XK} {B Ol O O' : List Nat} {a b : Expr} {ma mb : EM} {x f g : Str} {p pos pos2 : Pos}
theorem ex_gone {H : Hp} {a : Addr} {A : List Addr} (h : H a = none) {H' : Hp} (e : Ex H H') : Ex H (del H' a) := fun b o q => by
  rw [del_ne (ne_of_none q h)]
  exact e b o q
theorem ms_raise1 {k : Nat} (T : XC1 X x f) (hc : X.calm = true) (hr : Room (k + 2) X.A) (tk : Takes X fun cls d σ H => E σ cls d H) (h : ME X E O a ma) (hg : Gl X x := by rfl) (hdb : (x == ("__debug__" : Str)) = false := by decide) (he : starEach (a :: []) X.env = (false, eval a X.env) :: starEach [] X.env := by rfl)
    (hpl : (backTo pos (starEach [] X.env)).any (·.1) = false := by rfl) : MS X E B Ol O O' (.Raise (some (.Call (.Name x p) [a] [] pos)) none pos2) (sRaise1 x f ma) := by
  obtain ⟨t, pe, z⟩ := h.ex
  obtain ⟨C, fI, fd, mC, T1, iC, tI, F1, hb, no⟩ := T.ex
  refine ⟨_, ps_raise hc tk (pmk_oex T1 iC tI F1 (hr.mono (Nat.le_add_left 2 k)) hb .nil pass0 hg mC (pa_cons pe pa_nil he) hdb he hpl), fun F hB σ H env s Dn w => z F σ H env s _ (WS.seqE s w fun v d H1 e1 r w1 => ?_)⟩
  refine ⟨by show 1 ≤ 1000; decide, fun ax ha => ⟨ax, C, v, rfl, T1, no, upd_same, fun dx hdx hne => ⟨rfl, dx, [(f, v)], upd_same, by rw [upd_ne hne]; exact upd_same, by rw [upd_ne hne] at hdx; exact hdx, ?_⟩⟩⟩
  have hdx1 : H1 dx = none := by rw [upd_ne hne] at hdx; exact hdx
  have e2 : Ex H1 (upd (del (upd (upd (upd H1 ax (exo ax C none)) dx (exd dx [(f, v)])) ax (exo ax C (some dx))) ax) dx (.xd [(f, v)])) := fun b o q => by
    have n1 := ne_of_none q ha
    have n2 := ne_of_none q hdx1
    rw [upd_ne n2, del_ne n1, upd_ne n1, upd_ne n2, upd_ne n1]
    exact q
  refine w1 C (some dx) σ _ (((s.ext e1).ext e2).weak fun i hi => by simp at hi) (Ex.ofCut.trans e2) mC (.inr ⟨dx, [(f, v)], rfl, upd_same, rfl, .one ?_⟩)
  exact DR.mono r (e2.cut fun b hb => .inl (List.mem_append_left _ hb))
theorem ms_raise2 {k : Nat} (T : XC2 X x f g) (hfg : True) (hc : X.calm = true) (hr : Room (k + 2) X.A) (tk : Takes X fun cls d σ H => E σ cls d H) (h : ME X E O a ma) (h' : ME X E O b mb) (hg : Gl X x := by rfl) (hdb : (x == ("__debug__" : Str)) = false := by decide) (he : starEach (a :: [b]) X.env = (false, eval a X.env) :: starEach [b] X.env := by rfl) (he2 : starEach (b :: []) X.env = (false, eval b X.env) :: starEach [] X.env := by rfl)
    (hpl : (backTo pos (starEach [b] X.env)).any (·.1) = false := by rfl) : MS X E B Ol O O' (.Raise (some (.Call (.Name x p) [a, b] [] pos)) none pos2) (sRaise2 x f g ma mb) := by
  obtain ⟨t, pe, z⟩ := h.ex
  obtain ⟨t', pe', z'⟩ := h'.ex
  obtain ⟨C, fI, fd, mC, T1, iC, tI, F1, hb, no, no'⟩ := T.ex
  refine ⟨_, ps_raise hc tk (pmk_oex T1 iC tI F1 (hr.mono (Nat.le_add_left 2 k)) hb .nil pass0 hg mC (pa_cons pe (pa_cons pe' pa_nil he2) he) hdb he hpl), fun F hB σ H env s Dn w => z F σ H env s _ (WS.seqE s w fun v d H0 e0 r w0 => z' F σ H0 env (s.ext e0) _ (WS.seqE (s.ext e0) w0 fun u d' H1 e1 r' w1 => ?_))⟩
  refine ⟨by show 2 ≤ 1000; decide, fun ax ha => ⟨ax, C, v, u, rfl, T1, no, no', upd_same, fun dx hdx hne => ⟨rfl, dx, [(g, u), (f, v)], by rw [upd_ne (Ne.symm hne)]; exact upd_same, upd_same, by rw [upd_ne hne] at hdx; exact hdx, ?_⟩⟩⟩
  have hdx1 : H1 dx = none := by rw [upd_ne hne] at hdx; exact hdx
  have e2 : Ex H1 (upd (del (upd (upd (upd (upd H1 ax (exo ax C none)) dx (exd dx [(f, v)])) ax (exo ax C (some dx))) dx (exd dx [(g, u), (f, v)])) ax) dx (.xd [(g, u), (f, v)])) := fun b o q => by
    have n1 := ne_of_none q ha
    have n2 := ne_of_none q hdx1
    rw [upd_ne n2, del_ne n1, upd_ne n2, upd_ne n1, upd_ne n2, upd_ne n1]
    exact q
  refine w1 C (some dx) σ _ ((((s.ext e0).ext e1).ext e2).weak fun i hi => by simp at hi) (Ex.ofCut.trans e2) mC (.inr ⟨dx, [(g, u), (f, v)], rfl, upd_same, rfl, .cons ?_ (.one ?_)⟩)
  · exact DR.mono r' (e2.cut fun b hb => .inl (List.mem_append_left _ hb))
  · exact DR.mono r ((e1.trans e2).cut fun b hb => .inl (List.mem_append_left _ hb))
end
end MD

namespace MD
open PySem L2
/-! ### objects -/
def putFD (f : Str) (d : D) : List (Str × D) → List (Str × D)
  | [] => [(f, d)]
  | (g, x) :: r => if g = f then (g, d) :: r else (g, x) :: putFD f d r
def sFldS (i : Nat) (cs : List Str) (f : Str) (m : EM) : SM := fun env => (m env).go env fun d => match env[i]? with
  | some (some (.obj c es)) => RS.when (c ∈ cs ∧ es.length < 1000) (.ok (.nx (env.set i (some (.obj c (putFD f d es))))))
  | _ => .bad
theorem putF_ok {K : PySem.W.Frag} {mg : Str → Option Value} {G : Hp} {f : Str} {v : V} {d : D} (r : DR K mg G v d) : ∀ {fs : List (Str × V)} {es : List (Str × D)}, fs.map Prod.fst = es.map Prod.fst → DRs K mg G (fs.map Prod.snd) (es.map Prod.snd) →
    (putF f v fs).map Prod.fst = (putFD f d es).map Prod.fst ∧ DRs K mg G ((putF f v fs).map Prod.snd) ((putFD f d es).map Prod.snd)
  | [], [], _, _ => ⟨rfl, .one r⟩
  | [], e :: es, h, _ => by cases h
  | p :: fs, [], h, _ => by cases h
  | (g, x) :: fs, (g', y) :: es, h, hd => by
    simp only [List.map_cons, List.cons.injEq] at h
    obtain ⟨h1, h2⟩ := h
    subst h1
    simp only [List.map_cons] at hd
    obtain ⟨q1, q2⟩ := hd.uncons
    unfold putF putFD
    by_cases e : g = f
    · rw [if_pos e, if_pos e]
      simp only [List.map_cons]
      exact ⟨by rw [h2], .cons r q2⟩
    · rw [if_neg e, if_neg e]
      obtain ⟨i1, i2⟩ := putF_ok r h2 q2
      simp only [List.map_cons]
      exact ⟨by rw [i1], .cons q1 i2⟩
section
variable {X : Cx} {E : L2.St → XK} {B Ol O O' : List Nat} {a b e tg : Expr} {es : List Expr} {ma mb : EM} {as : AM} {x f : Str} {p p1 apos pos pos' : Pos}
theorem ms_fldS (i : Nat) {cs : List Str} (hT : FldOk X cs f) (h : ME X E O e ma) (hO : i ∈ O := by decide) (hN : X.N[i]? = some x := by rfl) (hv : Vis X.env.scope x := by first | exact Or.inl rfl | exact Or.inr (Or.inl rfl) | exact Or.inr (Or.inr rfl)) (hd : (x == ("__debug__" : Str)) = false := by decide) (hcd : (x == ("__classdict__" : Str)) = false := by decide)
    (hs : swapsWith e (some (.Attribute (.Name x p) f pos')) pos.line X.env = pure false := by rfl) : MS X E B Ol O O (.Assign [.Attribute (.Name x p) f pos'] e pos) (sFldS i cs f ma) := by
  obtain ⟨t, pe, z⟩ := h.ex
  refine ⟨_, ps_fld (pe_var hN hv hd hcd) pe hs, fun F hB σ H env s Dn w => z F σ H env s _ (WS.seqE s w fun v d H1 e1 r w1 => ?_)⟩
  obtain ⟨q, d0, h1, h2, h3, h4⟩ := s.own i hO
  rw [h1] at w1
  cases h4 with
  | lst _ _ => exact w1.elim
  | dct _ _ _ => exact w1.elim
  | dik _ _ _ => exact w1.elim
  | obj g g0 gk gd =>
    rename_i C dx c fs es
    replace w1 : WS X.K X.mg E F Ol O (ows O σ) H1 Dn (if c ∈ cs ∧ es.length < 1000 then .ok (.nx (env.set i (some (.obj c (putFD f d es))))) else .bad) := w1
    by_cases hz : c ∈ cs ∧ es.length < 1000
    · rw [if_pos hz] at w1
      obtain ⟨t1, t2⟩ := hT c hz.1 C g0
      have hl : fs.length = es.length := by have := congrArg List.length gk; simpa using this
      obtain ⟨a1, a2⟩ := putF_ok r gk (gd.mono e1.cutS)
      obtain ⟨s2, e2⟩ := SR.chg (o := .ins C dx (putF f v fs)) (d := .obj c (putFD f d es)) hO (s.ext e1) h2 (.inr (.inr (.inr ⟨_, _, _, rfl⟩))) (.obj upd_same g0 a1 a2)
      exact ⟨.ref q, h2, q, C, dx, fs, rfl, e1 _ _ g, t1, t2, by rw [hl]; exact hz.2, w1 σ _ s2 e2⟩
    · rw [if_neg hz] at w1; exact w1.elim
/-- C(..): the promise of __init__ -/
def spI (K : PySem.W.Frag) (mg : Str → Option Value) (c : Str) (n : Nat) (f : List D → R D) : Sp := fun vs H Q E => ∃ (x dx C : Addr) (us : List V) (ds : List D) (F : List Addr) (H1 : Hp), vs = .ref x :: us ∧ ds.length = n ∧ Off F H1 ∧ DRs K mg (cut F H1) us ds ∧ H1 x = none ∧ H1 dx = none ∧ dx ≠ x ∧ mg c = some (.ref C) ∧
  H = upd (upd H1 dx (.own x)) x (.ins C dx []) ∧ Wn K mg E F H1 (fun H' (v : V) d => v = .ref x ∧ DR K mg (cut F H') v d) (fun _ H' => Q .non H') (f ds)
def RS.obj : RS → R D
  | .ok (.nx env) => R.of (env[0]?.bind id)
  | .exc c fs _ => .exc c fs
  | _ => .bad
def fnI (c : Str) (L n : Nat) (m : SM) : List D → R D := fun ds => if ds.length = n then (m (some (.obj c []) :: (ds.map some ++ List.replicate (L - (n + 1)) none))).obj else .bad
theorem run_makeS {C fI : Addr} {fd : FuncData} {ps : List Str} {k : Nat} {sp : Sp} {pins : List (Addr × Obj)} {σ : L2.St} {H : Hp} {s : Shared} {Q : VK} {us : List Value} {vs : List V} (M : Mk X.K C fI) (G : FnOk X.prog X.w X.K X.mg X.base (CX X.prog X.w) k fI fd ps sp) (hr : Room (k + 1) X.A) (hb : Binds X.K fd ps [])
    (pa : PassesAt (CX X.prog X.w) X σ (E σ)) (I : Inv X pins σ H s) (r : Vals vs us)
    (w : ∀ x dx, H x = none → H dx = none → dx ≠ x → sp (.ref x :: vs) (upd (upd H dx (.own x)) x (.ins C dx [])) (fun v H2 => v = .non ∧ Q (.ref x) H2) (E σ)) :
    wpAny (model X.prog X.w) X.A (call (.ref C) us) (EP X pins σ Q) X.xe s := by
  generalize hn : s.heap.objs.size = n at *
  have w0 := w (n + 1) n (by rw [← hn]; exact I.hok.fresh (Nat.le_succ _)) (by rw [← hn]; exact I.hok.fresh (Nat.le_refl _)) (Nat.ne_of_lt (Nat.lt_succ_self _))
  subst hn
  have J := Inv.made (C := C) I
  have rv : Vals (V.ref (s.heap.objs.size + 1) :: vs) (Value.ref (s.heap.objs.size + 1) :: us) := .cons rfl r
  have len := G.len _ _ _ _ w0
  have len' : (Value.ref (s.heap.objs.size + 1) :: us).length = ps.length := rv.length.symm.trans len
  have bd := hb { s with heap := (s.heap.push { cls := .type "dict", data := .dict #[] }).push (PySem.W.instObj C s.heap.objs.size) } (Value.ref (s.heap.objs.size + 1) :: us) J.kIn (by rw [List.append_nil]; exact len')
  rw [List.append_nil] at bd
  refine wpAny_call (make_map (f := fI) I.kIn M.makes M.init (beq_iff_eq.mp M.fn) (codeAny_mono (G.run (X.A.under (.builtin "type.__call__" ⟨.ref C :: us, []⟩)) X.stack _ _ ⟨Value.ref (s.heap.objs.size + 1) :: us, []⟩ _ _ _ (E σ) (hr.make C us []) (J.env0.make C us []) bd rv w0) fun rr s' q => ?_))
  rcases rr with er | fl
  · exact pa pins _ _ er s' J q
  · cases fl <;> first | exact False.elim q | skip
    obtain ⟨v, H', J', r', ev, q'⟩ := J.after q
    subst ev
    exact ⟨r', .ref (s.heap.objs.size + 1), H', J', rfl, q'⟩
theorem me_make {x : Str} {C fI : Addr} {fd : FuncData} {ps : List Str} {k n : Nat} {mf : List D → R D} (M : Mk X.K C fI) (G : FnOk X.prog X.w X.K X.mg X.base (CX X.prog X.w) k fI fd ps (spI X.K X.mg x n mf)) (hr : Room (k + 1) X.A) (hm : X.mg x = some (.ref C)) (hb : Binds X.K fd ps []) (hx : ∀ σ, PassesAt (CX X.prog X.w) X σ (E σ))
    (h : MAn X E O (a :: es) as) (hn : (a :: es).length = n := by rfl) (hg : Gl X x := by rfl) (hd : (x == ("__debug__" : Str)) = false := by decide) (he : starEach (a :: es) X.env = (false, eval a X.env) :: starEach es X.env := by rfl) (hpl : (backTo pos (starEach es X.env)).any (·.1) = false := by rfl) :
    ME X E O (.Call (.Name x p) (a :: es) [] pos) (eCall mf as) := by
  obtain ⟨t, q, z⟩ := h.ma.ex
  refine ⟨fun σ H Q => t σ H fun vs H1 => ∀ y dy, H1 y = none → H1 dy = none → dy ≠ y → spI X.K X.mg x n mf (.ref y :: vs) (upd (upd H1 dy (.own y)) y (.ins C dy [])) (fun v H2 => v = .non ∧ Q (.ref y) H2) (E σ), ⟨fun pins s σ H Q I w => ?_⟩, fun F σ H env r Q w => ?_⟩
  · refine wpAny_Call_Name_kw (ld_glob I hg hm ?_ hd)
    exact PySem.W.callWith_K (h₀ := X.base) I.ok.mod.kin M.kp (thn (q.run pos pins s σ H _ I w) fun us s1 ⟨vs, H1, I1, r, w1⟩ => ⟨I1.kIn, run_makeS M G hr hb (hx σ) I1 r w1⟩) he hpl
  · refine h.seq (z F) r w fun vs ds H' hl e zz w' => fun y dy hy hdy hne => ?_
    refine ⟨y, dy, C, vs, ds, F.l ++ ows O σ, H', rfl, hl.trans hn, (r.ext e).mb, zz, hy, hdy, hne, hm, rfl, ?_⟩
    cases hq : mf ds with
    | ok d => rw [hq] at w'; exact fun v H2 e2 ⟨ev, dd⟩ => ⟨rfl, by rw [← ev]; exact w' v H2 e2 dd⟩
    | exc c fs => rw [hq] at w'; exact w'
    | bad => rw [hq] at w'; exact w'
end
section
variable {P : Program} {w : World} {K : PySem.W.Frag} {mg : Str → Option Value} {base : Heap}
/-- THE RULE for an __init__ -/
theorem init_ok {x qual c : Str} {st : Stmt} {f : Addr} {fd : FuncData} {N ps : List Str} {k : Nat} {m : SM} (Fn : Fun K x qual st f fd) (S : FnScope N ps (defScope st)) (n : Nat) (hn : ps.length = n + 1)
    (hb : ∀ (cdv : Value) (A : Around) (outer : List PySem.Env) (s : Shared) (H : Hp) (E : XK), Room k (A.deeper (PyProof.Rows.envOfC qual (defScope st) s.heap.objs.size f cdv)) →
      MSs (cxOf (CX P w) P w K mg base N qual (defScope st) f cdv A outer s H E) (fun _ => E) [0] [] [0] [0] (defBody st) m) : FnOk P w K mg base (CX P w) (k + 1) f fd ps (spI K mg c n (fnI c N.length n m)) := by
  refine Fn.okX S (fun vs H Q E h => ?_) (fun cdv A outer s H vs Q E hr h => ?_)
  · obtain ⟨x, dx, C, us, ds, F, H1, rfl, hl, _, hd, _⟩ := h
    rw [List.length_cons, hd.1, hl, hn]
  · obtain ⟨x, dx, C, us, ds, F, H1, rfl, hl, off, hd, hx, hdx, hne, hm, rfl, hw⟩ := h
    obtain ⟨t, p, z⟩ := (hb cdv A outer s _ E hr).ex
    refine ⟨t, p, ?_⟩
    have eH : Ex H1 (upd (upd H1 dx (.own x)) x (.ins C dx [])) := fun b o q => by
      rw [upd_ne (ne_of_none q hx), upd_ne (ne_of_none q hdx)]
      exact q
    have xF : x ∉ F := off.new hx
    have hst : L2.start N (.ref x :: us) = some (.ref x) :: (us.map some ++ List.replicate (N.length - (us.length + 1)) none) := rfl
    have how : ows [0] (L2.start N (.ref x :: us)) = [x] := by
      rw [hst]
      rfl
    have ec : Ex (cut F H1) (cut (F ++ [x]) (upd (upd H1 dx (.own x)) x (.ins C dx []))) := eH.cut fun b hb => by
      rcases List.mem_append.mp hb with q | q
      · exact .inl q
      · exact .inr (by rw [List.mem_singleton.mp q]; exact hx)
    have s0 : SR K mg ⟨F, [(0, x)]⟩ [0] (L2.start N (.ref x :: us)) (upd (upd H1 dx (.own x)) x (.ins C dx [])) (some (.obj c []) :: (ds.map some ++ List.replicate (N.length - (n + 1)) none)) := by
      refine ⟨by rw [hst]; simp [hd.1, hl], fun q hq => ?_, fun q hq => ?_, fun i d hi he => ?_, fun i hi => ?_, fun i hi j hj q _ _ => by rw [List.mem_singleton.mp hi, List.mem_singleton.mp hj]⟩
      · obtain ⟨o, a, b⟩ := off q hq
        exact ⟨o, eH _ _ a, b⟩
      · rw [List.mem_singleton.mp hq]
        rfl
      · cases i with
        | zero => exact absurd List.mem_cons_self hi
        | succ i =>
          rw [hst]
          simp only [List.getElem?_cons_succ] at he ⊢
          have hi' : i < ds.length := by
            by_cases hi : i < ds.length
            · exact hi
            · rw [List.getElem?_append_right (by simpa using hi), List.getElem?_replicate] at he
              split at he <;> cases he
          rw [List.getElem?_append_left (by simpa using hi'), List.getElem?_map] at he
          have hdd : ds[i]? = some d := by
            cases q : ds[i]? with
            | none => rw [q] at he; cases he
            | some z => rw [q] at he; cases he; rfl
          obtain ⟨v, a, b⟩ := hd.get hdd
          refine ⟨v, by rw [List.getElem?_append_left (by rw [List.length_map, hd.1]; exact hi'), List.getElem?_map, a]; rfl, ?_⟩
          rw [← hst, how]
          exact b.mono ec
      · rw [List.mem_singleton.mp hi]
        exact ⟨x, .obj c [], rfl, rfl, xF, .obj upd_same hm rfl .nil⟩
    refine z ⟨F, [(0, x)]⟩ (fun q hq => by rw [List.mem_singleton.mp hq]; exact List.mem_cons_self) _ _ _ s0 _ ?_
    rw [how]
    have back : ∀ {H2 : Hp} {A : List Addr}, Ex (cut [x] (upd (upd H1 dx (.own x)) x (.ins C dx []))) (cut A H2) → Ex H1 H2 := fun {H2 A} e b o q => by
      have n1 := ne_of_none q hx
      have q1 : cut [x] (upd (upd H1 dx (.own x)) x (.ins C dx [])) b = some o := by
        rw [cut_out (by simpa using n1), upd_ne n1, upd_ne (ne_of_none q hdx)]
        exact q
      exact (cut_some (e _ _ q1)).2
    unfold fnI at hw
    rw [if_pos hl] at hw
    cases hq : m (some (.obj c []) :: (ds.map some ++ List.replicate (N.length - (n + 1)) none)) with
    | ok ct =>
      rw [hq] at hw
      cases ct with
      | nx env' =>
        intro σ' H' s' e'
        obtain ⟨q, d, g1, g2, g3, g4⟩ := s'.own 0 List.mem_cons_self
        have gp := s'.pin (0, x) List.mem_cons_self
        rw [g2] at gp
        cases gp
        have hw' : Wn K mg E F H1 (fun H' (v : V) d => v = .ref x ∧ DR K mg (cut F H') v d) (fun _ H' => Q .non H') (R.of (env'[0]?.bind id)) := hw
        rw [g1] at hw'
        refine hw' (.ref x) H' (back e') ⟨rfl, ?_⟩
        exact g4.dr ((Ex.refl H').cut fun b hb => .inl (List.mem_append_left _ hb)) fun o z => by rw [cut_out xF]; exact z
      | rt d => exact hw.elim
      | bk env' => exact hw.elim
      | ct env' => exact hw.elim
    | exc c' fs env' =>
      rw [hq] at hw
      exact fun C' o σ' H' _ e' mm xx => hw C' o H' (back (A := []) (by rw [cut_nil]; exact e')) mm xx
    | bad => rw [hq] at hw; exact hw.elim
end

/-! ### list(g(..)) -/
def spMG (K : PySem.W.Frag) (mg : Str → Option Value) (n : Nat) (f : List D → R (List D)) : SpG := fun vs H Q E => ∃ ds F, ds.length = n ∧ Off F H ∧ DRs K mg (cut F H) vs ds ∧ Wn K mg E F H (rL K mg F) Q (f ds)
def eListG (f : List D → R (List D)) (as : AM) : EM := fun env => (as env).bind fun ds => (f ds).nox.bind fun r => .ok (.lst r)
section
variable {X : Cx} {E : L2.St → XK} {B Ol O O' : List Nat} {a b e tg : Expr} {es : List Expr} {ma mb : EM} {as : AM} {x nm : Str} {p p1 apos pos pos' : Pos}
theorem mf_listG {f : Addr} {fd : FuncData} {ps : List Str} {k n : Nat} {mf : List D → R (List D)} (G : GFn X.prog X.w X.K X.mg X.base k f fd ps (spMG X.K X.mg n mf)) (hr : Room (k + 3) X.A) (hml : X.mg nm = none) (hm : X.mg x = some (.ref f)) (hk : PySem.W.keepIn X.K (.ref f) = true) (hb : Binds X.K fd ps [])
    (h : MAn X E O (a :: es) as) (hn : (a :: es).length = n := by rfl) (hgl : Gl X nm := by rfl) (hg : Gl X x := by rfl) (hv : bootBuiltins nm = some (.type "list") := by decide +kernel) (hnm : nm ≠ "__name__" := by decide) (hdbn : (nm == ("__debug__" : Str)) = false := by decide) (hd : (x == ("__debug__" : Str)) = false := by decide)
    (he : starEach (a :: es) X.env = (false, eval a X.env) :: starEach es X.env := by rfl) (hpl : (backTo pos' (starEach es X.env)).any (·.1) = false := by rfl) (he2 : starEach [.Call (.Name x p1) (a :: es) [] pos'] X.env = (false, eval (.Call (.Name x p1) (a :: es) [] pos') X.env) :: starEach [] X.env := by rfl) :
    MF X E O (.Call (.Name nm p) [.Call (.Name x p1) (a :: es) [] pos'] [] pos) (eListG mf as) := by
  obtain ⟨t, q, z⟩ := h.ma.ex
  refine ⟨_, pe_listG (E := E0) (pgen_call G (hr.mono (Nat.le_add_right k 3)) hg hm hk hb .nil q hd he hpl) passL (fun _ _ _ h => h.elim) hr hgl hml hv hnm hdbn he2, fun F σ H env r Q w => ?_⟩
  have hN := h.n env
  refine z F σ H env r _ ?_
  unfold eListG at w
  cases hq : as env with
  | bad => rw [hq] at w; exact w.elim
  | exc c fs => rw [hq] at w; exact w
  | ok ds =>
    rw [hq] at w
    intro vs H1 e1 rl
    replace w : Wn X.K X.mg (E σ) (F.l ++ ows O σ) H (rF X.K X.mg (F.l ++ ows O σ) H) Q ((mf ds).nox.bind fun r => .ok (.lst r)) := w
    refine ⟨ds, F.l ++ ows O σ, (hN ds hq).trans hn, (r.ext e1).mb, by rw [List.append_nil]; exact rl, ?_⟩
    cases hf : mf ds with
    | bad => rw [hf] at w; exact w.elim
    | exc c fs => rw [hf] at w; exact w.elim
    | ok rr =>
      rw [hf] at w
      intro out H2 e2 ro pp hp
      have off2 := (r.ext (e1.trans e2)).mb
      refine w _ _ ((e1.trans e2).trans (Ex.new hp)) ?_
      obtain ⟨p', h1, h2, h3⟩ := own_new off2 hp ro
      exact ⟨p', h1, by cases h1; exact (e1.trans e2).back h2, h3⟩
/-- what a class c with its own __len__ has -/
structure LenC (X : Cx) (c : Str) (k : Nat) (mf : List D → R D) : Prop where
  ex : ∃ (C f : Addr) (fd : FuncData), X.mg c = some (.ref C) ∧ PySem.W.findIn X.K (.ref C) "__len__" = some (some (.ref f)) ∧ PySem.W.isFn X.K (.ref f) = true ∧ FnOk X.prog X.w X.K X.mg X.base (CX X.prog X.w) k f fd ["self"] (spM X.K X.mg 1 mf) ∧ Binds X.K fd ["self"] []
def rLenO (C : Addr) (sp : Sp) : List V → Hp → VK → Prop := fun xs H Q => ∃ (a dx : Addr) (fs : List (Str × V)), xs = [.ref a] ∧ H a = some (.ins C dx fs) ∧ sp [.ref a] H (fun v H' => ∃ n : Int, v = .int n ∧ (0 ≤ n ∧ n < 2 ^ 63) ∧ Q (.int n) H') E0
theorem call_lenO {C f : Addr} {fd : FuncData} {k : Nat} {sp : Sp} (hl : PySem.W.findIn X.K (.ref C) "__len__" = some (some (.ref f))) (hf : PySem.W.isFn X.K (.ref f) = true) (G : FnOk X.prog X.w X.K X.mg X.base (CX X.prog X.w) k f fd ["self"] sp) (hb : Binds X.K fd ["self"] []) (hr : Room (k + 1) X.A) :
    CallR X (.builtin "len") (rLenO C sp) := by
  intro pins s σ H xs us Q I r h
  obtain ⟨a, dx, fs, rfl, ha, w⟩ := h
  cases r with
  | cons ra rn =>
    cases rn
    cases ra
    obtain ⟨mA, J, _⟩ := ins_get I.hok ha
    obtain ⟨od, J, _⟩ := J.look
    obtain ⟨m, hF⟩ := I.fr
    have rv : Vals [V.ref a] [Value.ref a] := .cons rfl .nil
    have bd := hb s [.ref a] I.kIn rfl
    rw [List.append_nil] at bd
    refine PySem.W.len_K hF I.ok.mod.kin J hl hf (wpAny_call (codeAny_mono (G.run X.A.in1 X.stack s H ⟨[.ref a], []⟩ [.ref a] [.ref a] _ E0 hr.in1 I.env0.in1 bd rv w) fun rr s' q => ?_))
    rcases rr with er | fl
    · exact passL pins σ H s er s' I q
    · cases fl <;> first | exact False.elim q | skip
      obtain ⟨v, H', J', r', n, ev, hn, q'⟩ := I.after q
      subst ev
      obtain ⟨t, rfl⟩ := r'
      exact ⟨hn, .int n, H', J'.tok _, ⟨_, rfl⟩, q'⟩
/-- len(o), o of a class with its own __len__ -/
def eLenO (c : Str) (mf : List D → R D) (a : EM) : EM := fun env => (a env).bind fun x => match x with
  | .obj c' es => if c' = c then (mf [.obj c' es]).nox.bind fun d => match d with
    | .int n => R.when (0 ≤ n ∧ n < 2 ^ 63) (.ok (.int n))
    | _ => .bad
    else .bad
  | _ => .bad
theorem me_lenO {c : Str} {k : Nat} {mf : List D → R D} (T : LenC X c k mf) (hr : Room (k + 1) X.A) (hm : X.mg "len" = none) (h : ME X E O a ma) (hg : Gl X "len" := by rfl) (hst : starEach (a :: []) X.env = (false, eval a X.env) :: starEach [] X.env := by rfl) (hpl : (backTo pos (starEach [] X.env)).any (·.1) = false := by rfl) :
    ME X E O (.Call (.Name "len" p) [a] [] pos) (eLenO c mf ma) := by
  obtain ⟨t, pe, z⟩ := h.ex
  obtain ⟨C, f, fd, hC, hl, hf, G, hb⟩ := T.ex
  refine ⟨_, pe_callB (call_lenO hl hf G hb hr) hg hm (by decide +kernel) (pa_cons pe pa_nil hst) (by decide) (by decide) hst hpl, fun F σ H env s Q w => z F σ H env s _ (w.seq fun v d H1 e1 r w1 => ?_)⟩
  cases d <;> first | exact w1.elim | skip
  rename_i c' es
  replace w1 : Wn X.K X.mg (E σ) (F.l ++ ows O σ) H1 (rD X.K X.mg (F.l ++ ows O σ)) Q (if c' = c then (mf [.obj c' es]).nox.bind fun d => match d with
    | .int n => R.when (0 ≤ n ∧ n < 2 ^ 63) (.ok (.int n))
    | _ => .bad
    else .bad) := w1
  by_cases hc : c' = c
  · subst hc
    rw [if_pos rfl] at w1
    obtain ⟨p, C', dx, fs, rfl, g, g0, _, _⟩ := (WR.sh r).obj
    rw [hC] at g0
    cases g0
    refine ⟨p, dx, fs, rfl, g, [.obj c' es], F.l ++ ows O σ, rfl, (s.ext e1).mb, .one r, ?_⟩
    cases hq : mf [.obj c' es] with
    | bad => rw [hq] at w1; exact w1.elim
    | exc cc ff => rw [hq] at w1; exact w1.elim
    | ok d =>
      rw [hq] at w1
      cases d <;> first | exact w1.elim | skip
      rename_i n
      intro v2 H2 e2 r2
      obtain ⟨hn, w2⟩ := Wn.when w1
      cases r2
      exact ⟨n, rfl, hn, w2 _ H2 e2 (.int n)⟩
  · rw [if_neg hc] at w1; exact w1.elim
end
end MD

namespace MD
open PySem L2
section
variable {X : Cx} {E : L2.St → XK} {B Ol O O' : List Nat} {a b e tg : Expr} {es : List Expr} {ma mb : EM} {as : AM} {x f : Str} {p p1 apos pos pos' : Pos}
theorem me_neg (h : MW X E O a ma) : ME X E O (.UnaryOp .USub a pos) (e1 dNeg ma) := by
  obtain ⟨t, pe, z⟩ := h.ex
  exact ⟨_, pe_un un_neg pe, fun F σ H env s Q w => z F σ H env s _ (w.seq fun v d H1 e1 r w1 => so_neg _ _ H1 v d ((s.ext e1).mb) r _ w1)⟩
theorem mf_dT : MF X E O (.Dict [] [] pos) (eC (.dct [])) := ⟨_, pe_dnewT, fun F σ H env s Q w q hq => w _ _ (Ex.new hq) ⟨q, rfl, hq, .dct upd_same rfl .nil⟩⟩
theorem mf_dK : MF X E O (.Dict [] [] pos) (eC (.dik [])) := ⟨_, pe_dnewK, fun F σ H env s Q w q hq => w _ _ (Ex.new hq) ⟨q, rfl, hq, .dik upd_same rfl .nil⟩⟩
end
/-! ### a def as it stands behind the top -/
structure Dn (P : Program) (w : World) (K : PySem.W.Frag) (mg : Str → Option Value) (base : Heap) (x : Str) (k : Nat) (ps : List Str) (mf : List D → R D) : Prop where
  ex : ∃ (f : Addr) (fd : FuncData), FnOk P w K mg base (CX P w) k f fd ps (spM K mg ps.length mf) ∧ mg x = some (.ref f) ∧ PySem.W.keepIn K (.ref f) = true ∧ Binds K fd ps []
structure Gn (P : Program) (w : World) (K : PySem.W.Frag) (mg : Str → Option Value) (base : Heap) (x : Str) (k : Nat) (ps : List Str) (mf : List D → R (List D)) : Prop where
  ex : ∃ (f : Addr) (fd : FuncData), GFn P w K mg base k f fd ps (spMG K mg ps.length mf) ∧ mg x = some (.ref f) ∧ PySem.W.keepIn K (.ref f) = true ∧ Binds K fd ps []
structure Cn (P : Program) (w : World) (K : PySem.W.Frag) (mg : Str → Option Value) (base : Heap) (x : Str) (k n : Nat) (ps : List Str) (mf : List D → R D) : Prop where
  ex : ∃ (C f : Addr) (fd : FuncData), Mk K C f ∧ FnOk P w K mg base (CX P w) k f fd ps (spI K mg x n mf) ∧ mg x = some (.ref C) ∧ Binds K fd ps []
structure XD1 (P : Program) (w : World) (K : PySem.W.Frag) (mg : Str → Option Value) (base : Heap) (x f : Str) : Prop where
  ex : ∃ (C fI : Addr) (fd : FuncData), mg x = some (.ref C) ∧ OexC K C ∧ PySem.W.findIn K (.ref C) "__init__" = some (some (.ref fI)) ∧ PySem.W.typeIn K (.ref fI) = some (.type "function") ∧
    FnOk P w K mg base CX0 1 fI fd ["self", f] (spX1 K f) ∧ Binds K fd ["self", f] [] ∧ PySem.W.findIn K (.ref C) f = some none
structure XD2 (P : Program) (w : World) (K : PySem.W.Frag) (mg : Str → Option Value) (base : Heap) (x f g : Str) : Prop where
  ex : ∃ (C fI : Addr) (fd : FuncData), mg x = some (.ref C) ∧ OexC K C ∧ PySem.W.findIn K (.ref C) "__init__" = some (some (.ref fI)) ∧ PySem.W.typeIn K (.ref fI) = some (.type "function") ∧
    FnOk P w K mg base CX0 1 fI fd ["self", f, g] (spX2 K f g) ∧ Binds K fd ["self", f, g] [] ∧ PySem.W.findIn K (.ref C) f = some none ∧ PySem.W.findIn K (.ref C) g = some none
structure LenD (P : Program) (w : World) (K : PySem.W.Frag) (mg : Str → Option Value) (base : Heap) (c : Str) (k : Nat) (mf : List D → R D) : Prop where
  ex : ∃ (C f : Addr) (fd : FuncData), mg c = some (.ref C) ∧ PySem.W.findIn K (.ref C) "__len__" = some (some (.ref f)) ∧ PySem.W.isFn K (.ref f) = true ∧ FnOk P w K mg base (CX P w) k f fd ["self"] (spM K mg 1 mf) ∧ Binds K fd ["self"] []
theorem XD1.toC {X : Cx} {x f : Str} (T : XD1 X.prog X.w X.K X.mg X.base x f) : XC1 X x f := ⟨T.ex⟩
theorem XD2.toC {X : Cx} {x f g : Str} (T : XD2 X.prog X.w X.K X.mg X.base x f g) : XC2 X x f g := ⟨T.ex⟩
theorem LenD.toC {X : Cx} {x : Str} {k : Nat} {mf : List D → R D} (T : LenD X.prog X.w X.K X.mg X.base x k mf) : LenC X x k mf := ⟨T.ex⟩
structure FldD (K : PySem.W.Frag) (mg : Str → Option Value) (cs : List Str) (f : Str) : Prop where
  ok : ∀ c ∈ cs, ∀ C, mg c = some (.ref C) → Cls K C ∧ NoAttr K C f
theorem FldD.toC {X : Cx} {cs : List Str} {f : Str} (T : FldD X.K X.mg cs f) : FldOk X cs f := T.ok
/-- where a def of the text stands -/
structure At (K : PySem.W.Frag) (mg : Str → Option Value) (x qual : Str) (st : Stmt) (ps : List Str) : Prop where
  ex : ∃ (f : Addr) (fd : FuncData), Fun K x qual st f fd ∧ mg x = some (.ref f) ∧ Binds K fd ps []
section
variable {P : Program} {w : World} {K : PySem.W.Frag} {mg : Str → Option Value} {base : Heap}
theorem dn_of {x qual : Str} {st : Stmt} {N ps : List Str} {k : Nat} {m : SM} (T : At K mg x qual st ps) (S : FnScope N ps (defScope st))
    (hb : ∀ (f : Addr) (cdv : Value) (A : Around) (outer : List PySem.Env) (s : Shared) (H : Hp) (E : XK), Room k (A.deeper (PyProof.Rows.envOfC qual (defScope st) s.heap.objs.size f cdv)) →
      MSs (cxOf (CX P w) P w K mg base N qual (defScope st) f cdv A outer s H E) (fun _ => E) [] [] [] [] (defBody st) m) : Dn P w K mg base x (k + 1) ps (fnM N.length ps.length m) := by
  obtain ⟨f, fd, F, hm, hb'⟩ := T.ex
  exact ⟨f, fd, fn_ok F S (hb f), hm, F.kp, hb'⟩
end
section
variable {X : Cx} {E : L2.St → XK} {O : List Nat} {a : Expr} {es : List Expr} {as : AM} {x nm : Str} {p p1 pos pos' : Pos} {k n j : Nat} {ps : List Str} {mf : List D → R D}
theorem me_cd (T : Dn X.prog X.w X.K X.mg X.base x k ps mf) (hr : Room j X.A) (hx : ∀ σ, PassesAt (CX X.prog X.w) X σ (E σ)) (h : MAn X E O (a :: es) as) (hkj : k ≤ j := by decide) (hn : (a :: es).length = ps.length := by rfl) (hg : Gl X x := by rfl) (hd : (x == ("__debug__" : Str)) = false := by decide)
    (he : starEach (a :: es) X.env = (false, eval a X.env) :: starEach es X.env := by rfl) (hpl : (backTo pos (starEach es X.env)).any (·.1) = false := by rfl) : ME X E O (.Call (.Name x p) (a :: es) [] pos) (eCall mf as) := by
  obtain ⟨f, fd, G, hm, hk, hb⟩ := T.ex
  exact me_call G (hr.mono hkj) hm hk hb hx h hn hg hd he hpl
theorem me_ck (T : Cn X.prog X.w X.K X.mg X.base x k n ps mf) (hr : Room j X.A) (hx : ∀ σ, PassesAt (CX X.prog X.w) X σ (E σ)) (h : MAn X E O (a :: es) as) (hkj : k + 1 ≤ j := by decide) (hn : (a :: es).length = n := by rfl) (hg : Gl X x := by rfl) (hd : (x == ("__debug__" : Str)) = false := by decide)
    (he : starEach (a :: es) X.env = (false, eval a X.env) :: starEach es X.env := by rfl) (hpl : (backTo pos (starEach es X.env)).any (·.1) = false := by rfl) : ME X E O (.Call (.Name x p) (a :: es) [] pos) (eCall mf as) := by
  obtain ⟨C, f, fd, M, G, hm, hb⟩ := T.ex
  exact me_make M G (hr.mono hkj) hm hb hx h hn hg hd he hpl
theorem mf_lg {mg' : List D → R (List D)} (T : Gn X.prog X.w X.K X.mg X.base x k ps mg') (hr : Room j X.A) (hml : X.mg nm = none) (h : MAn X E O (a :: es) as) (hkj : k + 3 ≤ j := by decide) (hn : (a :: es).length = ps.length := by rfl) (hgl : Gl X nm := by rfl) (hg : Gl X x := by rfl) (hv : bootBuiltins nm = some (.type "list") := by decide +kernel) (hnm : nm ≠ "__name__" := by decide) (hdbn : (nm == ("__debug__" : Str)) = false := by decide) (hd : (x == ("__debug__" : Str)) = false := by decide)
    (he : starEach (a :: es) X.env = (false, eval a X.env) :: starEach es X.env := by rfl) (hpl : (backTo pos' (starEach es X.env)).any (·.1) = false := by rfl) (he2 : starEach [.Call (.Name x p1) (a :: es) [] pos'] X.env = (false, eval (.Call (.Name x p1) (a :: es) [] pos') X.env) :: starEach [] X.env := by rfl) :
    MF X E O (.Call (.Name nm p) [.Call (.Name x p1) (a :: es) [] pos'] [] pos) (eListG mg' as) := by
  obtain ⟨f, fd, G, hm, hk, hb⟩ := T.ex
  exact mf_listG G (hr.mono hkj) hml hm hk hb h hn hgl hg hv hnm hdbn hd he hpl he2
end
/-! ### the law's own end -/
theorem law_end {l : PySem.W.OpenLaw} {q : Program} {loose : List Str} {XP : (Str → Option Value) → Heap → Prop} {YP : World → Heap → Prop} {d : DefRec} {K : Params → PySem.W.Frag} {k : Nat} {x : Str} {mf : List D → R D} (hn : l.most = some 63) (hdf : d.params.defaults = []) (hr : Room k callerA)
    (hY : ∀ (w : World) (h : Heap), YP w h → (K w.params).In h)
    (F : ∀ (w : World) (mg : Str → Option Value) (fa : Addr) (h : Heap), (K w.params).In h → h.Ns mainGlobals mg → mg d.name = some (.ref fa) →
      ∃ fd : FuncData, (∀ (s : Shared) (u : Value), BindsTo s fd ⟨[u], []⟩ [(x, u)]) ∧ ∀ base : Heap, (K w.params).In base → base.Ns mainGlobals mg → FnOk l.prog w (K w.params) mg base (CX l.prog w) k fa fd [x] (spM (K w.params) mg 1 mf))
    (hm : ∀ ns : List Int, ns.length ≤ 63 → mf [.scr (ns.map D.int)] = .ok (.bl true)) :
    PySem.W.WalkO q loose XP YP l.row.toRowW d [] (fun f vs => PySem.call f vs) := by
  refine L2.walk_of (n := 63) (k := k) (x := x) (CX := fun w => CX l.prog w) (sp := fun w => fun vs H Q _ => ∃ (a : Addr) (ns : List Int), vs = [.ref a] ∧ ns.length ≤ 63 ∧ SqL (K w.params) H a (ns.map V.int) ∧ ∀ H', Q (.bl true) H') hn (by decide) hdf hr hY (fun w mg fa h h1 h2 h3 => ?_) (fun w H a ns hl _ hS => ⟨a, ns, rfl, hl, hS, fun _ => rfl⟩) fun w H s e s' z => ?_
  · obtain ⟨fd, hb, hF⟩ := F w mg fa h h1 h2 h3
    refine ⟨fd, hb, fun base b1 b2 => (hF base b1 b2).imp fun vs H Q E ⟨a, ns, ev, hl, hS, hq⟩ => ?_⟩
    subst ev
    refine ⟨[.scr (ns.map D.int)], [], rfl, fun p hp => by simp at hp, .one ?_, ?_⟩
    · rw [cut_nil]
      have q := drs_map_int (K := K w.params) (mg := mg) (G := H) ns
      exact .scr hS q.1 q.2
    · rw [hm ns hl]
      intro v H' _ r
      cases r
      exact hq H'
  · obtain ⟨_, _, _, _, _, _, _, _, _, _, _, _, q⟩ := z
    exact q
end MD

/-! try .. except C as e: suites that look at e and return -/
namespace MD
open PySem L2 PySem.Spec PyProof.Rows
/-! ### isinstance of the caught exception -/
def rIsX (K : PySem.W.Frag) (a : Addr) (cls : Value) (d : Option Addr) : List V → Hp → VK → Prop := fun xs H Q => ∃ (C : Addr) (c : V) (cv : Value) (b : Bool), cls = .ref C ∧ ExcC K C ∧ xs = [.ref a, c] ∧ (∀ u, RelV c u → u = cv) ∧ PySem.W.kitOne K (.ref C) cv = some b ∧
  (d = none ∨ ∃ (dd : Addr) (fs : List (Str × V)), d = some dd ∧ H dd = some (.xd fs)) ∧ Q (.bl b) H
theorem clsIn_some {K : PySem.W.Frag} {C : Addr} (h : PySem.W.hasDictIn K C = true) : (PySem.W.clsIn K C).isSome = true := by
  obtain ⟨cd, hc, _⟩ := PySem.W.any_some h
  rw [hc]; rfl
theorem call_isX {X : Cx} {a : Addr} {cls : Value} {d : Option Addr} {oe : Obj} {pn : List (Addr × Obj)} (hz : Zc cls d oe) (hf : ∃ vs, oe.data = .fields vs) : CallR (X.suite a ((a, oe) :: pn)) (.builtin "isinstance") (rIsX X.K a cls d) := by
  intro pins s σ H xs us Q I r h
  obtain ⟨D, c, cv, b, rfl, C, rfl, hcv, e, hd, q⟩ := h
  cases r with
  | cons rx rr =>
    cases rr with
    | cons rt rr =>
      cases rr
      cases rx
      have ec := hcv _ rt
      subst ec
      obtain ⟨hget, _⟩ := I.pin (a, oe) (List.mem_append.mpr (.inl List.mem_cons_self))
      obtain ⟨vs, hv⟩ := hf
      have J : ∃ od, PySem.W.InstAt s.heap a oe D od := by
        have n1 : PySem.W.notCls oe = true := by unfold PySem.W.notCls; rw [hv] <;> rfl
        rcases hd with rfl | ⟨dd, fs, rfl, hx⟩
        · exact ⟨none, hget, hz.1, n1, by rw [hz.2]; trivial⟩
        · obtain ⟨mA, hns, _⟩ := I.hok dd _ hx
          obtain ⟨od, ho, _⟩ := lookIn_ns hns
          exact ⟨some od, hget, hz.1, n1, by rw [hz.2]; exact ho⟩
      obtain ⟨od, J⟩ := J
      exact PySem.W.kia_one (PySem.W.kitx_exc (clsIn_some C.hd) C.hg C.hk C.hs C.ha C.hn C.ht C.hm) I.kIn J e (fun z => nomatch z) fun tk => ⟨.bl b, H, I.kept (t' := tk) fun _ _ z => z, rfl, q⟩
/-! ### what a suite knows of the caught -/
structure Sv (K : PySem.W.Frag) (mg : Str → Option Value) (a : Addr) (cls : Value) (d : Option Addr) (i : Nat) (F : Fm) (c : Str) (fs : List (Str × D)) (σ : L2.St) (H : Hp) (env : Env) : Prop where
  sr : SR K mg F [] σ H env
  at_ : σ[i]? = some (some (.ref a))
  cl : ∃ C, cls = .ref C ∧ mg c = some (.ref C)
  xd : XD K mg (F.l ++ ows [] σ) H d fs
theorem XD.ext {K : PySem.W.Frag} {mg : Str → Option Value} {A : List Addr} {H H' : Hp} {o : Option Addr} {fs : List (Str × D)} (h : XD K mg A H o fs) (e : Ex H H') : XD K mg A H' o fs := by
  rcases h with h | ⟨d, vfs, h1, h2, h3, h4⟩
  · exact .inl h
  · exact .inr ⟨d, vfs, h1, e _ _ h2, h3, h4.mono e.cutS⟩
section
variable {K : PySem.W.Frag} {mg : Str → Option Value} {a : Addr} {cls : Value} {d : Option Addr} {i : Nat} {F : Fm} {c : Str} {fs : List (Str × D)} {σ : L2.St} {H H' : Hp} {env : Env}
theorem Sv.ext (s : Sv K mg a cls d i F c fs σ H env) (e : Ex H H') : Sv K mg a cls d i F c fs σ H' env := ⟨s.sr.ext e, s.at_, s.cl, s.xd.ext e⟩
end
abbrev HE := Str → List (Str × D) → EM
abbrev HT := Str → List (Str × D) → TM
abbrev HA := Str → List (Str × D) → AM
abbrev HS := Str → List (Str × D) → SM
structure Ye (X : Cx) (a : Addr) (cls : Value) (d : Option Addr) (i : Nat) (e : Expr) (m : HE) : Prop where
  ex : ∃ te, PE X e te ∧ ∀ F c fs σ H env, Sv X.K X.mg a cls d i F c fs σ H env → ∀ Q, Wn X.K X.mg E0 (F.l ++ ows [] σ) H (rD X.K X.mg (F.l ++ ows [] σ)) Q (m c fs env) → te σ H Q
structure Yt (X : Cx) (a : Addr) (cls : Value) (d : Option Addr) (i : Nat) (e : Expr) (m : HT) : Prop where
  ex : ∃ tt, PT X e tt ∧ ∀ F c fs σ H env, Sv X.K X.mg a cls d i F c fs σ H env → ∀ Q, Wn X.K X.mg E0 (F.l ++ ows [] σ) H rB Q (m c fs env) → tt σ H Q
structure Ytw (X : Cx) (a : Addr) (cls : Value) (d : Option Addr) (i : Nat) (e : Expr) (m : HT) : Prop where
  ex : ∃ tt, PW X e tt ∧ ∀ F c fs σ H env, Sv X.K X.mg a cls d i F c fs σ H env → ∀ Q, Wn X.K X.mg E0 (F.l ++ ows [] σ) H rB Q (m c fs env) → tt σ H Q
structure Ya (X : Cx) (a : Addr) (cls : Value) (d : Option Addr) (i : Nat) (es : List Expr) (m : HA) : Prop where
  ex : ∃ ta, PA X es ta ∧ ∀ F c fs σ H env, Sv X.K X.mg a cls d i F c fs σ H env → ∀ Q, Wn X.K X.mg E0 (F.l ++ ows [] σ) H (rL X.K X.mg (F.l ++ ows [] σ)) (fun vs H' => vs.length = es.length → Q vs H') (m c fs env) → ta σ H Q
structure Ys (X : Cx) (a : Addr) (cls : Value) (d : Option Addr) (i : Nat) (sts : List Stmt) (m : HS) : Prop where
  ex : ∃ ts, PSs X sts ts ∧ ∀ F c fs σ H env, Sv X.K X.mg a cls d i F c fs σ H env → ∀ Dn, WS X.K X.mg (fun _ => E0) F [] [] (ows [] σ) H Dn (m c fs env) → ts Dn σ H
structure Ys1 (X : Cx) (a : Addr) (cls : Value) (d : Option Addr) (i : Nat) (st : Stmt) (m : HS) : Prop where
  ex : ∃ ts, PS X st ts ∧ ∀ F c fs σ H env, Sv X.K X.mg a cls d i F c fs σ H env → ∀ Dn, WS X.K X.mg (fun _ => E0) F [] [] (ows [] σ) H Dn (m c fs env) → ts Dn σ H
section
variable {X : Cx} {a : Addr} {cls : Value} {d : Option Addr} {i : Nat} {e e1 e2 : Expr} {es : List Expr} {m m1 m2 : HE} {t1 t2 : HT} {ms : HA} {pos : Pos}
def hOf (m : EM) : HE := fun _ _ => m
theorem ye_of {m : EM} (h : ME X (fun _ => E0) [] e m) : Ye X a cls d i e (hOf m) :=
  let ⟨_, p, z⟩ := h.ex
  ⟨_, p, fun F c fs σ H env s Q w => z F σ H env s.sr Q w⟩
def hNot (m : HE) : HE := fun c fs => eNot (m c fs)
def hAnd (m m' : HE) : HE := fun c fs => eAnd (m c fs) (m' c fs)
def hLst (m : HA) : HE := fun c fs => eLst (m c fs)
def hNil : HA := fun _ _ => aNil
def hCons (m : HE) (ms : HA) : HA := fun c fs => aCons (m c fs) (ms c fs)
def h2 (f : D → D → R D) (m m' : HE) : HE := fun c fs => MD.e2 f (m c fs) (m' c fs)
theorem ye_one {op} (h : Ye X a cls d i e m) : Ye X a cls d i (.BoolOp op [e] pos) m := let ⟨_, p, s⟩ := h.ex; ⟨_, pe_one p, s⟩
theorem ye_not (h : Ye X a cls d i e m) : Ye X a cls d i (.UnaryOp .Not e pos) (hNot m) := by
  obtain ⟨t, p, z⟩ := h.ex
  refine ⟨_, pe_not p, fun F c fs σ H env s Q w => z F c fs σ H env s _ (w.seq fun x dx H1 q1 r1 w1 => ?_)⟩
  obtain ⟨k, e2, w2⟩ := dB_w (Q := fun k H => Wn X.K X.mg E0 (F.l ++ ows [] σ) H (rD X.K X.mg (F.l ++ ows [] σ)) Q (.ok (.bl (!k)))) (.sh r1) (w1.seq fun a b H' _ e q => by cases e; exact q)
  exact ⟨k, e2, w2 _ H1 (Ex.refl _) (.bl _)⟩
theorem ye_and {rest : List Expr} (ha : Ye X a cls d i e m) (hb : Ye X a cls d i (.BoolOp .And (e1 :: rest) pos) m1) : Ye X a cls d i (.BoolOp .And (e :: e1 :: rest) pos) (hAnd m m1) := by
  obtain ⟨t, p, z⟩ := ha.ex
  obtain ⟨u, q, z1⟩ := hb.ex
  refine ⟨_, pe_and p q, fun F c fs σ H env s Q w => z F c fs σ H env s _ (w.seq fun x dx H1 q1 r1 w1 => ?_)⟩
  obtain ⟨k, e2, w2⟩ := dB_w (Q := fun k H => Wn X.K X.mg E0 (F.l ++ ows [] σ) H (rD X.K X.mg (F.l ++ ows [] σ)) Q (if k = true then m1 c fs env else .ok (.bl false))) (.sh r1) (w1.seq fun a b H' _ e q => by cases e; exact q)
  refine ⟨k, e2, ?_⟩
  cases k with
  | true => exact z1 F c fs σ H1 env (s.ext q1) _ w2
  | false => exact w2 _ H1 (Ex.refl _) (.bl false)
theorem ya_nil : Ya X a cls d i [] hNil := ⟨_, pa_nil, fun F c fs σ H env s Q w => w [] H (Ex.refl _) .nil rfl⟩
theorem ya_cons (h : Ye X a cls d i e m) (hs : Ya X a cls d i es ms) (hst : starEach (e :: es) X.env = (false, eval e X.env) :: starEach es X.env := by rfl) : Ya X a cls d i (e :: es) (hCons m ms) := by
  obtain ⟨t, p, z⟩ := h.ex
  obtain ⟨u, q, z1⟩ := hs.ex
  refine ⟨_, pa_cons p q hst, fun F c fs σ H env s Q w => z F c fs σ H env s _ (w.seq fun x dx H1 q1 r1 w1 => z1 F c fs σ H1 env (s.ext q1) _ (w1.seq fun xs ds H2 e2 q2 w2 hl => w2 _ H2 (Ex.refl _) (.cons (DR.mono r1 e2.cutS) q2) (by simp [hl])))⟩
theorem ye_lst (h : Ya X a cls d i es ms) (hl : es.length ≤ 100000 := by decide) : Ye X a cls d i (.List es pos) (hLst ms) := by
  obtain ⟨t, p, z⟩ := h.ex
  refine ⟨_, pe_lst p, fun F c fs σ H env s Q w => z F c fs σ H env s _ (w.seq fun vs ds H1 e1 r1 w1 hn => ⟨by rw [hn]; exact size_of hl, fun p hp => w1 _ _ (Ex.new hp) (rF.rD ((s.sr.ext e1).mb) ?_)⟩)⟩
  exact own_new ((s.sr.ext e1).mb) hp r1
theorem ye_cmp {op : CmpOp} {r : R2} {f : D → D → R D} (ho : OpR X (compareOp op) r) (so : Op2 X.K X.mg r f) (ha : Ye X a cls d i e m) (hb : Ye X a cls d i e1 m1) (hm : behindInMarks op e1 = false) : Ye X a cls d i (.Compare e [op] [e1] pos) (h2 f m m1) := by
  obtain ⟨t, p, z⟩ := ha.ex
  obtain ⟨u, q, z1⟩ := hb.ex
  exact ⟨_, pe_cmpR ho p q hm, fun F c fs σ H env s Q w => z F c fs σ H env s _ (w.seq fun x dx H1 q1 r1 w1 => z1 F c fs σ H1 env (s.ext q1) _ (w1.seq fun y dy H2 q2 r2 w2 => so E0 _ H2 x y dx dy ((s.sr.ext (q1.trans q2)).mb) (.sh (DR.mono r1 q2.cutS)) (.sh r2) _ w2))⟩
def hTB (m : HE) : HT := fun c fs => tB1 (m c fs)
def hTNot (m : HT) : HT := fun c fs => tNot' (m c fs)
def hTAnd (a b : HT) : HT := fun c fs => tAnd' (a c fs) (b c fs)
theorem yt_val (h : Ye X a cls d i e m) (he : ∀ whole, isTrue e X.env whole = (do let v ← whole; standAt e.pos; holding [v] (truthy v)) := by intro _; rfl) : Yt X a cls d i e (hTB m) := by
  obtain ⟨t, p, z⟩ := h.ex
  exact ⟨_, pt_val p he, fun F c fs σ H env s Q w => z F c fs σ H env s _ (w.seq fun x dx H1 q1 r1 w1 => dB_w (.sh r1) w1)⟩
theorem yt_not (h : Yt X a cls d i e t1) : Yt X a cls d i (.UnaryOp .Not e pos) (hTNot t1) := by
  obtain ⟨t, p, z⟩ := h.ex
  exact ⟨_, pt_not p, fun F c fs σ H env s Q w => z F c fs σ H env s _ (w.seq fun k k' H1 e1 q w1 => by cases q; exact w1 _ H1 (Ex.refl _) rfl)⟩
theorem ytw_and1 (h : Yt X a cls d i e t1) : Ytw X a cls d i (.BoolOp .And [e] pos) t1 := let ⟨_, p, s⟩ := h.ex; ⟨_, pw_and1 p, s⟩
theorem ytw_and {rest : List Expr} (ha : Yt X a cls d i e t1) (hb : Ytw X a cls d i (.BoolOp .And (e1 :: rest) pos) t2) : Ytw X a cls d i (.BoolOp .And (e :: e1 :: rest) pos) (hTAnd t1 t2) := by
  obtain ⟨t, p, z⟩ := ha.ex
  obtain ⟨u, q, z1⟩ := hb.ex
  refine ⟨_, pw_and p q, fun F c fs σ H env s Q w => z F c fs σ H env s _ (w.seq fun k k' H1 e1 q w1 => ?_)⟩
  cases q
  cases k with
  | true => exact z1 F c fs σ H1 env (s.ext e1) _ w1
  | false => exact w1 _ H1 (Ex.refl _) rfl
theorem ytw (h : Ytw X a cls d i e t1) : Yt X a cls d i e t1 := let ⟨_, p, s⟩ := h.ex; ⟨_, p.pt, s⟩
/-! statements -/
def hRet (m : HE) : HS := fun c fs => sRet (m c fs)
def hIf (t : HT) (a b : HS) : HS := fun c fs => sIf (t c fs) (a c fs) (b c fs)
def hSNil : HS := fun _ _ => sNil
def hSeq (a b : HS) : HS := fun c fs => sSeq (a c fs) (b c fs)
theorem Sv.seqE {α β : Type} {F : Fm} {c : Str} {fs : List (Str × D)} {σ : L2.St} {H : Hp} {env : Env} {Dn : Ends} {rel : Hp → α → β → Prop} {Q : α → Hp → Prop} {r : R β} {f : β → RS} (s : Sv X.K X.mg a cls d i F c fs σ H env) (h : WS X.K X.mg (fun _ => E0) F [] [] (ows [] σ) H Dn (r.go env f)) (k : ∀ a b H', Ex H H' → rel H' a b → WS X.K X.mg (fun _ => E0) F [] [] (ows [] σ) H' Dn (f b) → Q a H') : Wn X.K X.mg E0 (F.l ++ ows [] σ) H rel Q r :=
  WS.seqE (E := fun _ => E0) s.sr h k
theorem ys_ret (h : Ye X a cls d i e m) : Ys1 X a cls d i (.Return (some e) pos) (hRet m) := by
  obtain ⟨t, p, z⟩ := h.ex
  exact ⟨_, ps_ret p, fun F c fs σ H env s Dn w => z F c fs σ H env s _ (s.seqE w fun v dv H1 e r w1 => w1 v H1 Ex.ofCut (DR.mono r ((Ex.refl H1).cut fun b hb => .inl (List.mem_append_left _ hb))))⟩
theorem yss_nil : Ys X a cls d i [] hSNil := ⟨_, pss_nil, fun F c fs σ H env s Dn w => w σ H s.sr (Ex.refl _)⟩
/-- the first statement leaves, or hands on what it found -/
theorem yss_one {st : Stmt} {m : HS} (h : Ys1 X a cls d i st m) : Ys X a cls d i [st] m := by
  obtain ⟨t, p, z⟩ := h.ex
  refine ⟨_, pss_cons p pss_nil, fun F c fs σ H env s Dn w => z F c fs σ H env s _ ?_⟩
  cases hm : m c fs env with
  | ok ct =>
    rw [hm] at w
    cases ct with
    | nx env' => exact w
    | rt d => exact w
    | bk env' => exact w
    | ct env' => exact w
  | exc c' fs' env' => rw [hm] at w; exact w
  | bad => rw [hm] at w; exact w
theorem ys_if {as bs : List Stmt} {ma mb : HS} (ht : Yt X a cls d i e t1) (ha : Ys X a cls d i as ma) (hb : Ys X a cls d i bs mb) : Ys1 X a cls d i (.If e as bs pos) (hIf t1 ma mb) := by
  obtain ⟨t, p, z⟩ := ht.ex
  obtain ⟨u, q, z1⟩ := ha.ex
  obtain ⟨u', q', z2⟩ := hb.ex
  refine ⟨_, ps_if p q q', fun F c fs σ H env s Dn w => z F c fs σ H env s _ (s.seqE w fun k k' H1 e r w1 => ?_)⟩
  cases r
  cases k with
  | true => exact z1 F c fs σ H1 env (s.ext e) Dn w1
  | false => exact z2 F c fs σ H1 env (s.ext e) Dn w1
end
/-! ### the exception's fields, its class -/
structure FxD (K : PySem.W.Frag) (mg : Str → Option Value) (cs : List Str) (f : Str) : Prop where
  ok : ∀ c ∈ cs, ∀ C, mg c = some (.ref C) → XfC K C ∧ PySem.W.findIn K (.ref C) f = some none
def hFld (cs : List Str) (f : Str) : HE := fun c fs _ => if c ∈ cs then R.of (fs.lookup f) else .bad
structure IsD (K : PySem.W.Frag) (mg : Str → Option Value) (tb : List (Str × Bool)) (Z : Str) : Prop where
  ok : ∃ CZ, mg Z = some (.ref CZ) ∧ ∀ c b, tb.lookup c = some b → ∀ C, mg c = some (.ref C) → ExcC K C ∧ PySem.W.kitOne K (.ref C) (.ref CZ) = some b
def hIs (tb : List (Str × Bool)) : HE := fun c _ _ => R.of ((tb.lookup c).map D.bl)
section
variable {X : Cx} {a : Addr} {cls : Value} {d : Option Addr} {i : Nat} {oe : Obj} {pn : List (Addr × Obj)} {x Z f : Str} {p p1 p2 pos : Pos}
theorem pe_e (hN : X.N[i]? = some x) (hv : Vis X.env.scope x) (hd : (x == ("__debug__" : Str)) = false) (hcd : (x == ("__classdict__" : Str)) = false) : PE (X.suite a ((a, oe) :: pn)) (.Name x p) (tVar i) := pe_var hN hv hd hcd
theorem ye_fld {cs : List Str} (T : FxD X.K X.mg cs f) (hz : Zc cls d oe) (hf : ∃ vs, oe.data = .fields vs) (hN : X.N[i]? = some x := by rfl) (hv : Vis X.env.scope x := by first | exact Or.inl rfl | exact Or.inr (Or.inl rfl) | exact Or.inr (Or.inr rfl)) (hd : (x == ("__debug__" : Str)) = false := by decide) (hcd : (x == ("__classdict__" : Str)) = false := by decide)
    (hb : attributeBase (.Name x p) f X.env (eval (.Name x p) X.env) = eval (.Name x p) X.env := by rfl) : Ye (X.suite a ((a, oe) :: pn)) a cls d i (.Attribute (.Name x p) f pos) (hFld cs f) := by
  by_cases hC : ∃ C, cls = .ref C ∧ XfC X.K C ∧ PySem.W.findIn X.K (.ref C) f = some none
  · obtain ⟨C, rfl, h1, h2⟩ := hC
    refine ⟨_, pe_xf h1 h2 hz hf (pe_e hN hv hd hcd) hb, fun F c fs σ H env s Q w => ?_⟩
    unfold hFld at w
    by_cases hc : c ∈ cs
    · rw [if_pos hc] at w
      cases hl : fs.lookup f with
      | none => rw [hl] at w; exact w.elim
      | some dv =>
        rw [hl] at w
        rcases s.xd with ⟨h, _⟩ | ⟨dd, vfs, h3, h4, h5, h6⟩
        · rw [h] at hl; cases hl
        · obtain ⟨j, v, l1, l2, l3⟩ := lookup_pair h5 hl
          exact ⟨_, s.at_, rfl, rfl, dd, vfs, v, h3, h4, l1, w v H (Ex.refl H) (h6.2 j v dv l2 l3)⟩
    · rw [if_neg hc] at w; exact w.elim
  · refine ⟨fun _ _ _ => False, ⟨fun _ _ _ _ _ _ h => h.elim⟩, fun F c fs σ H env s Q w => ?_⟩
    unfold hFld at w
    by_cases hc : c ∈ cs
    · obtain ⟨C, e1, e2⟩ := s.cl
      exact hC ⟨C, e1, T.ok c hc C e2⟩
    · rw [if_neg hc] at w; exact w.elim
theorem ye_is {tb : List (Str × Bool)} (T : IsD X.K X.mg tb Z) (hz : Zc cls d oe) (hf : ∃ vs, oe.data = .fields vs) (hm : X.mg "isinstance" = none) (hN : X.N[i]? = some x := by rfl) (hv : Vis X.env.scope x := by first | exact Or.inl rfl | exact Or.inr (Or.inl rfl) | exact Or.inr (Or.inr rfl)) (hd : (x == ("__debug__" : Str)) = false := by decide) (hcd : (x == ("__classdict__" : Str)) = false := by decide)
    (hg : Gl X "isinstance" := by rfl) (hgZ : Gl X Z := by rfl) (hdZ : (Z == ("__debug__" : Str)) = false := by decide) (he : starEach [.Name x p, .Name Z p1] X.env = (false, eval (.Name x p) X.env) :: starEach [.Name Z p1] X.env := by rfl) (he2 : starEach [.Name Z p1] X.env = (false, eval (.Name Z p1) X.env) :: starEach [] X.env := by rfl)
    (hpl : (backTo pos (starEach [.Name Z p1] X.env)).any (·.1) = false := by rfl) : Ye (X.suite a ((a, oe) :: pn)) a cls d i (.Call (.Name "isinstance" p2) [.Name x p, .Name Z p1] [] pos) (hIs tb) := by
  obtain ⟨CZ, mZ, hT⟩ := T.ok
  refine ⟨_, pe_callB (call_isX hz hf) hg hm (by decide +kernel) (pa_cons (pe_e hN hv hd hcd) (pa_cons (pe_glob (v := .ref CZ) hgZ mZ rfl hdZ) pa_nil he2) he) (by decide) (by decide) he hpl, fun F c fs σ H env s Q w => ?_⟩
  unfold hIs at w
  cases hl : tb.lookup c with
  | none => rw [hl] at w; exact w.elim
  | some b =>
    rw [hl] at w
    obtain ⟨C, e1, e2⟩ := s.cl
    obtain ⟨h1, h2⟩ := hT c b hl C e2
    refine ⟨_, s.at_, C, .ref CZ, .ref CZ, b, e1, h1, rfl, fun u hu => hu, h2, ?_, w _ H (Ex.refl H) (.bl b)⟩
    rcases s.xd with ⟨_, h⟩ | ⟨dd, vfs, h3, h4, _⟩
    · exact .inl h
    · exact .inr ⟨dd, vfs, h3, h4⟩
end
theorem op_eqS {X : Cx} {k : Nat} (hr : Room k X.A) {a : Addr} {pn : List (Addr × Obj)} : OpR (X.suite a pn) (compareOp .Eq) (rEq2 X.K) := OpR.or op_eq (op_eqD hr.units)
theorem op_neS {X : Cx} {k : Nat} (hr : Room k X.A) {a : Addr} {pn : List (Addr × Obj)} : OpR (X.suite a pn) (compareOp .NotEq) (rNe2 X.K) := OpR.or op_ne (op_neD hr.units)
/-! ### try -/
structure CatD (K : PySem.W.Frag) (mg : Str → Option Value) (tb : List (Str × Bool)) (Z : Str) : Prop where
  ok : ∃ CZ, mg Z = some (.ref CZ) ∧ ∀ c b, tb.lookup c = some b → ∀ C, mg c = some (.ref C) → PySem.W.exmOne K (.ref C) (.ref CZ) = some b
/-- the clause's name is gone behind it -/
def RS.wipe (i : Nat) : RS → RS
  | .ok (.nx env) => .ok (.nx (env.set i none))
  | .ok (.rt d) => .ok (.rt d)
  | _ => .bad
def sTry (b : SM) (tb : List (Str × Bool)) (i : Nat) (h : HS) : SM := fun env => match b env with
  | .ok c => .ok c
  | .bad => .bad
  | .exc c fs env' => match tb.lookup c with
    | none => .bad
    | some false => .exc c fs env'
    | some true => RS.when (i < env'.length) ((h c fs (env'.set i none)).wipe i)
theorem SR.hole {K : PySem.W.Frag} {mg : Str → Option Value} {F : Fm} {σ : L2.St} {H : Hp} {env : Env} {i : Nat} {o : Option V} (hb : ∀ q ∈ F.b, q.1 ≠ i) (s : SR K mg F [] σ H env) : SR K mg F [] (σ.set i o) H (env.set i none) := by
  refine ⟨by simp [s.len], s.dom, fun q hq => by rw [List.getElem?_set_ne (Ne.symm (hb q hq))]; exact s.pin q hq, fun j d hj he => ?_, fun j hj => by simp at hj, fun j hj => by simp at hj⟩
  by_cases e : i = j
  · subst e
    rw [List.getElem?_set_self'] at he
    cases h : env[i]? with
    | none => rw [h] at he; cases he
    | some o => rw [h] at he; cases he
  · rw [List.getElem?_set_ne e] at he ⊢
    exact s.shr j d hj he
section
variable {X : Cx} {E : L2.St → XK} {B Ol : List Nat} {x n : Str} {body suite : List Stmt} {b₀ : Stmt} {np pos pos' : Pos} {m : SM} {h : HS} {tb : List (Str × Bool)}
theorem ms_try (i : Nat) (hN : X.N.Nodup) (T : CatD X.K X.mg tb x) (tk : Takes X fun cls d σ H => E σ cls d H)
    (hb : ∀ (W : WX) (pn : List (Addr × Obj)) (xe : Value → Shared → Prop), Takes (X.tr pn xe) W → PassesOwn (model X.prog X.w) X.A X.env xe → MSs (X.tr pn xe) (WE W) B Ol [] [] body m)
    (hsu : ∀ (a : Addr) (oe : Obj) (cls : Value) (d : Option Addr) (pn : List (Addr × Obj)), Zc cls d oe → (∃ vs, oe.data = .fields vs) → Ys (X.suite a ((a, oe) :: pn)) a cls d i (b₀ :: suite) h)
    (hiB : i ∉ B := by decide) (hs : X.stack = X.env :: X.outer := by rfl) (hf : X.env.frame = some X.env.locals := by rfl) (hi : X.N[i]? = some n := by rfl) (hln : X.env.kindOf n = some .local := by rfl) (hg : Gl X x := by rfl) (hd : (x == ("__debug__" : Str)) = false := by decide) :
    MS X E B Ol [] [] (.Try body [.ExceptHandler (some (.Name x np)) (some n) (b₀ :: suite) pos'] [] [] pos) (sTry m tb i h) := by
  obtain ⟨CZ, mZ, hT⟩ := T.ok
  refine ⟨_, ps_try_as (c := .ref CZ) (tb := fun W D σ H => ∀ pn xe (t1 : Takes (X.tr pn xe) W) (t2 : PassesOwn (model X.prog X.w) X.A X.env xe), Classical.choose (hb W pn xe t1 t2).ex D σ H)
    (ts := fun a cls d D σ H => ∀ oe pn (z1 : Zc cls d oe) (z2 : ∃ vs, oe.data = .fields vs), Classical.choose (hsu a oe cls d pn z1 z2).ex D σ H) hs hf hN hi hln ⟨hg, hd, .inl mZ⟩ tk
    (fun W pn xe t1 t2 => ⟨fun pins s σ H D I hh => (Classical.choose_spec (hb W pn xe t1 t2).ex).1.run pins s σ H D I (hh pn xe t1 t2)⟩)
    (fun a oe cls d pn z1 z2 => ⟨fun pins s σ H D I hh => (Classical.choose_spec (hsu a oe cls d pn z1 z2).ex).1.run pins s σ H D I (hh oe pn z1 z2)⟩), fun F hB σ H env s Dn w => ?_⟩
  intro pn xe t1 t2
  refine (Classical.choose_spec (hb _ pn xe t1 t2).ex).2 F hB σ H env s Dn ?_
  unfold sTry at w
  cases hm : m env with
  | ok c =>
    rw [hm] at w
    cases c with
    | nx env' => exact w
    | rt d => exact w
    | bk env' => exact w
    | ct env' => exact w
  | bad => rw [hm] at w; exact w
  | exc c fs env' =>
    rw [hm] at w
    intro C o σ' H' s' e' mc xd
    cases hl : tb.lookup c with
    | none => simp only [hl] at w; exact w.elim
    | some b =>
      refine ⟨b, hT c b hl C mc, fun hb1 a ha oe pn z1 z2 => ?_, fun hb1 => ?_⟩
      · subst hb1
        simp only [hl] at w
        unfold RS.when at w
        by_cases hlt : i < env'.length
        · rw [if_pos hlt] at w
          have hF : ∀ q ∈ F.b, q.1 ≠ i := fun q hq z => hiB (z ▸ hB q hq)
          have xd' : XD X.K X.mg (F.l ++ ows [] (σ'.set i (some (.ref a)))) H' o fs := xd.mono fun b hb => by simpa [ows] using hb
          refine (Classical.choose_spec (hsu a oe (.ref C) o pn z1 z2).ex).2 F c fs (σ'.set i (some (.ref a))) H' (env'.set i none) ⟨SR.hole hF s', by rw [List.getElem?_set_self (by rw [s'.len]; exact hlt)], ⟨C, rfl, mc⟩, xd'⟩ _ ?_
          cases hh : h c fs (env'.set i none) with
          | ok ct =>
            rw [hh] at w
            cases ct with
            | nx env2 => exact fun σ2 H2 s2 e2 => w (σ2.set i none) H2 (SR.hole hF s2) (e'.trans (by simpa [ows, cut_nil] using e2))
            | rt d => exact fun v H2 e2 r2 => w v H2 (e'.trans (by simpa [ows, cut_nil] using e2)) r2
            | bk env2 => exact w.elim
            | ct env2 => exact w.elim
          | exc c' fs' env2 => rw [hh] at w; exact w.elim
          | bad => rw [hh] at w; exact w.elim
        · rw [if_neg hlt] at w; exact w.elim
      · subst hb1
        simp only [hl] at w
        exact w C o σ' H' s' e' mc xd
end
end MD

/-! generators: no return, no exception -/
namespace MD
open PySem L2 PySem.Spec PyProof.Rows
abbrev GSM := List D → Env → R (List D × Env)
def WG (K : PySem.W.Frag) (mg : Str → Option Value) (F : Fm) (H : Hp) (nx : List V → L2.St → Hp → Prop) : R (List D × Env) → Prop
  | .ok (ds, env) => ∀ ys σ' H', SR K mg F [] σ' H' env → Ex H H' → DRs K mg (cut F.l H') ys ds → nx ys σ' H'
  | _ => False
structure GY1 (X : Cx) (st : Stmt) (m : GSM) : Prop where
  ex : ∃ t, GS X st t ∧ ∀ (F : Fm), F.b = [] → ∀ (σ : L2.St) (H : Hp) (env : Env) (ys : List V) (ds : List D), SR X.K X.mg F [] σ H env → DRs X.K X.mg (cut F.l H) ys ds → ∀ D : GEnds, WG X.K X.mg F H D.nx (m ds env) → t D ys σ H
structure GYs (X : Cx) (st : List Stmt) (m : GSM) : Prop where
  ex : ∃ t, GSs X st t ∧ ∀ (F : Fm), F.b = [] → ∀ (σ : L2.St) (H : Hp) (env : Env) (ys : List V) (ds : List D), SR X.K X.mg F [] σ H env → DRs X.K X.mg (cut F.l H) ys ds → ∀ D : GEnds, WG X.K X.mg F H D.nx (m ds env) → t D ys σ H
section
variable {X : Cx} {E : L2.St → XK} {F : Fm} {st : Stmt} {rest body : List Stmt} {e c : Expr} {me : EM} {mt : TM} {m m' : GSM} {ms : SM} {pos yp : Pos} {K : PySem.W.Frag} {mg : Str → Option Value} {H H' : Hp} {nx : List V → L2.St → Hp → Prop}
theorem WG.mono {r : R (List D × Env)} (h : WG K mg F H nx r) (e : Ex H H') : WG K mg F H' nx r := by
  cases r with
  | ok p => exact fun ys σ' H2 s e2 d => h ys σ' H2 s (e.trans e2) d
  | exc c fs => exact h
  | bad => exact h
theorem WG.seq {α β : Type} {E : XK} {A : List Addr} {rel : Hp → α → β → Prop} {Q : α → Hp → Prop} {r : R β} {f : β → R (List D × Env)} (h : WG K mg F H nx (r.bind f)) (k : ∀ a b H', Ex H H' → rel H' a b → WG K mg F H' nx (f b) → Q a H') : Wn K mg E A H rel Q r := by
  cases r with
  | ok b => exact fun a H' e q => k a b H' e q (WG.mono h e)
  | exc c fs => exact h.elim
  | bad => exact h.elim
theorem cutF {K : PySem.W.Frag} {mg : Str → Option Value} {l : List Addr} {σ : L2.St} {H : Hp} {v : V} {d : D} (h : DR K mg (cut (l ++ ows [] σ) H) v d) : DR K mg (cut l H) v d := h.mono ((Ex.refl H).cut fun b hb => .inl (List.mem_append_left _ hb))
def gNil : GSM := fun ds env => .ok (ds, env)
def gSeq (a b : GSM) : GSM := fun ds env => (a ds env).bind fun p => b p.1 p.2
/-- a statement that hands out nothing, goes on -/
def gPl (m : SM) : GSM := fun ds env => match m env with
  | .ok (.nx env') => .ok (ds, env')
  | _ => .bad
def gYield (m : EM) : GSM := fun ds env => (m env).bind fun d => if ds.length < 100000 then .ok (ds ++ [d], env) else .bad
def gWhile (t : TM) (b : GSM) : Nat → GSM
  | 0 => fun _ _ => .bad
  | n + 1 => fun ds env => (t env).bind fun k => if k = true then (b ds env).bind fun p => gWhile t b n p.1 p.2 else .ok (ds, env)
theorem gys_nil : GYs X [] gNil := ⟨_, gss_nil, fun F hF σ H env ys ds s q D w => w ys σ H s (Ex.refl H) q⟩
theorem gys_cons (h : GY1 X st m) (hs : GYs X rest m') : GYs X (st :: rest) (gSeq m m') := by
  obtain ⟨t, p, z⟩ := h.ex
  obtain ⟨u, q, z'⟩ := hs.ex
  refine ⟨_, gss_cons p q, fun F hF σ H env ys ds s r D w => z F hF σ H env ys ds s r _ ?_⟩
  unfold gSeq at w
  cases hm : m ds env with
  | ok pr =>
    rw [hm] at w
    exact fun ys' σ' H' s' e' q' => z' F hF σ' H' pr.2 ys' pr.1 s' q' D (WG.mono w e')
  | exc c fs => rw [hm] at w; exact w.elim
  | bad => rw [hm] at w; exact w.elim
theorem gy_pl (h : MS X E [] [] [] [] st ms) : GY1 X st (gPl ms) := by
  obtain ⟨t, p, z⟩ := h.ex
  refine ⟨_, gs_ps p, fun F hF σ H env ys ds s r D w => z F (fun q hq => by rw [hF] at hq; cases hq) σ H env s _ ?_⟩
  unfold gPl at w
  cases hm : ms env with
  | ok ct =>
    rw [hm] at w
    cases ct with
    | nx env' =>
      exact fun σ' H' s' e' => w ys σ' H' s' (by simpa [ows, cut_nil] using e') (r.mono (Ex.cutS (by simpa [ows, cut_nil] using e')))
    | rt d => exact w.elim
    | bk env' => exact w.elim
    | ct env' => exact w.elim
  | exc c fs env' => rw [hm] at w; exact w.elim
  | bad => rw [hm] at w; exact w.elim
theorem DRs.snoc {G : Hp} {vs : List V} {ds : List D} {v : V} {d : D} (h : DRs K mg G vs ds) (r : DR K mg G v d) : DRs K mg G (vs ++ [v]) (ds ++ [d]) := by
  refine ⟨by simp [h.1], fun i x y hx hy => ?_⟩
  by_cases hi : i < vs.length
  · rw [List.getElem?_append_left hi] at hx
    rw [List.getElem?_append_left (by rw [← h.1]; exact hi)] at hy
    exact h.2 i x y hx hy
  · rw [List.getElem?_append_right (by omega)] at hx
    rw [List.getElem?_append_right (by rw [← h.1]; omega), ← h.1] at hy
    cases hk : i - vs.length with
    | zero => rw [hk] at hx hy; cases hx; cases hy; exact r
    | succ k => rw [hk] at hx; cases hx
theorem gy_yield (h : ME X E [] e me) (hco : X.env.scope.isCoroutine = false := by rfl) (hi : interactive X.env = false := by rfl) : GY1 X (.Expr (.Yield (some e) yp) pos) (gYield me) := by
  obtain ⟨t, p, z⟩ := h.ex
  refine ⟨_, gs_yield p hco hi, fun F hF σ H env ys ds s r D w => ?_⟩
  unfold gYield at w
  have hl : ds.length < 100000 := by
    cases hm : me env with
    | ok d =>
      rw [hm] at w
      by_cases q : ds.length < 100000
      · exact q
      · have w' : WG X.K X.mg F H D.nx (if ds.length < 100000 then .ok (ds ++ [d], env) else .bad) := w
        rw [if_neg q] at w'; exact w'.elim
    | exc c fs => rw [hm] at w; exact w.elim
    | bad => rw [hm] at w; exact w.elim
  refine ⟨Nat.lt_of_lt_of_le (by rw [r.1]; exact hl) (by decide : (100000 : Nat) ≤ sizeLine), z F σ H env s _ (w.seq fun v d H1 e1 r1 w1 => ?_)⟩
  rw [if_pos hl] at w1
  exact w1 (ys ++ [v]) σ H1 (s.ext e1) (Ex.refl _) ((r.mono e1.cutS).snoc (cutF r1))
theorem gy_while (n : Nat) (hp : PassesOwn (model X.prog X.w) X.A X.env X.xe) (ht : MT X E [] c mt) (hb : GYs X body m) : GY1 X (.While c body [] pos) (gWhile mt m n) := by
  obtain ⟨t, p, z⟩ := ht.ex
  obtain ⟨u, q, z1⟩ := hb.ex
  refine ⟨_, gs_while hp p q, fun F hF σ H env ys ds s r D w => ?_⟩
  refine ⟨fun k ys' σ' H' => ∃ env' ds', SR X.K X.mg F [] σ' H' env' ∧ DRs X.K X.mg (cut F.l H') ys' ds' ∧ WG X.K X.mg F H' D.nx (gWhile mt m k ds' env'), ⟨n, env, ds, s, r, w⟩, ?_⟩
  rintro k ys' σ' H' ⟨env', ds', s', r', w'⟩
  cases k with
  | zero => exact w'.elim
  | succ k =>
    have w3 : WG X.K X.mg F H' D.nx ((mt env').bind fun k' => if k' = true then (m ds' env').bind fun p => gWhile mt m k p.1 p.2 else .ok (ds', env')) := w'
    refine z F σ' H' env' s' _ (w3.seq fun b b' H1 e1 q1 w4 => ?_)
    cases q1
    cases b with
    | true =>
      rw [if_pos rfl]
      rw [if_pos rfl] at w4
      refine ⟨fun ys2 σ2 H2 => ∃ env2 ds2, SR X.K X.mg F [] σ2 H2 env2 ∧ DRs X.K X.mg (cut F.l H2) ys2 ds2 ∧ WG X.K X.mg F H2 D.nx (gWhile mt m k ds2 env2), fun ys2 σ2 H2 hh => ⟨k, Nat.lt_succ_self k, hh⟩, z1 F hF σ' H1 env' ys' ds' (s'.ext e1) (r'.mono e1.cutS) _ ?_⟩
      cases hm : m ds' env' with
      | ok pr =>
        rw [hm] at w4
        exact fun ys2 σ2 H2 s2 e2 q2 => ⟨pr.2, pr.1, s2, q2, WG.mono w4 e2⟩
      | exc c fs => rw [hm] at w4; exact w4.elim
      | bad => rw [hm] at w4; exact w4.elim
    | false =>
      rw [if_neg (by simp)]
      rw [if_neg (by simp)] at w4
      exact w4 ys' σ' H1 (s'.ext e1) (Ex.refl _) (r'.mono e1.cutS)
end
/-! the def -/
def gnM (L n : Nat) (m : GSM) : List D → R (List D) := fun ds => if ds.length = n then (match m [] (ds.map some ++ List.replicate (L - n) none) with | .ok p => .ok p.1 | _ => .bad) else .bad
section
variable {P : Program} {w : World} {K : PySem.W.Frag} {mg : Str → Option Value} {base : Heap}
theorem gn_of {x qual : Str} {st : Stmt} {N ps : List Str} {k : Nat} {m : GSM} (T : At K mg x qual st ps) (S : GScope N ps (defScope st))
    (hb : ∀ (f : Addr) (cdv : Value) (A : Around) (outer : List PySem.Env) (s : Shared) (H : Hp) (E : XK) (pn : List (Addr × Obj)), Room k (A.deeper (envOfC qual (defScope st) s.heap.objs.size f cdv)) →
      GYs (gcxOf P w K mg base N qual (defScope st) f cdv A outer s H E pn) (defBody st) m) : Gn P w K mg base x (k + 1) ps (gnM N.length ps.length m) := by
  obtain ⟨f, fd, F, hm, hb'⟩ := T.ex
  refine ⟨f, fd, ?_, hm, F.kp, hb'⟩
  obtain ⟨oc, od, kV, doc, pm, an, cdv, ct, osl, rfl, lk, hcd⟩ := F.ex
  refine gfn_of lk hcd S (fun vs H Q E h => ?_) fun A outer s H vs Q E pn hr hsp => ?_
  · obtain ⟨ds, F, hl, _, hd, _⟩ := h
    rw [hd.1, hl]
  · obtain ⟨ds, F, hl, off, hd, hw⟩ := hsp
    obtain ⟨t, p, z⟩ := (hb f cdv A outer s H E pn hr).ex
    refine ⟨t, p, z ⟨F, []⟩ rfl _ H _ [] [] (sr_start off hd) .nil _ ?_⟩
    unfold gnM at hw
    rw [if_pos hl] at hw
    rw [hl]
    cases hm : m [] (ds.map some ++ List.replicate (N.length - ps.length) none) with
    | ok pr =>
      rw [hm] at hw
      exact fun ys σ' H' s' e' q' => hw ys H' e' q'
    | exc c fs => rw [hm] at hw; exact hw.elim
    | bad => rw [hm] at hw; exact hw.elim
theorem pass_g {N : List Str} {qual : Str} {scope : Scope} {f : Addr} {cdv : Value} {A : Around} {outer : List PySem.Env} {s : Shared} {H : Hp} {E : XK} {pn : List (Addr × Obj)} (σ : L2.St) : PassesAt (CX P w) (gcxOf P w K mg base N qual scope f cdv A outer s H E pn) σ ((fun _ => E) σ) := fun pins H' s' e s'' I c =>
  passes_call (X := gcxOf P w K mg base N qual scope f cdv A outer s H E pn) (W := fun cls d _ H => E cls d H) takes_gcx (fun _ _ _ _ h => h) pins σ H' s' e s'' I c
end
end MD

/-! the head's facts, put into the mirror layer's words -/
namespace MD
open PySem L2 PySem.Spec PyProof.Rows PySem.W
section
variable {P : Program} {w : World} {K : PySem.W.Frag} {mg : Str → Option Value} {base : Heap} {h : Heap}
theorem at_mk {x qual : Str} {st : Stmt} {ps : List Str} {f : Addr} {oc : Value} {od an : Option Addr} {osl : Array (Option Value)} {kV doc pm cdv ct : Value} (X : K.In h) (G : h.Ns mainGlobals mg) (a : nsIn K mainGlobals x = some (some (.ref f)))
    (l : K.lookup f = some ⟨oc, od, .func (PySem.W.fnOf x qual (defArgs st) (defBody st) (defScope st) .none kV doc pm an cdv ct), osl⟩) (c : PySem.W.codeIn K cdv qual = true) (k : PySem.W.keepIn K (.ref f) = true)
    (b : ∀ (kV doc pm : Value) (an : Option Addr) (cdv ct : Value) (us : List Value), us.length = ps.length → bindArgs (PySem.W.fnOf x qual (defArgs st) (defBody st) (defScope st) .none kV doc pm an cdv ct) ⟨us, []⟩ = pure (ps.zip us)) : At K mg x qual st ps :=
  ⟨f, _, fun_mk l c k, mg_of X G a, (fun_mk l c k).binds b⟩
theorem mg_c {x : Str} {C : Addr} (X : K.In h) (G : h.Ns mainGlobals mg) (a : nsIn K mainGlobals x = some (some (.ref C))) : mg x = some (.ref C) := mg_of X G a
theorem kit_of {C Z : Addr} {b : Bool} (hd : hasDictIn K Z = true) (ty : typeIn K (.ref Z) = some (.type "type")) (h4 : subIn K (.ref C) (.ref Z) = some b) (ne : C ≠ Z ∨ b = true) : kitOne K (.ref C) (.ref Z) = some b := by
  unfold kitOne kitCls
  by_cases e : C = Z
  · subst e
    rcases ne with ne | rfl
    · exact absurd rfl ne
    · simp
  · have e' : ((Value.ref C == Value.ref Z) = true) = False := by simp [e]
    rw [if_neg (by simp [e])]
    have e2 : ((clsIn K Z).isSome && typeIn K (.ref Z) == some (.type "type")) = true := by rw [clsIn_some hd, ty] <;> rfl
    show (if ((clsIn K Z).isSome && typeIn K (.ref Z) == some (.type "type")) = true then subIn K (.ref C) (.ref Z) else none) = some b
    rw [if_pos e2]; exact h4
/-- a method, an __init__ -/
structure Mt (K : PySem.W.Frag) (C : Addr) (x qual : Str) (st : Stmt) (ps : List Str) : Prop where
  ex : ∃ (f : Addr) (fd : FuncData), findIn K (.ref C) x = some (some (.ref f)) ∧ isFn K (.ref f) = true ∧ typeIn K (.ref f) = some (.type "function") ∧ Fun K x qual st f fd ∧ Binds K fd ps []
theorem mt_mk {C : Addr} {x qual : Str} {st : Stmt} {ps : List Str} {f : Addr} {oc : Value} {od an : Option Addr} {osl : Array (Option Value)} {kV doc pm cdv ct : Value} (a : findIn K (.ref C) x = some (some (.ref f))) (i : isFn K (.ref f) = true) (t : typeIn K (.ref f) = some (.type "function"))
    (l : K.lookup f = some ⟨oc, od, .func (PySem.W.fnOf x qual (defArgs st) (defBody st) (defScope st) .none kV doc pm an cdv ct), osl⟩) (c : PySem.W.codeIn K cdv qual = true) (k : PySem.W.keepIn K (.ref f) = true)
    (b : ∀ (kV doc pm : Value) (an : Option Addr) (cdv ct : Value) (us : List Value), us.length = ps.length → bindArgs (PySem.W.fnOf x qual (defArgs st) (defBody st) (defScope st) .none kV doc pm an cdv ct) ⟨us, []⟩ = pure (ps.zip us)) : Mt K C x qual st ps :=
  ⟨f, _, a, i, t, fun_mk l c k, (fun_mk l c k).binds b⟩
/-- an own exception class over ValueError -/
structure Xc (K : PySem.W.Frag) (mg : Str → Option Value) (x : Str) (C : Addr) : Prop where
  at_ : mg x = some (.ref C)
  ox : OexC K C
  ga : findIn K (.ref C) "__getattribute__" = some (some (.builtin "BaseException.__getattribute__"))
  gg : findIn K (.ref C) "__getattr__" = some none
  hd : hasDictIn K C = true
  ha : findIn K (.ref C) "__class__" = some (some (.builtin "object.__class__"))
  hn : specialIn K (.builtin "object.__class__") "__get__" = some (some (.builtin "getset_descriptor.__get__"))
  ht : takesIn K (.builtin "object.__class__") = some true
  hm : mroIn K C (.type "object") = some true
theorem xc_mk {x nm q : Str} {C N : Addr} {bs bm : List Value} {sn : List Str} {sub : List Value} {ab : Bool} {col : Option Bool} {dd : Option Addr} {m0 m1 m2 m3 m5 : Option Value} (X : K.In h) (G : h.Ns mainGlobals mg) (aC : nsIn K mainGlobals x = some (some (.ref C)))
    (xL : K.lookup C = some (excClassObj nm q C N bs bm true sn sub ab col dd m0 m1 m2 m3 m5 "ValueError.__new__")) (bmv : PySem.HandSPX.refsVE bm = true)
    (sa : findIn K (.ref C) "__setattr__" = some (some (.builtin "object.__setattr__"))) (exC : subIn K (.ref C) (.type "BaseException") = some true) (tyC : typeIn K (.ref C) = some (.type "type")) (kC : keepIn K (.ref C) = true)
    (ga : findIn K (.ref C) "__getattribute__" = some (some (.builtin "BaseException.__getattribute__"))) (gg : findIn K (.ref C) "__getattr__" = some none) (hd : hasDictIn K C = true) (ha : findIn K (.ref C) "__class__" = some (some (.builtin "object.__class__")))
    (hn : specialIn K (.builtin "object.__class__") "__get__" = some (some (.builtin "getset_descriptor.__get__"))) (ht : takesIn K (.builtin "object.__class__") = some true) (hm : mroIn K C (.type "object") = some true) : Xc K mg x C :=
  ⟨mg_of X G aC, ⟨⟨nm, q, N, bs, bm, sn, sub, ab, col, dd, m0, m1, m2, m3, m5, xL, bmv⟩, sa, exC, tyC, kC⟩, ga, gg, hd, ha, hn, ht, hm⟩
theorem Xc.exc {x : Str} {C : Addr} (T : Xc K mg x C) : ExcC K C := ⟨T.ga, T.gg, T.ox.exC, T.hd, T.ha, T.hn, T.ht, T.hm⟩
theorem Xc.xf {x : Str} {C : Addr} (T : Xc K mg x C) : XfC K C := ⟨T.ga, T.gg, T.ox.exC, T.hd⟩
theorem init1_ok {x qual f : Str} {st : Stmt} {g : Addr} {fd : FuncData} (F : Fun K x qual st g fd) (S : FnScope ["self", f] ["self", f] (defScope st))
    (hp : ∀ (cdv : Value) (A : Around) (outer : List PySem.Env) (s : Shared) (H : Hp) (E : XK), PSs (cxOf CX0 P w K mg base ["self", f] qual (defScope st) g cdv A outer s H E).nox (defBody st) (tOst K f (tVar 0) (tVar 1))) : FnOk P w K mg base CX0 1 g fd ["self", f] (spX1 K f) := by
  refine F.ok S (fun vs H Q E h => ?_) (fun cdv A outer s H vs Q E hr h => ⟨_, hp cdv A outer s H E, ?_⟩)
  · obtain ⟨a, C, v, rfl, _⟩ := h; rfl
  · obtain ⟨a, C, v, rfl, T, no, ha, q⟩ := h
    exact ⟨v, rfl, .ref a, rfl, a, C, rfl, T, no, .inl ⟨ha, fun dx n ne => q dx n ne⟩⟩
theorem xd1_mk {x f qual : Str} {st : Stmt} {C : Addr} (T : Xc K mg x C) (M : Mt K C "__init__" qual st ["self", f]) (nb : findIn K (.ref C) f = some none) (S : FnScope ["self", f] ["self", f] (defScope st))
    (hp : ∀ (g : Addr) (cdv : Value) (A : Around) (outer : List PySem.Env) (s : Shared) (H : Hp) (E : XK), PSs (cxOf CX0 P w K mg base ["self", f] qual (defScope st) g cdv A outer s H E).nox (defBody st) (tOst K f (tVar 0) (tVar 1))) : XD1 P w K mg base x f := by
  obtain ⟨g, fd, a, i, t, F, b⟩ := M.ex
  exact ⟨C, g, fd, T.at_, T.ox, a, t, init1_ok F S (hp g), b, nb⟩
theorem init2_ok {x qual f g : Str} {st : Stmt} {a : Addr} {fd : FuncData} (F : Fun K x qual st a fd) (S : FnScope ["self", f, g] ["self", f, g] (defScope st))
    (hp : ∀ (cdv : Value) (A : Around) (outer : List PySem.Env) (s : Shared) (H : Hp) (E : XK), PSs (cxOf CX0 P w K mg base ["self", f, g] qual (defScope st) a cdv A outer s H E).nox (defBody st) (tSeq (tOst K f (tVar 0) (tVar 1)) (tOst K g (tVar 0) (tVar 2)))) : FnOk P w K mg base CX0 1 a fd ["self", f, g] (spX2 K f g) := by
  refine F.ok S (fun vs H Q E h => ?_) (fun cdv A outer s H vs Q E hr h => ⟨_, hp cdv A outer s H E, ?_⟩)
  · obtain ⟨a, C, v, u, rfl, _⟩ := h; rfl
  · obtain ⟨a, C, v, u, rfl, T, no, no2, ha, q⟩ := h
    exact ⟨v, rfl, .ref a, rfl, a, C, rfl, T, no, .inl ⟨ha, fun dx n ne => ⟨u, rfl, .ref a, rfl, a, C, rfl, T, no2, .inr ⟨dx, _, upd_same, by rw [upd_ne ne]; exact upd_same, by show 1 ≤ 900; decide, q dx n ne⟩⟩⟩⟩
theorem xd2_mk {x f g qual : Str} {st : Stmt} {C : Addr} (T : Xc K mg x C) (M : Mt K C "__init__" qual st ["self", f, g]) (nb : findIn K (.ref C) f = some none) (nb2 : findIn K (.ref C) g = some none) (S : FnScope ["self", f, g] ["self", f, g] (defScope st))
    (hp : ∀ (a : Addr) (cdv : Value) (A : Around) (outer : List PySem.Env) (s : Shared) (H : Hp) (E : XK), PSs (cxOf CX0 P w K mg base ["self", f, g] qual (defScope st) a cdv A outer s H E).nox (defBody st) (tSeq (tOst K f (tVar 0) (tVar 1)) (tOst K g (tVar 0) (tVar 2)))) : XD2 P w K mg base x f g := by
  obtain ⟨a, fd, a1, i, t, F, b⟩ := M.ex
  exact ⟨C, a, fd, T.at_, T.ox, a1, t, init2_ok F S (hp a), b, nb, nb2⟩
theorem isd_mk {tb : List (Str × Bool)} {Z : Str} {CZ : Addr} (mZ : mg Z = some (.ref CZ)) (hh : ∀ p ∈ tb, ∃ C, Xc K mg p.1 C ∧ kitOne K (.ref C) (.ref CZ) = some p.2) : IsD K mg tb Z :=
  ⟨CZ, mZ, fun c b hl C hC => by
    obtain ⟨C', T, q⟩ := hh (c, b) (PySem.mem_of_lookup hl)
    have e := T.at_.symm.trans hC
    cases e
    exact ⟨T.exc, q⟩⟩
theorem cat_mk {tb : List (Str × Bool)} {Z : Str} {CZ : Addr} (mZ : mg Z = some (.ref CZ)) (hh : ∀ p ∈ tb, ∃ C, Xc K mg p.1 C ∧ exmOne K (.ref C) (.ref CZ) = some p.2) : CatD K mg tb Z :=
  ⟨CZ, mZ, fun c b hl C hC => by
    obtain ⟨C', T, q⟩ := hh (c, b) (PySem.mem_of_lookup hl)
    have e := T.at_.symm.trans hC
    cases e
    exact q⟩
theorem fxd_mk {cs : List Str} {f : Str} (hh : ∀ c ∈ cs, ∃ C, Xc K mg c C ∧ findIn K (.ref C) f = some none) : FxD K mg cs f :=
  ⟨fun c hc C hC => by
    obtain ⟨C', T, q⟩ := hh c hc
    have e := T.at_.symm.trans hC
    cases e
    exact ⟨T.xf, q⟩⟩
theorem fld_mk {cs : List Str} {f : Str} (hh : ∀ c ∈ cs, ∃ C, mg c = some (.ref C) ∧ Cls K C ∧ NoAttr K C f) : FldD K mg cs f :=
  ⟨fun c hc C hC => by
    obtain ⟨C', a, b, q⟩ := hh c hc
    have e := a.symm.trans hC
    cases e
    exact ⟨b, q⟩⟩
theorem con_str {x y : Str} {t : Tok} (X : K.In h) (G : h.Ns mainGlobals mg) (a : nsIn K mainGlobals x = some (some (.str y t))) : ∃ u, mg x = some u ∧ RelV (.str y) u := ⟨_, mg_of X G a, ⟨t, rfl⟩⟩
theorem con_int {x : Str} {y : Int} {t : Tok} (X : K.In h) (G : h.Ns mainGlobals mg) (a : nsIn K mainGlobals x = some (some (.int y t))) : ∃ u, mg x = some u ∧ RelV (.int y) u := ⟨_, mg_of X G a, ⟨t, rfl⟩⟩
theorem law_at {x qual p : Str} {st : Stmt} {f fa : Addr} {oc : Value} {od an : Option Addr} {osl : Array (Option Value)} {kV doc pm cdv ct : Value} (X : K.In h) (G : h.Ns mainGlobals mg) (hfa : mg x = some (.ref fa)) (a : nsIn K mainGlobals x = some (some (.ref f)))
    (l : K.lookup f = some ⟨oc, od, .func (PySem.W.fnOf x qual (defArgs st) (defBody st) (defScope st) .none kV doc pm an cdv ct), osl⟩) (c : PySem.W.codeIn K cdv qual = true) (k : PySem.W.keepIn K (.ref f) = true)
    (b : ∀ (kV doc pm : Value) (an : Option Addr) (cdv ct : Value) (u : Value), bindArgs (PySem.W.fnOf x qual (defArgs st) (defBody st) (defScope st) .none kV doc pm an cdv ct) ⟨[u], []⟩ = pure [(p, u)]) :
    ∃ fd : FuncData, (∀ (s : Shared) (u : Value), BindsTo s fd ⟨[u], []⟩ [(p, u)]) ∧ Fun K x qual st fa fd := by
  have e := hfa.symm.trans (mg_of X G a)
  cases e
  exact ⟨_, fun s u => .of_eq (b _ _ _ _ _ _ u), fun_mk l c k⟩
end
end MD

namespace MD
open PySem L2
def topS (i : Nat) : Stmt := PySem.Challenge.pw_fullsides_k66_whole_one_way_worths.main.body.getD i (.Pass ⟨0, 0, 0, 0⟩)
def cs_gates : List Str := ["OneWayNet"]
def cs_inner : List Str := ["OneWayNet"]
def cs_many : List Str := ["OneWayNet"]
def cs_names : List Str := ["OneWayNet"]
def cs_streets : List Str := ["OneWayNet"]
def tb_BadLot : List (Str × Bool) := [("BadLot", true), ("BadName", false), ("BadStreet", false), ("DoubleName", false)]
def tb_TownError : List (Str × Bool) := [("BadLot", true), ("BadName", true), ("BadStreet", true), ("DoubleName", true)]
def tb_Unbalanced : List (Str × Bool) := [("BadLot", false), ("BadName", false), ("BadStreet", false), ("DoubleName", false)]
def xs_lot : List Str := ["BadLot"]
/-- what the top has written of the rest -/
structure Tx (P : Program) (w : World) (K : PySem.W.Frag) (mg : Str → Option Value) (base : Heap) : Prop where
  b_bool : mg "bool" = none
  b_int : mg "int" = none
  b_isinstance : mg "isinstance" = none
  b_len : mg "len" = none
  b_list : mg "list" = none
  b_min : mg "min" = none
  b_range : mg "range" = none
  b_sorted : mg "sorted" = none
  b_str : mg "str" = none
  b_sum : mg "sum" = none
  b_tuple : mg "tuple" = none
  c_LETTERS : ∃ u, mg "LETTERS" = some u ∧ RelV (.str "abcdefghijklmnopqrstuvwxyz") u
  c_SIGNS : ∃ u, mg "SIGNS" = some u ∧ RelV (.str "abcdefghijklmnopqrstuvwxyz0123456789") u
  c_LONGEST : ∃ u, mg "LONGEST" = some u ∧ RelV (.int 12) u
  f_gates : FldD K mg cs_gates "gates"
  f_inner : FldD K mg cs_inner "inner"
  f_many : FldD K mg cs_many "many"
  f_names : FldD K mg cs_names "names"
  f_streets : FldD K mg cs_streets "streets"
  k_BadLot : CatD K mg tb_BadLot "BadLot"
  i_TownError : IsD K mg tb_TownError "TownError"
  i_Unbalanced : IsD K mg tb_Unbalanced "Unbalanced"
  g_lot : FxD K mg xs_lot "lot"
  x_BadLot : XD1 P w K mg base "BadLot" "lot"
  x_BadName : XD1 P w K mg base "BadName" "name"
  x_BadStreet : XD1 P w K mg base "BadStreet" "index"
  x_DoubleName : XD1 P w K mg base "DoubleName" "name"
section
variable {P : Program} {w : World} {K : PySem.W.Frag} {mg : Str → Option Value} {base : Heap}
abbrev s_BadLot_init : Stmt := inClass (topS 5) 0
theorem sc_BadLot_init : FnScope ["self", "lot"] ["self", "lot"] (defScope s_BadLot_init) := ⟨rfl, rfl, rfl, by decide +kernel, rfl, by decide +kernel, by decide +kernel⟩
theorem x_BadLot {C : Addr} (T : Xc K mg "BadLot" C) (M : Mt K C "__init__" "BadLot.__init__" s_BadLot_init ["self", "lot"]) (n0 : PySem.W.findIn K (.ref C) "lot" = some none) : XD1 P w K mg base "BadLot" "lot" :=
  xd1_mk T M n0 sc_BadLot_init fun g cdv A outer s H E => pss_one (ps_ost (pv 0) (pv 1))
abbrev s_BadName_init : Stmt := inClass (topS 2) 0
theorem sc_BadName_init : FnScope ["self", "name"] ["self", "name"] (defScope s_BadName_init) := ⟨rfl, rfl, rfl, by decide +kernel, rfl, by decide +kernel, by decide +kernel⟩
theorem x_BadName {C : Addr} (T : Xc K mg "BadName" C) (M : Mt K C "__init__" "BadName.__init__" s_BadName_init ["self", "name"]) (n0 : PySem.W.findIn K (.ref C) "name" = some none) : XD1 P w K mg base "BadName" "name" :=
  xd1_mk T M n0 sc_BadName_init fun g cdv A outer s H E => pss_one (ps_ost (pv 0) (pv 1))
abbrev s_BadStreet_init : Stmt := inClass (topS 4) 0
theorem sc_BadStreet_init : FnScope ["self", "index"] ["self", "index"] (defScope s_BadStreet_init) := ⟨rfl, rfl, rfl, by decide +kernel, rfl, by decide +kernel, by decide +kernel⟩
theorem x_BadStreet {C : Addr} (T : Xc K mg "BadStreet" C) (M : Mt K C "__init__" "BadStreet.__init__" s_BadStreet_init ["self", "index"]) (n0 : PySem.W.findIn K (.ref C) "index" = some none) : XD1 P w K mg base "BadStreet" "index" :=
  xd1_mk T M n0 sc_BadStreet_init fun g cdv A outer s H E => pss_one (ps_ost (pv 0) (pv 1))
abbrev s_DoubleName_init : Stmt := inClass (topS 3) 0
theorem sc_DoubleName_init : FnScope ["self", "name"] ["self", "name"] (defScope s_DoubleName_init) := ⟨rfl, rfl, rfl, by decide +kernel, rfl, by decide +kernel, by decide +kernel⟩
theorem x_DoubleName {C : Addr} (T : Xc K mg "DoubleName" C) (M : Mt K C "__init__" "DoubleName.__init__" s_DoubleName_init ["self", "name"]) (n0 : PySem.W.findIn K (.ref C) "name" = some none) : XD1 P w K mg base "DoubleName" "name" :=
  xd1_mk T M n0 sc_DoubleName_init fun g cdv A outer s H E => pss_one (ps_ost (pv 0) (pv 1))
abbrev s_is_name : Stmt := topS 11
theorem sc_is_name : FnScope ["text", "sign"] ["text"] (defScope s_is_name) := ⟨rfl, rfl, rfl, by decide +kernel, rfl, by decide +kernel, by decide +kernel⟩
def lb_is_name_33 : SM := (sSeq (sIf (tB1 (e2 dNotIn (eVar 1) (eC (.str "abcdefghijklmnopqrstuvwxyz0123456789")))) (sSeq (sRet (eC (.bl false))) sNil) sNil) sNil)
def b_is_name : SM := (sSeq (sIf (tOr' (tNot' (tB1 (e1 (dIsi "str") (eVar 0)))) (tOr' (tB1 (e2 dLt (e1 dLen (eVar 0)) (eC (.int 1)))) (tB1 (e2 dGt (e1 dLen (eVar 0)) (eC (.int 12)))))) (sSeq (sRet (eC (.bl false))) sNil) sNil) (sSeq (sIf (tB1 (e2 dNotIn (e2 dIx (eVar 0) (eC (.int 0))) (eC (.str "abcdefghijklmnopqrstuvwxyz")))) (sSeq (sRet (eC (.bl false))) sNil) sNil) (sSeq (sFor (iSeq (eVar 0)) (gmName 1) lb_is_name_33) (sSeq (sRet (eC (.bl true))) sNil))))
def m_is_name : List D → R D := fnM 2 1 b_is_name
theorem w_is_name (T : Tx P w K mg base) (A_is_name : At K mg "is_name" "is_name" s_is_name ["text"]) : Dn P w K mg base "is_name" 2 ["text"] m_is_name :=
  dn_of (k := 1) A_is_name sc_is_name fun f cdv A outer s H E hr => (mss_cons (ms_if (mtw (mtw_or (mt_not (mt_val (ME.w (me_isi T.b_isinstance T.b_str (ME.w (mv 0)))))) (mtw_or (mt_cmp op_lt so_lt (ME.w (me_b1 call_lenX so_len T.b_len (ME.w (mv 0)))) (ME.w mint) (nomark _)) (mtw_or1 (mt_cmp op_gt so_gt (ME.w (me_b1 call_lenX so_len T.b_len (ME.w (mv 0)))) (ME.w (mgi (by rfl) T.c_LONGEST.choose_spec.1 T.c_LONGEST.choose_spec.2)) (nomark _)))))) (mss_cons (ms_ret mbl) (mss_nil (O := []) (O' := []))) (mss_nil (O' := []))) (mss_cons (ms_if (mt_cmp (op_notInX hr) so_notIn (ME.w (me_ix hr (ME.w (mv 0)) (ME.w mint))) (ME.w (mgs (by rfl) T.c_LETTERS.choose_spec.1 T.c_LETTERS.choose_spec.2)) (by rfl)) (mss_cons (ms_ret mbl) (mss_nil (O := []) (O' := []))) (mss_nil (O' := []))) (mss_cons (ms_for pass_own rfl (mi_seq (mv 0)) (mg_name 1 sc_is_name.nd) (mss_cons (ms_if (mt_cmp (op_notInX hr) so_notIn (ME.w (mv 1)) (ME.w (mgs (by rfl) T.c_SIGNS.choose_spec.1 T.c_SIGNS.choose_spec.2)) (by rfl)) (mss_cons (ms_ret mbl) (mss_nil (O := []) (O' := []))) (mss_nil (O' := []))) (mss_nil (O' := [])))) (mss_cons (ms_ret mbl) (mss_nil (O := []) (O' := []))))))

abbrev s_check_names : Stmt := topS 12
theorem sc_check_names : FnScope ["names", "name", "found"] ["names"] (defScope s_check_names) := ⟨rfl, rfl, rfl, by decide +kernel, rfl, by decide +kernel, by decide +kernel⟩
def lb_check_names_42 : SM := (sSeq (sIf (tB1 (e2 dIn (eVar 1) (eVar 2))) (sSeq (sRaise1 "DoubleName" "name" (eVar 1)) sNil) sNil) (sSeq (sApp 2 (eVar 1)) sNil))
def lb_check_names_38 : SM := (sSeq (sIf (tNot' (tB1 (eCall m_is_name (aCons (eVar 1) aNil)))) (sSeq (sRaise1 "BadName" "name" (eVar 1)) sNil) sNil) sNil)
def b_check_names : SM := (sSeq (sFor (iSeq (eVar 0)) (gmName 1) lb_check_names_38) (sSeq (sSetF 2 (eLst aNil)) (sSeq (sFor (iSeq (eVar 0)) (gmName 1) lb_check_names_42) (sSeq (sRet (e1 dTup (eVar 2))) sNil))))
def m_check_names : List D → R D := fnM 3 1 b_check_names
theorem w_check_names (T : Tx P w K mg base) (A_check_names : At K mg "check_names" "check_names" s_check_names ["names"]) (D_is_name : Dn P w K mg base "is_name" 2 ["text"] m_is_name) : Dn P w K mg base "check_names" 3 ["names"] m_check_names :=
  dn_of (k := 2) A_check_names sc_check_names fun f cdv A outer s H E hr => (mss_cons (ms_for pass_own rfl (mi_seq (mv 0)) (mg_name 1 sc_check_names.nd) (mss_cons (ms_if (mt_not (mt_val (ME.w (me_cd D_is_name hr pass_def (man_cons (mv 1) man_nil))))) (mss_cons (ms_raise1 (k := 0) T.x_BadName.toC rfl (hr.mono (by decide)) (takes_of rfl rfl rfl rfl) (mv 1)) (mss_nil (O := []) (O' := []))) (mss_nil (O' := []))) (mss_nil (O' := [])))) (mss_cons (ms_setF 2 sc_check_names.nd (mf_lst man_nil)) (mss_cons (ms_for pass_own rfl (mi_seq (mv 0)) (mg_name 1 sc_check_names.nd) (mss_cons (ms_if (mt_cmp (op_inX hr) so_in (ME.w (mv 1)) (mo 2) (by rfl)) (mss_cons (ms_raise1 (k := 0) T.x_DoubleName.toC rfl (hr.mono (by decide)) (takes_of rfl rfl rfl rfl) (mv 1)) (mss_nil (O := [2]) (O' := [2]))) (mss_nil (O' := [2]))) (mss_cons (ms_app 2 (mv 1)) (mss_nil (O' := [2]))))) (mss_cons (ms_ret (me_y1 call_tuple_of so_tup T.b_tuple (mo 2))) (mss_nil (O := []) (O' := []))))))

abbrev s_is_whole : Stmt := topS 14
theorem sc_is_whole : FnScope ["value"] ["value"] (defScope s_is_whole) := ⟨rfl, rfl, rfl, by decide +kernel, rfl, by decide +kernel, by decide +kernel⟩
def b_is_whole : SM := (sSeq (sRet (eAnd (e1 (dIsi "int") (eVar 0)) (eNot (e1 (dIsi "bool") (eVar 0))))) sNil)
def m_is_whole : List D → R D := fnM 1 1 b_is_whole
theorem w_is_whole (T : Tx P w K mg base) (A_is_whole : At K mg "is_whole" "is_whole" s_is_whole ["value"]) : Dn P w K mg base "is_whole" 2 ["value"] m_is_whole :=
  dn_of (k := 1) A_is_whole sc_is_whole fun f cdv A outer s H E hr => (mss_cons (ms_ret (me_and (ME.w (me_isi T.b_isinstance T.b_int (ME.w (mv 0)))) (me_one (me_not (ME.w (me_isi T.b_isinstance T.b_bool (ME.w (mv 0)))))))) (mss_nil (O := []) (O' := [])))

abbrev s_is_sequence : Stmt := topS 15
theorem sc_is_sequence : FnScope ["value"] ["value"] (defScope s_is_sequence) := ⟨rfl, rfl, rfl, by decide +kernel, rfl, by decide +kernel, by decide +kernel⟩
def b_is_sequence : SM := (sSeq (sRet (e1 (dIsi2 "list" "tuple") (eVar 0))) sNil)
def m_is_sequence : List D → R D := fnM 1 1 b_is_sequence
theorem w_is_sequence (T : Tx P w K mg base) (A_is_sequence : At K mg "is_sequence" "is_sequence" s_is_sequence ["value"]) : Dn P w K mg base "is_sequence" 2 ["value"] m_is_sequence :=
  dn_of (k := 1) A_is_sequence sc_is_sequence fun f cdv A outer s H E hr => (mss_cons (ms_ret (me_isi2 T.b_isinstance T.b_list T.b_tuple (ME.w (mv 0)))) (mss_nil (O := []) (O' := [])))

abbrev s_are_whole : Stmt := topS 16
theorem sc_are_whole : FnScope ["values", "value"] ["values"] (defScope s_are_whole) := ⟨rfl, rfl, rfl, by decide +kernel, rfl, by decide +kernel, by decide +kernel⟩
def lb_are_whole_53 : SM := (sSeq (sIf (tNot' (tB1 (eCall m_is_whole (aCons (eVar 1) aNil)))) (sSeq (sRet (eC (.bl false))) sNil) sNil) sNil)
def b_are_whole : SM := (sSeq (sFor (iSeq (eVar 0)) (gmName 1) lb_are_whole_53) (sSeq (sRet (eC (.bl true))) sNil))
def m_are_whole : List D → R D := fnM 2 1 b_are_whole
theorem w_are_whole (T : Tx P w K mg base) (A_are_whole : At K mg "are_whole" "are_whole" s_are_whole ["values"]) (D_is_whole : Dn P w K mg base "is_whole" 2 ["value"] m_is_whole) : Dn P w K mg base "are_whole" 3 ["values"] m_are_whole :=
  dn_of (k := 2) A_are_whole sc_are_whole fun f cdv A outer s H E hr => (mss_cons (ms_for pass_own rfl (mi_seq (mv 0)) (mg_name 1 sc_are_whole.nd) (mss_cons (ms_if (mt_not (mt_val (ME.w (me_cd D_is_whole hr pass_def (man_cons (mv 1) man_nil))))) (mss_cons (ms_ret mbl) (mss_nil (O := []) (O' := []))) (mss_nil (O' := []))) (mss_nil (O' := [])))) (mss_cons (ms_ret mbl) (mss_nil (O := []) (O' := []))))

abbrev s_is_lot : Stmt := topS 17
theorem sc_is_lot : FnScope ["value"] ["value"] (defScope s_is_lot) := ⟨rfl, rfl, rfl, by decide +kernel, rfl, by decide +kernel, by decide +kernel⟩
def b_is_lot : SM := (sSeq (sRet (eAnd (eCall m_is_whole (aCons (eVar 0) aNil)) (e2 dGe (eVar 0) (eC (.int 0))))) sNil)
def m_is_lot : List D → R D := fnM 1 1 b_is_lot
theorem w_is_lot (T : Tx P w K mg base) (A_is_lot : At K mg "is_lot" "is_lot" s_is_lot ["value"]) (D_is_whole : Dn P w K mg base "is_whole" 2 ["value"] m_is_whole) : Dn P w K mg base "is_lot" 3 ["value"] m_is_lot :=
  dn_of (k := 2) A_is_lot sc_is_lot fun f cdv A outer s H E hr => (mss_cons (ms_ret (me_and (ME.w (me_cd D_is_whole hr pass_def (man_cons (mv 0) man_nil))) (me_one (me_cmp op_ge so_ge (ME.w (mv 0)) (ME.w mint) (nomark _))))) (mss_nil (O := []) (O' := [])))

abbrev s_is_street : Stmt := topS 19
theorem sc_is_street : FnScope ["street", "count", "one", "two", "lanes"] ["street", "count"] (defScope s_is_street) := ⟨rfl, rfl, rfl, by decide +kernel, rfl, by decide +kernel, by decide +kernel⟩
def b_is_street : SM := (sSeq (sIf (tOr' (tNot' (tB1 (eCall m_is_sequence (aCons (eVar 0) aNil)))) (tOr' (tB1 (e2 dNe (e1 dLen (eVar 0)) (eC (.int 3)))) (tNot' (tB1 (eCall m_are_whole (aCons (eVar 0) aNil)))))) (sSeq (sRet (eC (.bl false))) sNil) sNil) (sSeq (sUnp (gmTup [2, 3, 4]) (eVar 0)) (sSeq (sRet (eAnd (eChain dLe dLt (eC (.int 0)) (eVar 2) (eVar 1)) (eAnd (eChain dLe dLt (eC (.int 0)) (eVar 3) (eVar 1)) (eAnd (e2 dNe (eVar 2) (eVar 3)) (e2 dGe (eVar 4) (eC (.int 1))))))) sNil)))
def m_is_street : List D → R D := fnM 5 2 b_is_street
theorem w_is_street (T : Tx P w K mg base) (A_is_street : At K mg "is_street" "is_street" s_is_street ["street", "count"]) (D_is_sequence : Dn P w K mg base "is_sequence" 2 ["value"] m_is_sequence) (D_are_whole : Dn P w K mg base "are_whole" 3 ["values"] m_are_whole) : Dn P w K mg base "is_street" 4 ["street", "count"] m_is_street :=
  dn_of (k := 3) A_is_street sc_is_street fun f cdv A outer s H E hr => (mss_cons (ms_if (mtw (mtw_or (mt_not (mt_val (ME.w (me_cd D_is_sequence hr pass_def (man_cons (mv 0) man_nil))))) (mtw_or (mt_cmp (op_ne2 hr) so_ne (ME.w (me_b1 call_lenX so_len T.b_len (ME.w (mv 0)))) (ME.w mint) (nomark _)) (mtw_or1 (mt_not (mt_val (ME.w (me_cd D_are_whole hr pass_def (man_cons (mv 0) man_nil))))))))) (mss_cons (ms_ret mbl) (mss_nil (O := []) (O' := []))) (mss_nil (O' := []))) (mss_cons (ms_unp (mg_tup rfl (mgs_cons 2 sc_is_street.nd (mgs_cons 3 sc_is_street.nd (mgs_cons 4 sc_is_street.nd mgs_nil)))) (mv 0)) (mss_cons (ms_ret (me_and (ME.w (me_chain op_le so_le op_lt so_lt (ME.w mint) (ME.w (mv 2)) (ME.w (mv 1)))) (me_and (ME.w (me_chain op_le so_le op_lt so_lt (ME.w mint) (ME.w (mv 3)) (ME.w (mv 1)))) (me_and (ME.w (me_cmp (op_ne2 hr) so_ne (ME.w (mv 2)) (ME.w (mv 3)) (nomark _))) (me_one (me_cmp op_ge so_ge (ME.w (mv 4)) (ME.w mint) (nomark _))))))) (mss_nil (O := []) (O' := [])))))

abbrev s_gate_lot : Stmt := topS 20
theorem sc_gate_lot : FnScope ["net"] ["net"] (defScope s_gate_lot) := ⟨rfl, rfl, rfl, by decide +kernel, rfl, by decide +kernel, by decide +kernel⟩
def b_gate_lot : SM := (sSeq (sRet (e2 dSub (e2 dShl (eC (.int 1)) (e1 (dFld cs_many "many") (eVar 0))) (eC (.int 1)))) sNil)
def m_gate_lot : List D → R D := fnM 1 1 b_gate_lot
theorem w_gate_lot (T : Tx P w K mg base) (A_gate_lot : At K mg "gate_lot" "gate_lot" s_gate_lot ["net"]) : Dn P w K mg base "gate_lot" 2 ["net"] m_gate_lot :=
  dn_of (k := 1) A_gate_lot sc_gate_lot fun f cdv A outer s H E hr => (mss_cons (ms_ret (me_bin op_sub so_sub (ME.w (me_bin op_shl so_shl (ME.w mint) (ME.w (me_fld T.f_many.toC (ME.w (mv 0)))))) (ME.w mint))) (mss_nil (O := []) (O' := [])))

abbrev s_check_proper : Stmt := topS 23
theorem sc_check_proper : FnScope ["net", "lot"] ["net", "lot"] (defScope s_check_proper) := ⟨rfl, rfl, rfl, by decide +kernel, rfl, by decide +kernel, by decide +kernel⟩
def b_check_proper : SM := (sSeq (sIf (tOr' (tNot' (tB1 (eCall m_is_lot (aCons (eVar 1) aNil)))) (tNot' (tB1 (eChain dLt dLt (eC (.int 0)) (eVar 1) (eCall m_gate_lot (aCons (eVar 0) aNil)))))) (sSeq (sRaise1 "BadLot" "lot" (eVar 1)) sNil) sNil) sNil)
def m_check_proper : List D → R D := fnM 2 2 b_check_proper
theorem w_check_proper (T : Tx P w K mg base) (A_check_proper : At K mg "check_proper" "check_proper" s_check_proper ["net", "lot"]) (D_is_lot : Dn P w K mg base "is_lot" 3 ["value"] m_is_lot) (D_gate_lot : Dn P w K mg base "gate_lot" 2 ["net"] m_gate_lot) : Dn P w K mg base "check_proper" 4 ["net", "lot"] m_check_proper :=
  dn_of (k := 3) A_check_proper sc_check_proper fun f cdv A outer s H E hr => (mss_cons (ms_if (mtw (mtw_or (mt_not (mt_val (ME.w (me_cd D_is_lot hr pass_def (man_cons (mv 1) man_nil))))) (mtw_or1 (mt_not (mt_chain op_lt so_lt op_lt so_lt (ME.w mint) (ME.w (mv 1)) (ME.w (me_cd D_gate_lot hr pass_def (man_cons (mv 0) man_nil)))))))) (mss_cons (ms_raise1 (k := 0) T.x_BadLot.toC rfl (hr.mono (by decide)) (takes_of rfl rfl rfl rfl) (mv 1)) (mss_nil (O := []) (O' := []))) (mss_nil (O' := []))) (mss_nil (O' := [])))

abbrev s_has : Stmt := topS 25
theorem sc_has : FnScope ["lot", "number"] ["lot", "number"] (defScope s_has) := ⟨rfl, rfl, rfl, by decide +kernel, rfl, by decide +kernel, by decide +kernel⟩
def b_has : SM := (sSeq (sRet (e2 dEq (e2 dAnd (e2 dShr (eVar 0) (eVar 1)) (eC (.int 1))) (eC (.int 1)))) sNil)
def m_has : List D → R D := fnM 2 2 b_has
theorem w_has (T : Tx P w K mg base) (A_has : At K mg "has" "has" s_has ["lot", "number"]) : Dn P w K mg base "has" 2 ["lot", "number"] m_has :=
  dn_of (k := 1) A_has sc_has fun f cdv A outer s H E hr => (mss_cons (ms_ret (me_cmp (op_eq2 hr) so_eq (ME.w (me_bin op_and so_and (ME.w (me_bin op_shr so_shr (ME.w (mv 0)) (ME.w (mv 1)))) (ME.w mint))) (ME.w mint) (nomark _))) (mss_nil (O := []) (O' := [])))

abbrev s_sub_lots : Stmt := topS 26
theorem sc_sub_lots : GScope ["lot", "part"] ["lot"] (defScope s_sub_lots) := ⟨rfl, rfl, rfl, by decide +kernel, rfl, by decide +kernel, by decide +kernel⟩
def b_sub_lots : GSM := (gSeq (gPl (sSet 1 (eC (.int 0)))) (gSeq (gWhile (tB1 (e2 dNe (eVar 1) (eVar 0))) (gSeq (gYield (eVar 1)) (gSeq (gPl (sSet 1 (e2 dAnd (e2 dSub (eVar 1) (eVar 0)) (eVar 0)))) gNil)) 1000000) (gSeq (gYield (eVar 0)) gNil)))
def g_sub_lots : List D → R (List D) := gnM 2 1 b_sub_lots
theorem w_sub_lots (T : Tx P w K mg base) (A_sub_lots : At K mg "sub_lots" "sub_lots" s_sub_lots ["lot"]) : Gn P w K mg base "sub_lots" 2 ["lot"] g_sub_lots :=
  gn_of (k := 1) A_sub_lots sc_sub_lots fun f cdv A outer s H E pn hr => (gys_cons (gy_pl (E := fun _ => E) (ms_set 1 sc_sub_lots.nd mint)) (gys_cons (gy_while (E := fun _ => E) 1000000 owns_gcx (mt_cmp (op_ne2 hr) so_ne (ME.w (mv 1)) (ME.w (mv 0)) (nomark _)) (gys_cons (gy_yield (E := fun _ => E) (mv 1)) (gys_cons (gy_pl (E := fun _ => E) (ms_set 1 sc_sub_lots.nd (me_bin op_and so_and (ME.w (me_bin op_sub so_sub (ME.w (mv 1)) (ME.w (mv 0)))) (ME.w (mv 0))))) gys_nil))) (gys_cons (gy_yield (E := fun _ => E) (mv 0)) gys_nil)))

abbrev s_lanes_leaving : Stmt := topS 28
theorem sc_lanes_leaving : FnScope ["net", "lot", "start", "goal", "lanes"] ["net", "lot"] (defScope s_lanes_leaving) := ⟨rfl, rfl, rfl, by decide +kernel, rfl, by decide +kernel, by decide +kernel⟩
def b_lanes_leaving : SM := (sSeq (sRet (e1 dSum (eLc (iSeq (e1 (dFld cs_streets "streets") (eVar 0))) (gmTup [2, 3, 4]) (tAnd' (tB1 (eCall m_has (aCons (eVar 1) (aCons (eVar 2) aNil)))) (tNot' (tB1 (eCall m_has (aCons (eVar 1) (aCons (eVar 3) aNil)))))) (eVar 4) [2, 3, 4]))) sNil)
def m_lanes_leaving : List D → R D := fnM 5 2 b_lanes_leaving
theorem w_lanes_leaving (T : Tx P w K mg base) (A_lanes_leaving : At K mg "lanes_leaving" "lanes_leaving" s_lanes_leaving ["net", "lot"]) (D_has : Dn P w K mg base "has" 2 ["lot", "number"] m_has) : Dn P w K mg base "lanes_leaving" 3 ["net", "lot"] m_lanes_leaving :=
  dn_of (k := 2) A_lanes_leaving sc_lanes_leaving fun f cdv A outer s H E hr => (mss_cons (ms_ret (me_b1 (cr_sum rfl) so_sum T.b_sum (MF.w (mf_lc rfl sc_lanes_leaving.nd (mi_seq (me_fld T.f_streets.toC (ME.w (mv 0)))) (blkOk_by (own := [("start", 2), ("goal", 3), ("lanes", 4)]) (N := ["net", "lot", "start", "goal", "lanes"]) (sc := defScope s_lanes_leaving) (by decide +kernel)) (fun _ _ _ _ _ => (mg_tup rfl (mgs_cons 2 sc_lanes_leaving.nd (mgs_cons 3 sc_lanes_leaving.nd (mgs_cons 4 sc_lanes_leaving.nd mgs_nil))))) (fun _ _ _ _ _ => (mts_one (mtw (mtw_and (mt_val (ME.w (me_cd D_has hr pass_blk (man_cons (mv 1) (man_cons (mv 2) man_nil))))) (mtw_and1 (mt_not (mt_val (ME.w (me_cd D_has hr pass_blk (man_cons (mv 1) (man_cons (mv 3) man_nil))))))))))) (fun _ _ _ _ _ => (mv 4)))))) (mss_nil (O := []) (O' := [])))

abbrev s_lanes_coming : Stmt := topS 29
theorem sc_lanes_coming : FnScope ["net", "lot", "start", "goal", "lanes"] ["net", "lot"] (defScope s_lanes_coming) := ⟨rfl, rfl, rfl, by decide +kernel, rfl, by decide +kernel, by decide +kernel⟩
def b_lanes_coming : SM := (sSeq (sRet (e1 dSum (eLc (iSeq (e1 (dFld cs_streets "streets") (eVar 0))) (gmTup [2, 3, 4]) (tAnd' (tB1 (eCall m_has (aCons (eVar 1) (aCons (eVar 3) aNil)))) (tNot' (tB1 (eCall m_has (aCons (eVar 1) (aCons (eVar 2) aNil)))))) (eVar 4) [2, 3, 4]))) sNil)
def m_lanes_coming : List D → R D := fnM 5 2 b_lanes_coming
theorem w_lanes_coming (T : Tx P w K mg base) (A_lanes_coming : At K mg "lanes_coming" "lanes_coming" s_lanes_coming ["net", "lot"]) (D_has : Dn P w K mg base "has" 2 ["lot", "number"] m_has) : Dn P w K mg base "lanes_coming" 3 ["net", "lot"] m_lanes_coming :=
  dn_of (k := 2) A_lanes_coming sc_lanes_coming fun f cdv A outer s H E hr => (mss_cons (ms_ret (me_b1 (cr_sum rfl) so_sum T.b_sum (MF.w (mf_lc rfl sc_lanes_coming.nd (mi_seq (me_fld T.f_streets.toC (ME.w (mv 0)))) (blkOk_by (own := [("start", 2), ("goal", 3), ("lanes", 4)]) (N := ["net", "lot", "start", "goal", "lanes"]) (sc := defScope s_lanes_coming) (by decide +kernel)) (fun _ _ _ _ _ => (mg_tup rfl (mgs_cons 2 sc_lanes_coming.nd (mgs_cons 3 sc_lanes_coming.nd (mgs_cons 4 sc_lanes_coming.nd mgs_nil))))) (fun _ _ _ _ _ => (mts_one (mtw (mtw_and (mt_val (ME.w (me_cd D_has hr pass_blk (man_cons (mv 1) (man_cons (mv 3) man_nil))))) (mtw_and1 (mt_not (mt_val (ME.w (me_cd D_has hr pass_blk (man_cons (mv 1) (man_cons (mv 2) man_nil))))))))))) (fun _ _ _ _ _ => (mv 4)))))) (mss_nil (O := []) (O' := [])))

abbrev s_merged_one_way : Stmt := topS 37
theorem sc_merged_one_way : FnScope ["streets", "count", "found", "k", "start", "goal", "lanes", "key"] ["streets", "count"] (defScope s_merged_one_way) := ⟨rfl, rfl, rfl, by decide +kernel, rfl, by decide +kernel, by decide +kernel⟩
def lb_merged_one_way_107 : SM := (sSeq (sIf (tNot' (tB1 (eCall m_is_street (aCons (e2 dIx (eVar 0) (eVar 3)) (aCons (eVar 1) aNil))))) (sSeq (sRaise1 "BadStreet" "index" (eVar 3)) sNil) sNil) (sSeq (sUnp (gmTup [4, 5, 6]) (e2 dIx (eVar 0) (eVar 3))) (sSeq (sPut 2 (eTup (aCons (eVar 4) (aCons (eVar 5) aNil))) (e2 dAdd (eGet (eVar 2) (eTup (aCons (eVar 4) (aCons (eVar 5) aNil))) (eC (.int 0))) (eVar 6))) sNil)))
def b_merged_one_way : SM := (sSeq (sSetF 2 (eC (.dct []))) (sSeq (sFor (iRng (e1 dLen (eVar 0))) (gmName 3) lb_merged_one_way_107) (sSeq (sRet (e1 dTup (eLc (iSeq (e1 dSorted (e1 dList (eVar 2)))) (gmName 7) tTrue (eTup (aCons (e2 dIx (eVar 7) (eC (.int 0))) (aCons (e2 dIx (eVar 7) (eC (.int 1))) (aCons (e2 dIx (eVar 2) (eVar 7)) aNil)))) [7]))) sNil)))
def m_merged_one_way : List D → R D := fnM 8 2 b_merged_one_way
theorem w_merged_one_way (T : Tx P w K mg base) (A_merged_one_way : At K mg "merged_one_way" "merged_one_way" s_merged_one_way ["streets", "count"]) (D_is_street : Dn P w K mg base "is_street" 4 ["street", "count"] m_is_street) : Dn P w K mg base "merged_one_way" 5 ["streets", "count"] m_merged_one_way :=
  dn_of (k := 4) A_merged_one_way sc_merged_one_way fun f cdv A outer s H E hr => (mss_cons (ms_setF 2 sc_merged_one_way.nd mf_dT) (mss_cons (ms_for pass_own rfl (mi_rng1 T.b_range (ME.w (me_b1 call_lenX so_len T.b_len (ME.w (mv 0))))) (mg_name 3 sc_merged_one_way.nd) (mss_cons (ms_if (mt_not (mt_val (ME.w (me_cd D_is_street hr pass_def (man_cons (me_ix hr (ME.w (mv 0)) (ME.w (mv 3))) (man_cons (mv 1) man_nil)))))) (mss_cons (ms_raise1 (k := 0) T.x_BadStreet.toC rfl (hr.mono (by decide)) (takes_of rfl rfl rfl rfl) (mv 3)) (mss_nil (O := [2]) (O' := [2]))) (mss_nil (O' := [2]))) (mss_cons (ms_unp (mg_tup rfl (mgs_cons 4 sc_merged_one_way.nd (mgs_cons 5 sc_merged_one_way.nd (mgs_cons 6 sc_merged_one_way.nd mgs_nil)))) (me_ix hr (ME.w (mv 0)) (ME.w (mv 3)))) (mss_cons (ms_put 2 hr (ME.w (me_tup (man_cons (mv 4) (man_cons (mv 5) man_nil)))) (me_bin op_add3 so_add (ME.w (me_get hr (mo 2) (ME.w (me_tup (man_cons (mv 4) (man_cons (mv 5) man_nil)))) mint)) (ME.w (mv 6)))) (mss_nil (O' := [2])))))) (mss_cons (ms_ret (me_y1 call_tuple_of so_tup T.b_tuple (MF.w (mf_lc rfl sc_merged_one_way.nd (mi_seq (MF.k (mf_b1 cr_sortedX so_sortedF T.b_sorted (MF.w (mf_y1 (call_listX rfl) so_listF T.b_list (mo 2)))))) (blkOk_by (own := [("key", 7)]) (N := ["streets", "count", "found", "k", "start", "goal", "lanes", "key"]) (sc := defScope s_merged_one_way) (by decide +kernel)) (fun _ _ _ _ _ => (mg_name 7 sc_merged_one_way.nd)) (fun _ _ _ _ _ => mts_nil) (fun _ _ _ _ _ => (me_tup (man_cons (me_ix hr (ME.w (mv 7)) (ME.w mint)) (man_cons (me_ix hr (ME.w (mv 7)) (ME.w mint)) (man_cons (me_ix hr (mo 2) (ME.w (mv 7))) man_nil))))))))) (mss_nil (O := []) (O' := [])))))

abbrev s_OneWayNet_init : Stmt := inClass (topS 38) 0
theorem sc_OneWayNet_init : FnScope ["self", "gates", "inner", "streets", "names"] ["self", "gates", "inner", "streets"] (defScope s_OneWayNet_init) := ⟨rfl, rfl, rfl, by decide +kernel, rfl, by decide +kernel, by decide +kernel⟩
def b_OneWayNet_init : SM := (sSeq (sSet 4 (eCall m_check_names (aCons (e2 dAdd (e1 dList (eVar 1)) (e1 dList (eVar 2))) aNil))) (sSeq (sFldS 0 cs_many "many" (e1 dLen (eVar 1))) (sSeq (sFldS 0 cs_gates "gates" (eSl dSl (eVar 4) oNone (oSome (e1 (dFld cs_many "many") (eVar 0))))) (sSeq (sFldS 0 cs_inner "inner" (eSl dSl (eVar 4) (oSome (e1 (dFld cs_many "many") (eVar 0))) oNone)) (sSeq (sFldS 0 cs_names "names" (eVar 4)) (sSeq (sFldS 0 cs_streets "streets" (eCall m_merged_one_way (aCons (eVar 3) (aCons (e1 dLen (eVar 4)) aNil)))) sNil))))))
def m_OneWayNet : List D → R D := fnI "OneWayNet" 5 3 b_OneWayNet_init
theorem w_OneWayNet (T : Tx P w K mg base) {C : Addr} (hC : mg "OneWayNet" = some (.ref C)) (mk : PySem.W.makesIn K C = true) (kc : PySem.W.keepIn K (.ref C) = true) (M : Mt K C "__init__" "OneWayNet.__init__" s_OneWayNet_init ["self", "gates", "inner", "streets"]) (D_check_names : Dn P w K mg base "check_names" 3 ["names"] m_check_names) (D_merged_one_way : Dn P w K mg base "merged_one_way" 5 ["streets", "count"] m_merged_one_way) : Cn P w K mg base "OneWayNet" 6 3 ["self", "gates", "inner", "streets"] m_OneWayNet := by
  obtain ⟨f, fd, a, i, _, F, hb⟩ := M.ex
  exact ⟨C, f, fd, ⟨mk, a, i, kc⟩, init_ok (k := 5) F sc_OneWayNet_init 3 rfl fun cdv A outer s H E hr => (mss_cons (ms_set 4 sc_OneWayNet_init.nd (me_cd D_check_names hr pass_def (man_cons (me_bin op_add3 so_add (MF.w (mf_y1 (call_listX rfl) so_listF T.b_list (ME.w (mv 1)))) (MF.w (mf_y1 (call_listX rfl) so_listF T.b_list (ME.w (mv 2))))) man_nil))) (mss_cons (ms_fldS 0 T.f_many.toC (me_b1 call_lenX so_len T.b_len (ME.w (mv 1)))) (mss_cons (ms_fldS 0 T.f_gates.toC (me_sl (ME.w (mv 4)) mo_none (mo_some (ME.w (me_fld T.f_many.toC (mo 0)))))) (mss_cons (ms_fldS 0 T.f_inner.toC (me_sl (ME.w (mv 4)) (mo_some (ME.w (me_fld T.f_many.toC (mo 0)))) mo_none)) (mss_cons (ms_fldS 0 T.f_names.toC (mv 4)) (mss_cons (ms_fldS 0 T.f_streets.toC (me_cd D_merged_one_way hr pass_def (man_cons (mv 3) (man_cons (me_b1 call_lenX so_len T.b_len (ME.w (mv 4))) man_nil)))) (mss_nil (O' := [0])))))))), hC, hb⟩

abbrev s_OneWayNet_len : Stmt := inClass (topS 38) 1
theorem sc_OneWayNet_len : FnScope ["self"] ["self"] (defScope s_OneWayNet_len) := ⟨rfl, rfl, rfl, by decide +kernel, rfl, by decide +kernel, by decide +kernel⟩
def b_OneWayNet_len : SM := (sSeq (sRet (e1 dLen (e1 (dFld cs_names "names") (eVar 0)))) sNil)
def m_OneWayNet_len : List D → R D := fnM 1 1 b_OneWayNet_len
theorem w_OneWayNet_len (T : Tx P w K mg base) {C : Addr} (hC : mg "OneWayNet" = some (.ref C)) (M : Mt K C "__len__" "OneWayNet.__len__" s_OneWayNet_len ["self"]) : LenD P w K mg base "OneWayNet" 2 m_OneWayNet_len := by
  obtain ⟨f, fd, hl, hf, _, F, hb⟩ := M.ex
  exact ⟨C, f, fd, hC, hl, hf, fn_ok (k := 1) F sc_OneWayNet_len fun cdv A outer s H E hr => (mss_cons (ms_ret (me_b1 call_lenX so_len T.b_len (ME.w (me_fld T.f_names.toC (ME.w (mv 0)))))) (mss_nil (O := []) (O' := []))), hb⟩

abbrev s_law_whole : Stmt := topS 40
theorem sc_law_whole : FnScope ["value"] ["value"] (defScope s_law_whole) := ⟨rfl, rfl, rfl, by decide +kernel, rfl, by decide +kernel, by decide +kernel⟩
def b_law_whole : SM := (sSeq (sRet (eAnd (e1 (dIsi "int") (eVar 0)) (eNot (e1 (dIsi "bool") (eVar 0))))) sNil)
def m_law_whole : List D → R D := fnM 1 1 b_law_whole
theorem w_law_whole (T : Tx P w K mg base) (A_law_whole : At K mg "_law_whole" "_law_whole" s_law_whole ["value"]) : Dn P w K mg base "_law_whole" 2 ["value"] m_law_whole :=
  dn_of (k := 1) A_law_whole sc_law_whole fun f cdv A outer s H E hr => (mss_cons (ms_ret (me_and (ME.w (me_isi T.b_isinstance T.b_int (ME.w (mv 0)))) (me_one (me_not (ME.w (me_isi T.b_isinstance T.b_bool (ME.w (mv 0)))))))) (mss_nil (O := []) (O' := [])))

abbrev s_law_cell : Stmt := topS 41
theorem sc_law_cell : FnScope ["script", "k", "seed", "cell"] ["script", "k"] (defScope s_law_cell) := ⟨rfl, rfl, rfl, by decide +kernel, rfl, by decide +kernel, by decide +kernel⟩
def lb_law_cell_140 : SM := (sSeq (sSet 2 (e2 dMod (e1 dInt (e2 dAdd (e2 dMul (eVar 2) (eC (.int 33))) (e2 dMod (e1 dInt (eVar 3)) (eC (.int 999983))))) (eC (.int 999983)))) sNil)
def b_law_cell : SM := (sSeq (sIf (tB1 (e2 dLt (eVar 1) (e1 dLen (eVar 0)))) (sSeq (sRet (e1 dInt (e2 dIx (eVar 0) (eVar 1)))) sNil) sNil) (sSeq (sSet 2 (eC (.int 7))) (sSeq (sFor (iSeq (eVar 0)) (gmName 3) lb_law_cell_140) (sSeq (sRet (e2 dMod (e1 dInt (e2 dMul (e2 dMul (e2 dAdd (eVar 2) (eC (.int 11))) (e2 dAdd (eVar 1) (eC (.int 5)))) (eC (.int 48271)))) (eC (.int 2147483647)))) sNil))))
def m_law_cell : List D → R D := fnM 4 2 b_law_cell
theorem w_law_cell (T : Tx P w K mg base) (A_law_cell : At K mg "_law_cell" "_law_cell" s_law_cell ["script", "k"]) : Dn P w K mg base "_law_cell" 2 ["script", "k"] m_law_cell :=
  dn_of (k := 1) A_law_cell sc_law_cell fun f cdv A outer s H E hr => (mss_cons (ms_if (mt_cmp op_lt so_lt (ME.w (mv 1)) (ME.w (me_b1 call_lenX so_len T.b_len (ME.w (mv 0)))) (nomark _)) (mss_cons (ms_ret (me_y1 call_int1 so_int1 T.b_int (ME.w (me_ix hr (ME.w (mv 0)) (ME.w (mv 1)))))) (mss_nil (O := []) (O' := []))) (mss_nil (O' := []))) (mss_cons (ms_set 2 sc_law_cell.nd mint) (mss_cons (ms_for pass_own rfl (mi_seq (mv 0)) (mg_name 3 sc_law_cell.nd) (mss_cons (ms_set 2 sc_law_cell.nd (me_bin op_mod so_mod (ME.w (me_y1 call_int1 so_int1 T.b_int (ME.w (me_bin op_add3 so_add (ME.w (me_bin op_mul3 so_mul (ME.w (mv 2)) (ME.w mint))) (ME.w (me_bin op_mod so_mod (ME.w (me_y1 call_int1 so_int1 T.b_int (ME.w (mv 3)))) (ME.w mint))))))) (ME.w mint))) (mss_nil (O' := [])))) (mss_cons (ms_ret (me_bin op_mod so_mod (ME.w (me_y1 call_int1 so_int1 T.b_int (ME.w (me_bin op_mul3 so_mul (ME.w (me_bin op_mul3 so_mul (ME.w (me_bin op_add3 so_add (ME.w (mv 2)) (ME.w mint))) (ME.w (me_bin op_add3 so_add (ME.w (mv 1)) (ME.w mint))))) (ME.w mint))))) (ME.w mint))) (mss_nil (O := []) (O' := []))))))

abbrev s_law_digits : Stmt := topS 42
theorem sc_law_digits : FnScope ["cell", "sizes", "found", "rest", "base", "seed", "k", "twice"] ["cell", "sizes"] (defScope s_law_digits) := ⟨rfl, rfl, rfl, by decide +kernel, rfl, by decide +kernel, by decide +kernel⟩
def lb_law_digits_153 : SM := (sSeq (sSet 5 (e2 dMod (e1 dInt (e2 dAdd (e2 dAdd (e2 dMul (eVar 5) (eC (.int 48271))) (e2 dMul (eC (.int 974711)) (eVar 6))) (eC (.int 12345)))) (eC (.int 2147483647)))) (sSeq (sSet 7 (e2 dMod (e1 dInt (e2 dMul (eVar 5) (e2 dAdd (e2 dDiv (eVar 5) (eC (.int 65537))) (eC (.int 3))))) (eC (.int 2147483629)))) (sSeq (sApp 2 (e2 dMod (e1 dInt (e2 dDiv (eVar 7) (eC (.int 19)))) (e2 dIx (eVar 1) (eVar 6)))) sNil)))
def lb_law_digits_148 : SM := (sSeq (sApp 2 (e2 dMod (e1 dInt (eVar 3)) (eVar 4))) (sSeq (sSet 3 (e2 dDiv (e1 dInt (eVar 3)) (eVar 4))) sNil))
def b_law_digits : SM := (sSeq (sSetF 2 (eLst aNil)) (sSeq (sSet 3 (e2 dMod (e1 dInt (eVar 0)) (e2 dMul (e2 dMul (e2 dPow (eC (.int 10)) (eC (.int 60))) (e2 dPow (eC (.int 10)) (eC (.int 60)))) (e2 dPow (eC (.int 10)) (eC (.int 60)))))) (sSeq (sIf (tB1 (e2 dGe (eVar 3) (e2 dPow (eC (.int 10)) (eC (.int 18))))) (sSeq (sSet 3 (e2 dSub (eVar 3) (e2 dPow (eC (.int 10)) (eC (.int 18))))) (sSeq (sFor (iSeq (eVar 1)) (gmName 4) lb_law_digits_148) (sSeq (sRet (eVar 2)) sNil))) sNil) (sSeq (sSet 5 (e2 dMod (e1 dInt (eVar 3)) (eC (.int 2147483629)))) (sSeq (sFor (iRng (e1 dLen (eVar 1))) (gmName 6) lb_law_digits_153) (sSeq (sRet (eVar 2)) sNil))))))
def m_law_digits : List D → R D := fnM 8 2 b_law_digits
theorem w_law_digits (T : Tx P w K mg base) (A_law_digits : At K mg "_law_digits" "_law_digits" s_law_digits ["cell", "sizes"]) : Dn P w K mg base "_law_digits" 2 ["cell", "sizes"] m_law_digits :=
  dn_of (k := 1) A_law_digits sc_law_digits fun f cdv A outer s H E hr => (mss_cons (ms_setF 2 sc_law_digits.nd (mf_lst man_nil)) (mss_cons (ms_set 3 sc_law_digits.nd (me_bin op_mod so_mod (ME.w (me_y1 call_int1 so_int1 T.b_int (ME.w (mv 0)))) (ME.w (me_bin op_mul3 so_mul (ME.w (me_bin op_mul3 so_mul (ME.w (me_bin op_pow so_pow (ME.w mint) (ME.w mint))) (ME.w (me_bin op_pow so_pow (ME.w mint) (ME.w mint))))) (ME.w (me_bin op_pow so_pow (ME.w mint) (ME.w mint))))))) (mss_cons (ms_if (mt_cmp op_ge so_ge (ME.w (mv 3)) (ME.w (me_bin op_pow so_pow (ME.w mint) (ME.w mint))) (nomark _)) (mss_cons (ms_set 3 sc_law_digits.nd (me_bin op_sub so_sub (ME.w (mv 3)) (ME.w (me_bin op_pow so_pow (ME.w mint) (ME.w mint))))) (mss_cons (ms_for pass_own rfl (mi_seq (mv 1)) (mg_name 4 sc_law_digits.nd) (mss_cons (ms_app 2 (me_bin op_mod so_mod (ME.w (me_y1 call_int1 so_int1 T.b_int (ME.w (mv 3)))) (ME.w (mv 4)))) (mss_cons (ms_set 3 sc_law_digits.nd (me_bin op_fdivW so_div (ME.w (me_y1 call_int1 so_int1 T.b_int (ME.w (mv 3)))) (ME.w (mv 4)))) (mss_nil (O' := [2]))))) (mss_cons (ms_pre (O1 := []) (ms_ret (mv 2))) (mss_nil (O := [2]) (O' := [2]))))) (mss_nil (O' := [2]))) (mss_cons (ms_set 5 sc_law_digits.nd (me_bin op_mod so_mod (ME.w (me_y1 call_int1 so_int1 T.b_int (ME.w (mv 3)))) (ME.w mint))) (mss_cons (ms_for pass_own rfl (mi_rng1 T.b_range (ME.w (me_b1 call_lenX so_len T.b_len (ME.w (mv 1))))) (mg_name 6 sc_law_digits.nd) (mss_cons (ms_set 5 sc_law_digits.nd (me_bin op_mod so_mod (ME.w (me_y1 call_int1 so_int1 T.b_int (ME.w (me_bin op_add3 so_add (ME.w (me_bin op_add3 so_add (ME.w (me_bin op_mul3 so_mul (ME.w (mv 5)) (ME.w mint))) (ME.w (me_bin op_mul3 so_mul (ME.w mint) (ME.w (mv 6)))))) (ME.w mint))))) (ME.w mint))) (mss_cons (ms_set 7 sc_law_digits.nd (me_bin op_mod so_mod (ME.w (me_y1 call_int1 so_int1 T.b_int (ME.w (me_bin op_mul3 so_mul (ME.w (mv 5)) (ME.w (me_bin op_add3 so_add (ME.w (me_bin op_fdivW so_div (ME.w (mv 5)) (ME.w mint))) (ME.w mint))))))) (ME.w mint))) (mss_cons (ms_app 2 (me_bin op_mod so_mod (ME.w (me_y1 call_int1 so_int1 T.b_int (ME.w (me_bin op_fdivW so_div (ME.w (mv 7)) (ME.w mint))))) (ME.w (me_ix hr (ME.w (mv 1)) (ME.w (mv 6)))))) (mss_nil (O' := [2])))))) (mss_cons (ms_pre (O1 := []) (ms_ret (mv 2))) (mss_nil (O := []) (O' := []))))))))

abbrev s_law_words : Stmt := topS 43
theorem sc_law_words : FnScope ["cell", "count", "row", "length", "spot", "letters", "signs", "names", "k", "name", "j", "sign"] ["cell", "count"] (defScope s_law_words) := ⟨rfl, rfl, rfl, by decide +kernel, rfl, by decide +kernel, by decide +kernel⟩
def lb_law_words_167 : SM := (sSeq (sSet 11 (e2 dIx (eVar 6) (e2 dMod (e1 dInt (e2 dAdd (e2 dIx (eVar 2) (e2 dAdd (eC (.int 2)) (eVar 10))) (e2 dMul (eVar 8) (e2 dAdd (eVar 10) (eC (.int 1)))))) (eC (.int 36))))) (sSeq (sIf (tAnd' (tB1 (e2 dEq (eVar 10) (eC (.int 0)))) (tB1 (e2 dNotIn (eVar 11) (eVar 5)))) (sSeq (sSet 11 (eC (.str "q"))) sNil) sNil) (sSeq (sIf (tB1 (e2 dEq (eVar 10) (eVar 4))) (sSeq (sSet 11 (e2 dIx (eVar 5) (eVar 8))) sNil) sNil) (sSeq (sSet 9 (e2 dAdd (eVar 9) (eVar 11))) sNil))))
def lb_law_words_165 : SM := (sSeq (sSet 9 (eC (.str ""))) (sSeq (sFor (iRng (eVar 3)) (gmName 10) lb_law_words_167) (sSeq (sApp 7 (eVar 9)) sNil)))
def b_law_words : SM := (sSeq (sSet 2 (eCall m_law_digits (aCons (eVar 0) (aCons (e2 dAdd (eLst (aCons (eC (.int 12)) (aCons (eC (.int 12)) aNil))) (e2 dMul (eLst (aCons (eC (.int 36)) aNil)) (eC (.int 12)))) aNil)))) (sSeq (sSet 3 (e2 dAdd (eC (.int 1)) (e2 dIx (eVar 2) (eC (.int 0))))) (sSeq (sSet 4 (e2 dMod (e1 dInt (e2 dIx (eVar 2) (eC (.int 1)))) (eVar 3))) (sSeq (sSet 5 (eC (.str "abcdefghijklmnopqrstuvwxyz"))) (sSeq (sSet 6 (eC (.str "abcdefghijklmnopqrstuvwxyz0123456789"))) (sSeq (sSetF 7 (eLst aNil)) (sSeq (sFor (iRng (eVar 1)) (gmName 8) lb_law_words_165) (sSeq (sRet (eVar 7)) sNil))))))))
def m_law_words : List D → R D := fnM 12 2 b_law_words
theorem w_law_words (T : Tx P w K mg base) (A_law_words : At K mg "_law_words" "_law_words" s_law_words ["cell", "count"]) (D_law_digits : Dn P w K mg base "_law_digits" 2 ["cell", "sizes"] m_law_digits) : Dn P w K mg base "_law_words" 3 ["cell", "count"] m_law_words :=
  dn_of (k := 2) A_law_words sc_law_words fun f cdv A outer s H E hr => (mss_cons (ms_set 2 sc_law_words.nd (me_cd D_law_digits hr pass_def (man_cons (mv 0) (man_cons (me_bin op_add3 so_add (MF.w (mf_lst (man_cons mint (man_cons mint man_nil)))) (ME.w (me_bin op_mul3 so_mul (MF.w (mf_lst (man_cons mint man_nil))) (ME.w mint)))) man_nil)))) (mss_cons (ms_set 3 sc_law_words.nd (me_bin op_add3 so_add (ME.w mint) (ME.w (me_ix hr (ME.w (mv 2)) (ME.w mint))))) (mss_cons (ms_set 4 sc_law_words.nd (me_bin op_mod so_mod (ME.w (me_y1 call_int1 so_int1 T.b_int (ME.w (me_ix hr (ME.w (mv 2)) (ME.w mint))))) (ME.w (mv 3)))) (mss_cons (ms_set 5 sc_law_words.nd mstr) (mss_cons (ms_set 6 sc_law_words.nd mstr) (mss_cons (ms_setF 7 sc_law_words.nd (mf_lst man_nil)) (mss_cons (ms_for pass_own rfl (mi_rng1 T.b_range (ME.w (mv 1))) (mg_name 8 sc_law_words.nd) (mss_cons (ms_set 9 sc_law_words.nd mstr) (mss_cons (ms_for pass_own rfl (mi_rng1 T.b_range (ME.w (mv 3))) (mg_name 10 sc_law_words.nd) (mss_cons (ms_set 11 sc_law_words.nd (me_ix hr (ME.w (mv 6)) (ME.w (me_bin op_mod so_mod (ME.w (me_y1 call_int1 so_int1 T.b_int (ME.w (me_bin op_add3 so_add (ME.w (me_ix hr (ME.w (mv 2)) (ME.w (me_bin op_add3 so_add (ME.w mint) (ME.w (mv 10)))))) (ME.w (me_bin op_mul3 so_mul (ME.w (mv 8)) (ME.w (me_bin op_add3 so_add (ME.w (mv 10)) (ME.w mint))))))))) (ME.w mint))))) (mss_cons (ms_if (mtw (mtw_and (mt_cmp (op_eq2 hr) so_eq (ME.w (mv 10)) (ME.w mint) (nomark _)) (mtw_and1 (mt_cmp (op_notInX hr) so_notIn (ME.w (mv 11)) (ME.w (mv 5)) (by rfl))))) (mss_cons (ms_set 11 sc_law_words.nd mstr) (mss_nil (O' := [7]))) (mss_nil (O' := [7]))) (mss_cons (ms_if (mt_cmp (op_eq2 hr) so_eq (ME.w (mv 10)) (ME.w (mv 4)) (nomark _)) (mss_cons (ms_set 11 sc_law_words.nd (me_ix hr (ME.w (mv 5)) (ME.w (mv 8)))) (mss_nil (O' := [7]))) (mss_nil (O' := [7]))) (mss_cons (ms_set 9 sc_law_words.nd (me_bin op_add3 so_add (ME.w (mv 9)) (ME.w (mv 11)))) (mss_nil (O' := [7]))))))) (mss_cons (ms_app 7 (mv 9)) (mss_nil (O' := [7])))))) (mss_cons (ms_pre (O1 := []) (ms_ret (mv 7))) (mss_nil (O := []) (O' := []))))))))))

abbrev s_law_bit : Stmt := topS 44
theorem sc_law_bit : FnScope ["lot", "number"] ["lot", "number"] (defScope s_law_bit) := ⟨rfl, rfl, rfl, by decide +kernel, rfl, by decide +kernel, by decide +kernel⟩
def b_law_bit : SM := (sSeq (sRet (e2 dMod (e1 dInt (e2 dDiv (eVar 0) (e2 dShl (eC (.int 1)) (eVar 1)))) (eC (.int 2)))) sNil)
def m_law_bit : List D → R D := fnM 2 2 b_law_bit
theorem w_law_bit (T : Tx P w K mg base) (A_law_bit : At K mg "_law_bit" "_law_bit" s_law_bit ["lot", "number"]) : Dn P w K mg base "_law_bit" 2 ["lot", "number"] m_law_bit :=
  dn_of (k := 1) A_law_bit sc_law_bit fun f cdv A outer s H E hr => (mss_cons (ms_ret (me_bin op_mod so_mod (ME.w (me_y1 call_int1 so_int1 T.b_int (ME.w (me_bin op_fdivW so_div (ME.w (mv 0)) (ME.w (me_bin op_shl so_shl (ME.w mint) (ME.w (mv 1)))))))) (ME.w mint))) (mss_nil (O := []) (O' := [])))

abbrev s_law_ways_one : Stmt := topS 45
theorem sc_law_ways_one : FnScope ["entries", "summed", "entry", "pair"] ["entries"] (defScope s_law_ways_one) := ⟨rfl, rfl, rfl, by decide +kernel, rfl, by decide +kernel, by decide +kernel⟩
def lb_law_ways_one_180 : SM := (sSeq (sPut 1 (eTup (aCons (e2 dIx (eVar 2) (eC (.int 0))) (aCons (e2 dIx (eVar 2) (eC (.int 1))) aNil))) (e2 dAdd (eGet (eVar 1) (eTup (aCons (e2 dIx (eVar 2) (eC (.int 0))) (aCons (e2 dIx (eVar 2) (eC (.int 1))) aNil))) (eC (.int 0))) (e2 dIx (eVar 2) (eC (.int 2))))) sNil)
def b_law_ways_one : SM := (sSeq (sSetF 1 (eC (.dct []))) (sSeq (sFor (iSeq (eVar 0)) (gmName 2) lb_law_ways_one_180) (sSeq (sRet (eLc (iSeq (e1 dSorted (e1 dList (eVar 1)))) (gmName 3) (tB1 (e2 dGt (e2 dIx (eVar 1) (eVar 3)) (eC (.int 0)))) (eLst (aCons (e2 dIx (eVar 3) (eC (.int 0))) (aCons (e2 dIx (eVar 3) (eC (.int 1))) (aCons (e2 dIx (eVar 1) (eVar 3)) aNil)))) [3])) sNil)))
def m_law_ways_one : List D → R D := fnM 4 1 b_law_ways_one
theorem w_law_ways_one (T : Tx P w K mg base) (A_law_ways_one : At K mg "_law_ways_one" "_law_ways_one" s_law_ways_one ["entries"]) : Dn P w K mg base "_law_ways_one" 2 ["entries"] m_law_ways_one :=
  dn_of (k := 1) A_law_ways_one sc_law_ways_one fun f cdv A outer s H E hr => (mss_cons (ms_setF 1 sc_law_ways_one.nd mf_dT) (mss_cons (ms_for pass_own rfl (mi_seq (mv 0)) (mg_name 2 sc_law_ways_one.nd) (mss_cons (ms_put 1 hr (ME.w (me_tup (man_cons (me_ix hr (ME.w (mv 2)) (ME.w mint)) (man_cons (me_ix hr (ME.w (mv 2)) (ME.w mint)) man_nil)))) (me_bin op_add3 so_add (ME.w (me_get hr (mo 1) (ME.w (me_tup (man_cons (me_ix hr (ME.w (mv 2)) (ME.w mint)) (man_cons (me_ix hr (ME.w (mv 2)) (ME.w mint)) man_nil)))) mint)) (ME.w (me_ix hr (ME.w (mv 2)) (ME.w mint))))) (mss_nil (O' := [1])))) (mss_cons (ms_ret (MF.k (mf_lc rfl sc_law_ways_one.nd (mi_seq (MF.k (mf_b1 cr_sortedX so_sortedF T.b_sorted (MF.w (mf_y1 (call_listX rfl) so_listF T.b_list (mo 1)))))) (blkOk_by (own := [("pair", 3)]) (N := ["entries", "summed", "entry", "pair"]) (sc := defScope s_law_ways_one) (by decide +kernel)) (fun _ _ _ _ _ => (mg_name 3 sc_law_ways_one.nd)) (fun _ _ _ _ _ => (mts_one (mt_cmp op_gt so_gt (ME.w (me_ix hr (mo 1) (ME.w (mv 3)))) (ME.w mint) (nomark _)))) (fun _ _ _ _ _ => (MF.k (mf_lst (man_cons (me_ix hr (ME.w (mv 3)) (ME.w mint)) (man_cons (me_ix hr (ME.w (mv 3)) (ME.w mint)) (man_cons (me_ix hr (mo 1) (ME.w (mv 3))) man_nil))))))))) (mss_nil (O := []) (O' := [])))))

abbrev s_law_out : Stmt := topS 47
theorem sc_law_out : FnScope ["streets", "place", "street"] ["streets", "place"] (defScope s_law_out) := ⟨rfl, rfl, rfl, by decide +kernel, rfl, by decide +kernel, by decide +kernel⟩
def b_law_out : SM := (sSeq (sRet (e1 dSum (eLc (iSeq (eVar 0)) (gmName 2) (tB1 (e2 dEq (e2 dIx (eVar 2) (eC (.int 0))) (eVar 1))) (e2 dIx (eVar 2) (eC (.int 2))) [2]))) sNil)
def m_law_out : List D → R D := fnM 3 2 b_law_out
theorem w_law_out (T : Tx P w K mg base) (A_law_out : At K mg "_law_out" "_law_out" s_law_out ["streets", "place"]) : Dn P w K mg base "_law_out" 2 ["streets", "place"] m_law_out :=
  dn_of (k := 1) A_law_out sc_law_out fun f cdv A outer s H E hr => (mss_cons (ms_ret (me_b1 (cr_sum rfl) so_sum T.b_sum (MF.w (mf_lc rfl sc_law_out.nd (mi_seq (mv 0)) (blkOk_by (own := [("street", 2)]) (N := ["streets", "place", "street"]) (sc := defScope s_law_out) (by decide +kernel)) (fun _ _ _ _ _ => (mg_name 2 sc_law_out.nd)) (fun _ _ _ _ _ => (mts_one (mt_cmp (op_eq2 hr) so_eq (ME.w (me_ix hr (ME.w (mv 2)) (ME.w mint))) (ME.w (mv 1)) (nomark _)))) (fun _ _ _ _ _ => (me_ix hr (ME.w (mv 2)) (ME.w mint))))))) (mss_nil (O := []) (O' := [])))

abbrev s_law_in : Stmt := topS 48
theorem sc_law_in : FnScope ["streets", "place", "street"] ["streets", "place"] (defScope s_law_in) := ⟨rfl, rfl, rfl, by decide +kernel, rfl, by decide +kernel, by decide +kernel⟩
def b_law_in : SM := (sSeq (sRet (e1 dSum (eLc (iSeq (eVar 0)) (gmName 2) (tB1 (e2 dEq (e2 dIx (eVar 2) (eC (.int 1))) (eVar 1))) (e2 dIx (eVar 2) (eC (.int 2))) [2]))) sNil)
def m_law_in : List D → R D := fnM 3 2 b_law_in
theorem w_law_in (T : Tx P w K mg base) (A_law_in : At K mg "_law_in" "_law_in" s_law_in ["streets", "place"]) : Dn P w K mg base "_law_in" 2 ["streets", "place"] m_law_in :=
  dn_of (k := 1) A_law_in sc_law_in fun f cdv A outer s H E hr => (mss_cons (ms_ret (me_b1 (cr_sum rfl) so_sum T.b_sum (MF.w (mf_lc rfl sc_law_in.nd (mi_seq (mv 0)) (blkOk_by (own := [("street", 2)]) (N := ["streets", "place", "street"]) (sc := defScope s_law_in) (by decide +kernel)) (fun _ _ _ _ _ => (mg_name 2 sc_law_in.nd)) (fun _ _ _ _ _ => (mts_one (mt_cmp (op_eq2 hr) so_eq (ME.w (me_ix hr (ME.w (mv 2)) (ME.w mint))) (ME.w (mv 1)) (nomark _)))) (fun _ _ _ _ _ => (me_ix hr (ME.w (mv 2)) (ME.w mint))))))) (mss_nil (O := []) (O' := [])))

abbrev s_law_one_net : Stmt := topS 49
theorem sc_law_one_net : FnScope ["script", "at", "wide", "head", "g", "m", "n", "entries", "k", "row", "shift", "one", "two", "lanes"] ["script", "at", "wide"] (defScope s_law_one_net) := ⟨rfl, rfl, rfl, by decide +kernel, rfl, by decide +kernel, by decide +kernel⟩
def lb_law_one_net_197 : SM := (sSeq (sSet 9 (eCall m_law_digits (aCons (eCall m_law_cell (aCons (eVar 0) (aCons (e2 dAdd (e2 dAdd (eVar 1) (eC (.int 1))) (e2 dMod (eVar 8) (eC (.int 13)))) aNil))) (aCons (eLst (aCons (eVar 6) (aCons (e2 dSub (eVar 6) (eC (.int 1))) (aCons (eC (.int 6)) (aCons (eC (.int 2)) (aCons (eVar 6) (aCons (e2 dSub (eVar 6) (eC (.int 1))) (aCons (eC (.int 6)) (aCons (eC (.int 2)) (aCons (eC (.int 1000)) aNil)))))))))) aNil)))) (sSeq (sSet 10 (e2 dMul (eC (.int 4)) (e2 dDiv (eVar 8) (eC (.int 13))))) (sSeq (sSet 11 (e2 dIx (eVar 9) (eVar 10))) (sSeq (sIf (tB1 (e2 dLt (eVar 8) (e2 dMul (eC (.int 2)) (eVar 5)))) (sSeq (sSet 11 (e2 dAdd (eVar 4) (e2 dDiv (eVar 8) (eC (.int 2))))) sNil) sNil) (sSeq (sSet 12 (e2 dMod (e1 dInt (e2 dAdd (e2 dAdd (eVar 11) (eC (.int 1))) (e2 dIx (eVar 9) (e2 dAdd (eVar 10) (eC (.int 1)))))) (eVar 6))) (sSeq (sSet 13 (e2 dIx (eLst (aCons (eC (.int 1)) (aCons (eC (.int 1)) (aCons (eC (.int 2)) (aCons (eC (.int 1)) (aCons (eC (.int 3)) (aCons (eC (.int 2)) aNil))))))) (e2 dIx (eVar 9) (e2 dAdd (eVar 10) (eC (.int 2)))))) (sSeq (sIf (tB1 (eVar 2)) (sSeq (sSet 13 (e2 dAdd (eC (.int 1)) (e2 dIx (eVar 9) (eC (.int 8))))) sNil) sNil) (sSeq (sIf (tB1 (e2 dEq (e2 dIx (eVar 9) (e2 dAdd (eVar 10) (eC (.int 3)))) (eC (.int 1)))) (sSeq (sApp 7 (eLst (aCons (eVar 12) (aCons (eVar 11) (aCons (eVar 13) aNil))))) sNil) (sSeq (sApp 7 (eLst (aCons (eVar 11) (aCons (eVar 12) (aCons (eVar 13) aNil))))) sNil)) sNil))))))))
def b_law_one_net : SM := (sSeq (sSet 3 (eCall m_law_digits (aCons (eCall m_law_cell (aCons (eVar 0) (aCons (eVar 1) aNil))) (aCons (eLst (aCons (eC (.int 8)) (aCons (eC (.int 8)) (aCons (eC (.int 4)) aNil)))) aNil)))) (sSeq (sSet 4 (e2 dIx (eLst (aCons (eC (.int 4)) (aCons (eC (.int 3)) (aCons (eC (.int 5)) (aCons (eC (.int 4)) (aCons (eC (.int 2)) (aCons (eC (.int 4)) (aCons (eC (.int 6)) (aCons (eC (.int 5)) aNil))))))))) (e2 dIx (eVar 3) (eC (.int 0))))) (sSeq (sSet 5 (e2 dIx (eLst (aCons (eC (.int 2)) (aCons (eC (.int 1)) (aCons (eC (.int 3)) (aCons (eC (.int 2)) (aCons (eC (.int 1)) (aCons (eC (.int 2)) (aCons (eC (.int 3)) (aCons (eC (.int 0)) aNil))))))))) (e2 dIx (eVar 3) (eC (.int 1))))) (sSeq (sIf (tB1 (eVar 2)) (sSeq (sSet 5 (e2 dIx (eLst (aCons (eC (.int 5)) (aCons (eC (.int 4)) (aCons (eC (.int 5)) (aCons (eC (.int 3)) (aCons (eC (.int 4)) (aCons (eC (.int 5)) (aCons (eC (.int 2)) (aCons (eC (.int 5)) aNil))))))))) (e2 dIx (eVar 3) (eC (.int 1))))) sNil) sNil) (sSeq (sSet 6 (e2 dAdd (eVar 4) (eVar 5))) (sSeq (sSetF 7 (eLst aNil)) (sSeq (sFor (iRng (e2 dAdd (e2 dMul (eC (.int 2)) (eVar 5)) (e2 dIx (eLst (aCons (eC (.int 2)) (aCons (eC (.int 3)) (aCons (eC (.int 1)) (aCons (eC (.int 4)) aNil))))) (e2 dIx (eVar 3) (eC (.int 2)))))) (gmName 8) lb_law_one_net_197) (sSeq (sRet (eLst (aCons (eVar 4) (aCons (eVar 6) (aCons (eCall m_law_ways_one (aCons (eVar 7) aNil)) aNil))))) sNil))))))))
def m_law_one_net : List D → R D := fnM 14 3 b_law_one_net
theorem w_law_one_net (T : Tx P w K mg base) (A_law_one_net : At K mg "_law_one_net" "_law_one_net" s_law_one_net ["script", "at", "wide"]) (D_law_digits : Dn P w K mg base "_law_digits" 2 ["cell", "sizes"] m_law_digits) (D_law_cell : Dn P w K mg base "_law_cell" 2 ["script", "k"] m_law_cell) (D_law_ways_one : Dn P w K mg base "_law_ways_one" 2 ["entries"] m_law_ways_one) : Dn P w K mg base "_law_one_net" 3 ["script", "at", "wide"] m_law_one_net :=
  dn_of (k := 2) A_law_one_net sc_law_one_net fun f cdv A outer s H E hr => (mss_cons (ms_set 3 sc_law_one_net.nd (me_cd D_law_digits hr pass_def (man_cons (me_cd D_law_cell hr pass_def (man_cons (mv 0) (man_cons (mv 1) man_nil))) (man_cons (MF.k (mf_lst (man_cons mint (man_cons mint (man_cons mint man_nil))))) man_nil)))) (mss_cons (ms_set 4 sc_law_one_net.nd (me_ix hr (MF.w (mf_lst (man_cons mint (man_cons mint (man_cons mint (man_cons mint (man_cons mint (man_cons mint (man_cons mint (man_cons mint man_nil)))))))))) (ME.w (me_ix hr (ME.w (mv 3)) (ME.w mint))))) (mss_cons (ms_set 5 sc_law_one_net.nd (me_ix hr (MF.w (mf_lst (man_cons mint (man_cons mint (man_cons mint (man_cons mint (man_cons mint (man_cons mint (man_cons mint (man_cons mint man_nil)))))))))) (ME.w (me_ix hr (ME.w (mv 3)) (ME.w mint))))) (mss_cons (ms_if (mt_val (ME.w (mv 2))) (mss_cons (ms_set 5 sc_law_one_net.nd (me_ix hr (MF.w (mf_lst (man_cons mint (man_cons mint (man_cons mint (man_cons mint (man_cons mint (man_cons mint (man_cons mint (man_cons mint man_nil)))))))))) (ME.w (me_ix hr (ME.w (mv 3)) (ME.w mint))))) (mss_nil (O' := []))) (mss_nil (O' := []))) (mss_cons (ms_set 6 sc_law_one_net.nd (me_bin op_add3 so_add (ME.w (mv 4)) (ME.w (mv 5)))) (mss_cons (ms_setF 7 sc_law_one_net.nd (mf_lst man_nil)) (mss_cons (ms_for pass_own rfl (mi_rng1 T.b_range (ME.w (me_bin op_add3 so_add (ME.w (me_bin op_mul3 so_mul (ME.w mint) (ME.w (mv 5)))) (ME.w (me_ix hr (MF.w (mf_lst (man_cons mint (man_cons mint (man_cons mint (man_cons mint man_nil)))))) (ME.w (me_ix hr (ME.w (mv 3)) (ME.w mint)))))))) (mg_name 8 sc_law_one_net.nd) (mss_cons (ms_set 9 sc_law_one_net.nd (me_cd D_law_digits hr pass_def (man_cons (me_cd D_law_cell hr pass_def (man_cons (mv 0) (man_cons (me_bin op_add3 so_add (ME.w (me_bin op_add3 so_add (ME.w (mv 1)) (ME.w mint))) (ME.w (me_bin op_mod so_mod (ME.w (mv 8)) (ME.w mint)))) man_nil))) (man_cons (MF.k (mf_lst (man_cons (mv 6) (man_cons (me_bin op_sub so_sub (ME.w (mv 6)) (ME.w mint)) (man_cons mint (man_cons mint (man_cons (mv 6) (man_cons (me_bin op_sub so_sub (ME.w (mv 6)) (ME.w mint)) (man_cons mint (man_cons mint (man_cons mint man_nil))))))))))) man_nil)))) (mss_cons (ms_set 10 sc_law_one_net.nd (me_bin op_mul3 so_mul (ME.w mint) (ME.w (me_bin op_fdivW so_div (ME.w (mv 8)) (ME.w mint))))) (mss_cons (ms_set 11 sc_law_one_net.nd (me_ix hr (ME.w (mv 9)) (ME.w (mv 10)))) (mss_cons (ms_if (mt_cmp op_lt so_lt (ME.w (mv 8)) (ME.w (me_bin op_mul3 so_mul (ME.w mint) (ME.w (mv 5)))) (nomark _)) (mss_cons (ms_set 11 sc_law_one_net.nd (me_bin op_add3 so_add (ME.w (mv 4)) (ME.w (me_bin op_fdivW so_div (ME.w (mv 8)) (ME.w mint))))) (mss_nil (O' := [7]))) (mss_nil (O' := [7]))) (mss_cons (ms_set 12 sc_law_one_net.nd (me_bin op_mod so_mod (ME.w (me_y1 call_int1 so_int1 T.b_int (ME.w (me_bin op_add3 so_add (ME.w (me_bin op_add3 so_add (ME.w (mv 11)) (ME.w mint))) (ME.w (me_ix hr (ME.w (mv 9)) (ME.w (me_bin op_add3 so_add (ME.w (mv 10)) (ME.w mint))))))))) (ME.w (mv 6)))) (mss_cons (ms_set 13 sc_law_one_net.nd (me_ix hr (MF.w (mf_lst (man_cons mint (man_cons mint (man_cons mint (man_cons mint (man_cons mint (man_cons mint man_nil)))))))) (ME.w (me_ix hr (ME.w (mv 9)) (ME.w (me_bin op_add3 so_add (ME.w (mv 10)) (ME.w mint))))))) (mss_cons (ms_if (mt_val (ME.w (mv 2))) (mss_cons (ms_set 13 sc_law_one_net.nd (me_bin op_add3 so_add (ME.w mint) (ME.w (me_ix hr (ME.w (mv 9)) (ME.w mint))))) (mss_nil (O' := [7]))) (mss_nil (O' := [7]))) (mss_cons (ms_if (mt_cmp (op_eq2 hr) so_eq (ME.w (me_ix hr (ME.w (mv 9)) (ME.w (me_bin op_add3 so_add (ME.w (mv 10)) (ME.w mint))))) (ME.w mint) (nomark _)) (mss_cons (ms_app 7 (MF.k (mf_lst (man_cons (mv 12) (man_cons (mv 11) (man_cons (mv 13) man_nil)))))) (mss_nil (O' := [7]))) (mss_cons (ms_app 7 (MF.k (mf_lst (man_cons (mv 11) (man_cons (mv 12) (man_cons (mv 13) man_nil)))))) (mss_nil (O' := [7])))) (mss_nil (O' := [7]))))))))))) (mss_cons (ms_pre (O1 := []) (ms_ret (MF.k (mf_lst (man_cons (mv 4) (man_cons (mv 6) (man_cons (me_cd D_law_ways_one hr pass_def (man_cons (mv 7) man_nil)) man_nil))))))) (mss_nil (O := []) (O' := []))))))))))

abbrev s_law_balanced : Stmt := topS 50
theorem sc_law_balanced : FnScope ["raw", "entries", "place", "more", "gate", "street"] ["raw"] (defScope s_law_balanced) := ⟨rfl, rfl, rfl, by decide +kernel, rfl, by decide +kernel, by decide +kernel⟩
def lb_law_balanced_214 : SM := (sSeq (sSet 3 (e2 dSub (eCall m_law_out (aCons (e2 dIx (eVar 0) (eC (.int 2))) (aCons (eVar 2) aNil))) (eCall m_law_in (aCons (e2 dIx (eVar 0) (eC (.int 2))) (aCons (eVar 2) aNil))))) (sSeq (sSet 4 (e2 dMod (e1 dInt (e2 dAdd (e2 dMul (eVar 2) (eC (.int 5))) (e1 dLen (e2 dIx (eVar 0) (eC (.int 2)))))) (e2 dIx (eVar 0) (eC (.int 0))))) (sSeq (sIf (tB1 (e2 dGt (eVar 3) (eC (.int 0)))) (sSeq (sApp 1 (eLst (aCons (eVar 4) (aCons (eVar 2) (aCons (eVar 3) aNil))))) sNil) sNil) (sSeq (sIf (tB1 (e2 dLt (eVar 3) (eC (.int 0)))) (sSeq (sApp 1 (eLst (aCons (eVar 2) (aCons (eVar 4) (aCons (e1 dNeg (eVar 3)) aNil))))) sNil) sNil) sNil))))
def b_law_balanced : SM := (sSeq (sSetF 1 (eLc (iSeq (e2 dIx (eVar 0) (eC (.int 2)))) (gmName 5) tTrue (e1 dList (eVar 5)) [5])) (sSeq (sFor (iRng' (e2 dIx (eVar 0) (eC (.int 0))) (e2 dIx (eVar 0) (eC (.int 1)))) (gmName 2) lb_law_balanced_214) (sSeq (sRet (eLst (aCons (e2 dIx (eVar 0) (eC (.int 0))) (aCons (e2 dIx (eVar 0) (eC (.int 1))) (aCons (eCall m_law_ways_one (aCons (eVar 1) aNil)) aNil))))) sNil)))
def m_law_balanced : List D → R D := fnM 6 1 b_law_balanced
theorem w_law_balanced (T : Tx P w K mg base) (A_law_balanced : At K mg "_law_balanced" "_law_balanced" s_law_balanced ["raw"]) (D_law_out : Dn P w K mg base "_law_out" 2 ["streets", "place"] m_law_out) (D_law_in : Dn P w K mg base "_law_in" 2 ["streets", "place"] m_law_in) (D_law_ways_one : Dn P w K mg base "_law_ways_one" 2 ["entries"] m_law_ways_one) : Dn P w K mg base "_law_balanced" 3 ["raw"] m_law_balanced :=
  dn_of (k := 2) A_law_balanced sc_law_balanced fun f cdv A outer s H E hr => (mss_cons (ms_lcF 1 rfl sc_law_balanced.nd (mi_seq (me_ix hr (ME.w (mv 0)) (ME.w mint))) (blkOk_by (own := [("street", 5)]) (N := ["raw", "entries", "place", "more", "gate", "street"]) (sc := defScope s_law_balanced) (by decide +kernel)) (fun _ _ _ _ _ => (mg_name 5 sc_law_balanced.nd)) (fun _ _ _ _ _ => mts_nil) (fun _ _ _ _ _ => (MF.k (mf_y1 (call_listX rfl) so_listF T.b_list (ME.w (mv 5)))))) (mss_cons (ms_for pass_own rfl (mi_rng2 T.b_range (ME.w (me_ix hr (ME.w (mv 0)) (ME.w mint))) (ME.w (me_ix hr (ME.w (mv 0)) (ME.w mint)))) (mg_name 2 sc_law_balanced.nd) (mss_cons (ms_set 3 sc_law_balanced.nd (me_bin op_sub so_sub (ME.w (me_cd D_law_out hr pass_def (man_cons (me_ix hr (ME.w (mv 0)) (ME.w mint)) (man_cons (mv 2) man_nil)))) (ME.w (me_cd D_law_in hr pass_def (man_cons (me_ix hr (ME.w (mv 0)) (ME.w mint)) (man_cons (mv 2) man_nil)))))) (mss_cons (ms_set 4 sc_law_balanced.nd (me_bin op_mod so_mod (ME.w (me_y1 call_int1 so_int1 T.b_int (ME.w (me_bin op_add3 so_add (ME.w (me_bin op_mul3 so_mul (ME.w (mv 2)) (ME.w mint))) (ME.w (me_b1 call_lenX so_len T.b_len (ME.w (me_ix hr (ME.w (mv 0)) (ME.w mint))))))))) (ME.w (me_ix hr (ME.w (mv 0)) (ME.w mint))))) (mss_cons (ms_if (mt_cmp op_gt so_gt (ME.w (mv 3)) (ME.w mint) (nomark _)) (mss_cons (ms_app 1 (MF.k (mf_lst (man_cons (mv 4) (man_cons (mv 2) (man_cons (mv 3) man_nil)))))) (mss_nil (O' := [1]))) (mss_nil (O' := [1]))) (mss_cons (ms_if (mt_cmp op_lt so_lt (ME.w (mv 3)) (ME.w mint) (nomark _)) (mss_cons (ms_app 1 (MF.k (mf_lst (man_cons (mv 2) (man_cons (mv 4) (man_cons (me_neg (ME.w (mv 3))) man_nil)))))) (mss_nil (O' := [1]))) (mss_nil (O' := [1]))) (mss_nil (O' := [1]))))))) (mss_cons (ms_pre (O1 := []) (ms_ret (MF.k (mf_lst (man_cons (me_ix hr (ME.w (mv 0)) (ME.w mint)) (man_cons (me_ix hr (ME.w (mv 0)) (ME.w mint)) (man_cons (me_cd D_law_ways_one hr pass_def (man_cons (mv 1) man_nil)) man_nil))))))) (mss_nil (O := []) (O' := [])))))

abbrev s_law_pieces_one : Stmt := topS 51
theorem sc_law_pieces_one : FnScope ["raw", "cell", "row", "handed", "k", "street", "pieces", "lanes"] ["raw", "cell"] (defScope s_law_pieces_one) := ⟨rfl, rfl, rfl, by decide +kernel, rfl, by decide +kernel, by decide +kernel⟩
def lb_law_pieces_one_225 : SM := (sSeq (sSet 5 (e2 dIx (e2 dIx (eVar 0) (eC (.int 2))) (eVar 4))) (sSeq (sSetF 6 (e2 dRep (eLst (aCons (eC (.int 1000)) aNil)) (e2 dDiv (e2 dIx (eVar 5) (eC (.int 2))) (eC (.int 1000))))) (sSeq (sIf (tB1 (e2 dGt (e2 dIx (eVar 5) (eC (.int 2))) (e2 dMul (eC (.int 1000)) (e1 dLen (eVar 6))))) (sSeq (sApp 6 (e2 dSub (e2 dIx (eVar 5) (eC (.int 2))) (e2 dMul (eC (.int 1000)) (e1 dLen (eVar 6))))) sNil) sNil) (sSeq (sIf (tAnd' (tB1 (e2 dEq (e2 dIx (eVar 2) (e2 dMod (eVar 4) (eC (.int 15)))) (eC (.int 2)))) (tB1 (e2 dGt (e2 dIx (eVar 6) (eC (.int 0))) (eC (.int 1))))) (sSeq (sSetF 6 (e2 dCat (eLst (aCons (eC (.int 1)) (aCons (e2 dSub (e2 dIx (eVar 6) (eC (.int 0))) (eC (.int 1))) aNil))) (eSl dSl (eVar 6) (oSome (eC (.int 1))) oNone))) sNil) sNil) (sSeq (sSetF 3 (e2 dCat (eVar 3) (eLc (iSeq (eVar 6)) (gmName 7) tTrue (eLst (aCons (e2 dIx (eVar 5) (eC (.int 0))) (aCons (e2 dIx (eVar 5) (eC (.int 1))) (aCons (eVar 7) aNil)))) [7]))) sNil)))))
def b_law_pieces_one : SM := (sSeq (sSet 2 (eCall m_law_digits (aCons (eVar 1) (aCons (e2 dMul (eLst (aCons (eC (.int 4)) aNil)) (eC (.int 16))) aNil)))) (sSeq (sSetF 3 (eLst aNil)) (sSeq (sFor (iRng (e1 dLen (e2 dIx (eVar 0) (eC (.int 2))))) (gmName 4) lb_law_pieces_one_225) (sSeq (sIf (tB1 (e2 dEq (e2 dIx (eVar 2) (eC (.int 15))) (eC (.int 1)))) (sSeq (sRev 3) sNil) sNil) (sSeq (sRet (eVar 3)) sNil)))))
def m_law_pieces_one : List D → R D := fnM 8 2 b_law_pieces_one
theorem w_law_pieces_one (T : Tx P w K mg base) (A_law_pieces_one : At K mg "_law_pieces_one" "_law_pieces_one" s_law_pieces_one ["raw", "cell"]) (D_law_digits : Dn P w K mg base "_law_digits" 2 ["cell", "sizes"] m_law_digits) : Dn P w K mg base "_law_pieces_one" 3 ["raw", "cell"] m_law_pieces_one :=
  dn_of (k := 2) A_law_pieces_one sc_law_pieces_one fun f cdv A outer s H E hr => (mss_cons (ms_set 2 sc_law_pieces_one.nd (me_cd D_law_digits hr pass_def (man_cons (mv 1) (man_cons (me_bin op_mul3 so_mul (MF.w (mf_lst (man_cons mint man_nil))) (ME.w mint)) man_nil)))) (mss_cons (ms_setF 3 sc_law_pieces_one.nd (mf_lst man_nil)) (mss_cons (ms_for pass_own rfl (mi_rng1 T.b_range (ME.w (me_b1 call_lenX so_len T.b_len (ME.w (me_ix hr (ME.w (mv 0)) (ME.w mint)))))) (mg_name 4 sc_law_pieces_one.nd) (mss_cons (ms_set 5 sc_law_pieces_one.nd (me_ix hr (ME.w (me_ix hr (ME.w (mv 0)) (ME.w mint))) (ME.w (mv 4)))) (mss_cons (ms_setF 6 sc_law_pieces_one.nd (mf_bin op_rep so_rep (MF.w (mf_lst (man_cons mint man_nil))) (ME.w (me_bin op_fdivW so_div (ME.w (me_ix hr (ME.w (mv 5)) (ME.w mint))) (ME.w mint))))) (mss_cons (ms_if (mt_cmp op_gt so_gt (ME.w (me_ix hr (ME.w (mv 5)) (ME.w mint))) (ME.w (me_bin op_mul3 so_mul (ME.w mint) (ME.w (me_b1 call_lenX so_len T.b_len (mo 6))))) (nomark _)) (mss_cons (ms_app 6 (me_bin op_sub so_sub (ME.w (me_ix hr (ME.w (mv 5)) (ME.w mint))) (ME.w (me_bin op_mul3 so_mul (ME.w mint) (ME.w (me_b1 call_lenX so_len T.b_len (mo 6))))))) (mss_nil (O' := [6, 3]))) (mss_nil (O' := [6, 3]))) (mss_cons (ms_if (mtw (mtw_and (mt_cmp (op_eq2 hr) so_eq (ME.w (me_ix hr (ME.w (mv 2)) (ME.w (me_bin op_mod so_mod (ME.w (mv 4)) (ME.w mint))))) (ME.w mint) (nomark _)) (mtw_and1 (mt_cmp op_gt so_gt (ME.w (me_ix hr (mo 6) (ME.w mint))) (ME.w mint) (nomark _))))) (mss_cons (ms_setF 6 sc_law_pieces_one.nd (mf_bin op_cat so_cat (MF.w (mf_lst (man_cons mint (man_cons (me_bin op_sub so_sub (ME.w (me_ix hr (mo 6) (ME.w mint))) (ME.w mint)) man_nil)))) (ME.w (me_sl (mo 6) (mo_some (ME.w mint)) mo_none)))) (mss_nil (O' := [6, 3]))) (mss_nil (O' := [6, 3]))) (mss_cons (ms_pre (O1 := [3]) (ms_setF 3 sc_law_pieces_one.nd (mf_bin op_cat so_cat (mo 3) (MF.w (mf_lc rfl sc_law_pieces_one.nd (mi_seq (mv 6)) (blkOk_by (own := [("lanes", 7)]) (N := ["raw", "cell", "row", "handed", "k", "street", "pieces", "lanes"]) (sc := defScope s_law_pieces_one) (by decide +kernel)) (fun _ _ _ _ _ => (mg_name 7 sc_law_pieces_one.nd)) (fun _ _ _ _ _ => mts_nil) (fun _ _ _ _ _ => (MF.k (mf_lst (man_cons (me_ix hr (ME.w (mv 5)) (ME.w mint)) (man_cons (me_ix hr (ME.w (mv 5)) (ME.w mint)) (man_cons (mv 7) man_nil))))))))))) (mss_nil (O' := [3])))))))) (mss_cons (ms_if (mt_cmp (op_eq2 hr) so_eq (ME.w (me_ix hr (ME.w (mv 2)) (ME.w mint))) (ME.w mint) (nomark _)) (mss_cons (ms_rev 3) (mss_nil (O' := [3]))) (mss_nil (O' := [3]))) (mss_cons (ms_pre (O1 := []) (ms_ret (mv 3))) (mss_nil (O := []) (O' := [])))))))

abbrev s_law_leaving : Stmt := topS 52
theorem sc_law_leaving : FnScope ["streets", "lot", "street"] ["streets", "lot"] (defScope s_law_leaving) := ⟨rfl, rfl, rfl, by decide +kernel, rfl, by decide +kernel, by decide +kernel⟩
def b_law_leaving : SM := (sSeq (sRet (e1 dSum (eLc (iSeq (eVar 0)) (gmName 2) (tAnd' (tB1 (e2 dEq (eCall m_law_bit (aCons (eVar 1) (aCons (e2 dIx (eVar 2) (eC (.int 0))) aNil))) (eC (.int 1)))) (tB1 (e2 dEq (eCall m_law_bit (aCons (eVar 1) (aCons (e2 dIx (eVar 2) (eC (.int 1))) aNil))) (eC (.int 0))))) (e2 dIx (eVar 2) (eC (.int 2))) [2]))) sNil)
def m_law_leaving : List D → R D := fnM 3 2 b_law_leaving
theorem w_law_leaving (T : Tx P w K mg base) (A_law_leaving : At K mg "_law_leaving" "_law_leaving" s_law_leaving ["streets", "lot"]) (D_law_bit : Dn P w K mg base "_law_bit" 2 ["lot", "number"] m_law_bit) : Dn P w K mg base "_law_leaving" 3 ["streets", "lot"] m_law_leaving :=
  dn_of (k := 2) A_law_leaving sc_law_leaving fun f cdv A outer s H E hr => (mss_cons (ms_ret (me_b1 (cr_sum rfl) so_sum T.b_sum (MF.w (mf_lc rfl sc_law_leaving.nd (mi_seq (mv 0)) (blkOk_by (own := [("street", 2)]) (N := ["streets", "lot", "street"]) (sc := defScope s_law_leaving) (by decide +kernel)) (fun _ _ _ _ _ => (mg_name 2 sc_law_leaving.nd)) (fun _ _ _ _ _ => (mts_one (mtw (mtw_and (mt_cmp (op_eq2 hr) so_eq (ME.w (me_cd D_law_bit hr pass_blk (man_cons (mv 1) (man_cons (me_ix hr (ME.w (mv 2)) (ME.w mint)) man_nil)))) (ME.w mint) (nomark _)) (mtw_and1 (mt_cmp (op_eq2 hr) so_eq (ME.w (me_cd D_law_bit hr pass_blk (man_cons (mv 1) (man_cons (me_ix hr (ME.w (mv 2)) (ME.w mint)) man_nil)))) (ME.w mint) (nomark _))))))) (fun _ _ _ _ _ => (me_ix hr (ME.w (mv 2)) (ME.w mint))))))) (mss_nil (O := []) (O' := [])))

abbrev s_law_coming : Stmt := topS 53
theorem sc_law_coming : FnScope ["streets", "lot", "street"] ["streets", "lot"] (defScope s_law_coming) := ⟨rfl, rfl, rfl, by decide +kernel, rfl, by decide +kernel, by decide +kernel⟩
def b_law_coming : SM := (sSeq (sRet (e1 dSum (eLc (iSeq (eVar 0)) (gmName 2) (tAnd' (tB1 (e2 dEq (eCall m_law_bit (aCons (eVar 1) (aCons (e2 dIx (eVar 2) (eC (.int 0))) aNil))) (eC (.int 0)))) (tB1 (e2 dEq (eCall m_law_bit (aCons (eVar 1) (aCons (e2 dIx (eVar 2) (eC (.int 1))) aNil))) (eC (.int 1))))) (e2 dIx (eVar 2) (eC (.int 2))) [2]))) sNil)
def m_law_coming : List D → R D := fnM 3 2 b_law_coming
theorem w_law_coming (T : Tx P w K mg base) (A_law_coming : At K mg "_law_coming" "_law_coming" s_law_coming ["streets", "lot"]) (D_law_bit : Dn P w K mg base "_law_bit" 2 ["lot", "number"] m_law_bit) : Dn P w K mg base "_law_coming" 3 ["streets", "lot"] m_law_coming :=
  dn_of (k := 2) A_law_coming sc_law_coming fun f cdv A outer s H E hr => (mss_cons (ms_ret (me_b1 (cr_sum rfl) so_sum T.b_sum (MF.w (mf_lc rfl sc_law_coming.nd (mi_seq (mv 0)) (blkOk_by (own := [("street", 2)]) (N := ["streets", "lot", "street"]) (sc := defScope s_law_coming) (by decide +kernel)) (fun _ _ _ _ _ => (mg_name 2 sc_law_coming.nd)) (fun _ _ _ _ _ => (mts_one (mtw (mtw_and (mt_cmp (op_eq2 hr) so_eq (ME.w (me_cd D_law_bit hr pass_blk (man_cons (mv 1) (man_cons (me_ix hr (ME.w (mv 2)) (ME.w mint)) man_nil)))) (ME.w mint) (nomark _)) (mtw_and1 (mt_cmp (op_eq2 hr) so_eq (ME.w (me_cd D_law_bit hr pass_blk (man_cons (mv 1) (man_cons (me_ix hr (ME.w (mv 2)) (ME.w mint)) man_nil)))) (ME.w mint) (nomark _))))))) (fun _ _ _ _ _ => (me_ix hr (ME.w (mv 2)) (ME.w mint))))))) (mss_nil (O := []) (O' := [])))

abbrev s_law_outs : Stmt := topS 54
theorem sc_law_outs : FnScope ["raw", "gates", "part"] ["raw", "gates"] (defScope s_law_outs) := ⟨rfl, rfl, rfl, by decide +kernel, rfl, by decide +kernel, by decide +kernel⟩
def b_law_outs : SM := (sSeq (sRet (eLc (iRng (e2 dShl (eC (.int 1)) (e2 dSub (e2 dIx (eVar 0) (eC (.int 1))) (e2 dIx (eVar 0) (eC (.int 0)))))) (gmName 2) tTrue (eCall m_law_leaving (aCons (e2 dIx (eVar 0) (eC (.int 2))) (aCons (e2 dAdd (eVar 1) (e2 dShl (eVar 2) (e2 dIx (eVar 0) (eC (.int 0))))) aNil))) [2])) sNil)
def m_law_outs : List D → R D := fnM 3 2 b_law_outs
theorem w_law_outs (T : Tx P w K mg base) (A_law_outs : At K mg "_law_outs" "_law_outs" s_law_outs ["raw", "gates"]) (D_law_leaving : Dn P w K mg base "_law_leaving" 3 ["streets", "lot"] m_law_leaving) : Dn P w K mg base "_law_outs" 4 ["raw", "gates"] m_law_outs :=
  dn_of (k := 3) A_law_outs sc_law_outs fun f cdv A outer s H E hr => (mss_cons (ms_ret (MF.k (mf_lc rfl sc_law_outs.nd (mi_rng1 T.b_range (ME.w (me_bin op_shl so_shl (ME.w mint) (ME.w (me_bin op_sub so_sub (ME.w (me_ix hr (ME.w (mv 0)) (ME.w mint))) (ME.w (me_ix hr (ME.w (mv 0)) (ME.w mint)))))))) (blkOk_by (own := [("part", 2)]) (N := ["raw", "gates", "part"]) (sc := defScope s_law_outs) (by decide +kernel)) (fun _ _ _ _ _ => (mg_name 2 sc_law_outs.nd)) (fun _ _ _ _ _ => mts_nil) (fun _ _ _ _ _ => (me_cd D_law_leaving hr pass_blk (man_cons (me_ix hr (ME.w (mv 0)) (ME.w mint)) (man_cons (me_bin op_add3 so_add (ME.w (mv 1)) (ME.w (me_bin op_shl so_shl (ME.w (mv 2)) (ME.w (me_ix hr (ME.w (mv 0)) (ME.w mint)))))) man_nil))))))) (mss_nil (O := []) (O' := [])))

abbrev s_law_ins : Stmt := topS 55
theorem sc_law_ins : FnScope ["raw", "gates", "part"] ["raw", "gates"] (defScope s_law_ins) := ⟨rfl, rfl, rfl, by decide +kernel, rfl, by decide +kernel, by decide +kernel⟩
def b_law_ins : SM := (sSeq (sRet (eLc (iRng (e2 dShl (eC (.int 1)) (e2 dSub (e2 dIx (eVar 0) (eC (.int 1))) (e2 dIx (eVar 0) (eC (.int 0)))))) (gmName 2) tTrue (eCall m_law_coming (aCons (e2 dIx (eVar 0) (eC (.int 2))) (aCons (e2 dAdd (eVar 1) (e2 dShl (eVar 2) (e2 dIx (eVar 0) (eC (.int 0))))) aNil))) [2])) sNil)
def m_law_ins : List D → R D := fnM 3 2 b_law_ins
theorem w_law_ins (T : Tx P w K mg base) (A_law_ins : At K mg "_law_ins" "_law_ins" s_law_ins ["raw", "gates"]) (D_law_coming : Dn P w K mg base "_law_coming" 3 ["streets", "lot"] m_law_coming) : Dn P w K mg base "_law_ins" 4 ["raw", "gates"] m_law_ins :=
  dn_of (k := 3) A_law_ins sc_law_ins fun f cdv A outer s H E hr => (mss_cons (ms_ret (MF.k (mf_lc rfl sc_law_ins.nd (mi_rng1 T.b_range (ME.w (me_bin op_shl so_shl (ME.w mint) (ME.w (me_bin op_sub so_sub (ME.w (me_ix hr (ME.w (mv 0)) (ME.w mint))) (ME.w (me_ix hr (ME.w (mv 0)) (ME.w mint)))))))) (blkOk_by (own := [("part", 2)]) (N := ["raw", "gates", "part"]) (sc := defScope s_law_ins) (by decide +kernel)) (fun _ _ _ _ _ => (mg_name 2 sc_law_ins.nd)) (fun _ _ _ _ _ => mts_nil) (fun _ _ _ _ _ => (me_cd D_law_coming hr pass_blk (man_cons (me_ix hr (ME.w (mv 0)) (ME.w mint)) (man_cons (me_bin op_add3 so_add (ME.w (mv 1)) (ME.w (me_bin op_shl so_shl (ME.w (mv 2)) (ME.w (me_ix hr (ME.w (mv 0)) (ME.w mint)))))) man_nil))))))) (mss_nil (O := []) (O' := [])))

abbrev s_check_places : Stmt := topS 22
theorem sc_check_places : FnScope ["net", "lot"] ["net", "lot"] (defScope s_check_places) := ⟨rfl, rfl, rfl, by decide +kernel, rfl, by decide +kernel, by decide +kernel⟩
def b_check_places : SM := (sSeq (sIf (tOr' (tNot' (tB1 (eCall m_is_lot (aCons (eVar 1) aNil)))) (tB1 (e2 dNe (e2 dShr (eVar 1) (eLenO "OneWayNet" m_OneWayNet_len (eVar 0))) (eC (.int 0))))) (sSeq (sRaise1 "BadLot" "lot" (eVar 1)) sNil) sNil) sNil)
def m_check_places : List D → R D := fnM 2 2 b_check_places
theorem w_check_places (T : Tx P w K mg base) (A_check_places : At K mg "check_places" "check_places" s_check_places ["net", "lot"]) (D_is_lot : Dn P w K mg base "is_lot" 3 ["value"] m_is_lot) (D_OneWayNet_len : LenD P w K mg base "OneWayNet" 2 m_OneWayNet_len) : Dn P w K mg base "check_places" 4 ["net", "lot"] m_check_places :=
  dn_of (k := 3) A_check_places sc_check_places fun f cdv A outer s H E hr => (mss_cons (ms_if (mtw (mtw_or (mt_not (mt_val (ME.w (me_cd D_is_lot hr pass_def (man_cons (mv 1) man_nil))))) (mtw_or1 (mt_cmp (op_ne2 hr) so_ne (ME.w (me_bin op_shr so_shr (ME.w (mv 1)) (ME.w (me_lenO D_OneWayNet_len.toC (hr.mono (by decide)) T.b_len (mv 0))))) (ME.w mint) (nomark _))))) (mss_cons (ms_raise1 (k := 0) T.x_BadLot.toC rfl (hr.mono (by decide)) (takes_of rfl rfl rfl rfl) (mv 1)) (mss_nil (O := []) (O' := []))) (mss_nil (O' := []))) (mss_nil (O' := [])))

abbrev s_leaving : Stmt := topS 30
theorem sc_leaving : FnScope ["net", "lot"] ["net", "lot"] (defScope s_leaving) := ⟨rfl, rfl, rfl, by decide +kernel, rfl, by decide +kernel, by decide +kernel⟩
def b_leaving : SM := (sSeq (sDrop (eCall m_check_places (aCons (eVar 0) (aCons (eVar 1) aNil)))) (sSeq (sRet (eCall m_lanes_leaving (aCons (eVar 0) (aCons (eVar 1) aNil)))) sNil))
def m_leaving : List D → R D := fnM 2 2 b_leaving
theorem w_leaving (T : Tx P w K mg base) (A_leaving : At K mg "leaving" "leaving" s_leaving ["net", "lot"]) (D_check_places : Dn P w K mg base "check_places" 4 ["net", "lot"] m_check_places) (D_lanes_leaving : Dn P w K mg base "lanes_leaving" 3 ["net", "lot"] m_lanes_leaving) : Dn P w K mg base "leaving" 5 ["net", "lot"] m_leaving :=
  dn_of (k := 4) A_leaving sc_leaving fun f cdv A outer s H E hr => (mss_cons (ms_expr (ME.w (me_cd D_check_places hr pass_def (man_cons (mv 0) (man_cons (mv 1) man_nil))))) (mss_cons (ms_ret (me_cd D_lanes_leaving hr pass_def (man_cons (mv 0) (man_cons (mv 1) man_nil)))) (mss_nil (O := []) (O' := []))))

abbrev s_coming : Stmt := topS 31
theorem sc_coming : FnScope ["net", "lot"] ["net", "lot"] (defScope s_coming) := ⟨rfl, rfl, rfl, by decide +kernel, rfl, by decide +kernel, by decide +kernel⟩
def b_coming : SM := (sSeq (sDrop (eCall m_check_places (aCons (eVar 0) (aCons (eVar 1) aNil)))) (sSeq (sRet (eCall m_lanes_coming (aCons (eVar 0) (aCons (eVar 1) aNil)))) sNil))
def m_coming : List D → R D := fnM 2 2 b_coming
theorem w_coming (T : Tx P w K mg base) (A_coming : At K mg "coming" "coming" s_coming ["net", "lot"]) (D_check_places : Dn P w K mg base "check_places" 4 ["net", "lot"] m_check_places) (D_lanes_coming : Dn P w K mg base "lanes_coming" 3 ["net", "lot"] m_lanes_coming) : Dn P w K mg base "coming" 5 ["net", "lot"] m_coming :=
  dn_of (k := 4) A_coming sc_coming fun f cdv A outer s H E hr => (mss_cons (ms_expr (ME.w (me_cd D_check_places hr pass_def (man_cons (mv 0) (man_cons (mv 1) man_nil))))) (mss_cons (ms_ret (me_cd D_lanes_coming hr pass_def (man_cons (mv 0) (man_cons (mv 1) man_nil)))) (mss_nil (O := []) (O' := []))))

abbrev s_inner_lot : Stmt := topS 32
theorem sc_inner_lot : FnScope ["net"] ["net"] (defScope s_inner_lot) := ⟨rfl, rfl, rfl, by decide +kernel, rfl, by decide +kernel, by decide +kernel⟩
def b_inner_lot : SM := (sSeq (sRet (e2 dSub (e2 dShl (eC (.int 1)) (eLenO "OneWayNet" m_OneWayNet_len (eVar 0))) (e2 dShl (eC (.int 1)) (e1 (dFld cs_many "many") (eVar 0))))) sNil)
def m_inner_lot : List D → R D := fnM 1 1 b_inner_lot
theorem w_inner_lot (T : Tx P w K mg base) (A_inner_lot : At K mg "inner_lot" "inner_lot" s_inner_lot ["net"]) (D_OneWayNet_len : LenD P w K mg base "OneWayNet" 2 m_OneWayNet_len) : Dn P w K mg base "inner_lot" 4 ["net"] m_inner_lot :=
  dn_of (k := 3) A_inner_lot sc_inner_lot fun f cdv A outer s H E hr => (mss_cons (ms_ret (me_bin op_sub so_sub (ME.w (me_bin op_shl so_shl (ME.w mint) (ME.w (me_lenO D_OneWayNet_len.toC (hr.mono (by decide)) T.b_len (mv 0))))) (ME.w (me_bin op_shl so_shl (ME.w mint) (ME.w (me_fld T.f_many.toC (ME.w (mv 0)))))))) (mss_nil (O := []) (O' := [])))

abbrev s_least_outward : Stmt := topS 33
theorem sc_least_outward : FnScope ["net", "lot", "part"] ["net", "lot"] (defScope s_least_outward) := ⟨rfl, rfl, rfl, by decide +kernel, rfl, by decide +kernel, by decide +kernel⟩
def b_least_outward : SM := (sSeq (sRet (e1 dMin (eLc (iSeq (eListG g_sub_lots (aCons (eCall m_inner_lot (aCons (eVar 0) aNil)) aNil))) (gmName 2) tTrue (eCall m_lanes_leaving (aCons (eVar 0) (aCons (e2 dOr (eVar 1) (eVar 2)) aNil))) [2]))) sNil)
def m_least_outward : List D → R D := fnM 3 2 b_least_outward
theorem w_least_outward (T : Tx P w K mg base) (A_least_outward : At K mg "least_outward" "least_outward" s_least_outward ["net", "lot"]) (D_sub_lots : Gn P w K mg base "sub_lots" 2 ["lot"] g_sub_lots) (D_inner_lot : Dn P w K mg base "inner_lot" 4 ["net"] m_inner_lot) (D_lanes_leaving : Dn P w K mg base "lanes_leaving" 3 ["net", "lot"] m_lanes_leaving) : Dn P w K mg base "least_outward" 6 ["net", "lot"] m_least_outward :=
  dn_of (k := 5) A_least_outward sc_least_outward fun f cdv A outer s H E hr => (mss_cons (ms_ret (me_b1 (cr_min rfl) so_min T.b_min (MF.w (mf_lc rfl sc_least_outward.nd (mi_seq (MF.k (mf_lg D_sub_lots hr T.b_list (man_cons (me_cd D_inner_lot hr pass_def (man_cons (mv 0) man_nil)) man_nil)))) (blkOk_by (own := [("part", 2)]) (N := ["net", "lot", "part"]) (sc := defScope s_least_outward) (by decide +kernel)) (fun _ _ _ _ _ => (mg_name 2 sc_least_outward.nd)) (fun _ _ _ _ _ => mts_nil) (fun _ _ _ _ _ => (me_cd D_lanes_leaving hr pass_blk (man_cons (mv 0) (man_cons (me_bin op_or so_or (ME.w (mv 1)) (ME.w (mv 2))) man_nil)))))))) (mss_nil (O := []) (O' := [])))

abbrev s_outward : Stmt := topS 34
theorem sc_outward : FnScope ["net", "lot"] ["net", "lot"] (defScope s_outward) := ⟨rfl, rfl, rfl, by decide +kernel, rfl, by decide +kernel, by decide +kernel⟩
def b_outward : SM := (sSeq (sDrop (eCall m_check_proper (aCons (eVar 0) (aCons (eVar 1) aNil)))) (sSeq (sRet (eCall m_least_outward (aCons (eVar 0) (aCons (eVar 1) aNil)))) sNil))
def m_outward : List D → R D := fnM 2 2 b_outward
theorem w_outward (T : Tx P w K mg base) (A_outward : At K mg "outward" "outward" s_outward ["net", "lot"]) (D_check_proper : Dn P w K mg base "check_proper" 4 ["net", "lot"] m_check_proper) (D_least_outward : Dn P w K mg base "least_outward" 6 ["net", "lot"] m_least_outward) : Dn P w K mg base "outward" 7 ["net", "lot"] m_outward :=
  dn_of (k := 6) A_outward sc_outward fun f cdv A outer s H E hr => (mss_cons (ms_expr (ME.w (me_cd D_check_proper hr pass_def (man_cons (mv 0) (man_cons (mv 1) man_nil))))) (mss_cons (ms_ret (me_cd D_least_outward hr pass_def (man_cons (mv 0) (man_cons (mv 1) man_nil)))) (mss_nil (O := []) (O' := []))))

abbrev s_inward : Stmt := topS 35
theorem sc_inward : FnScope ["net", "lot", "part"] ["net", "lot"] (defScope s_inward) := ⟨rfl, rfl, rfl, by decide +kernel, rfl, by decide +kernel, by decide +kernel⟩
def b_inward : SM := (sSeq (sDrop (eCall m_check_proper (aCons (eVar 0) (aCons (eVar 1) aNil)))) (sSeq (sRet (e1 dMin (eLc (iSeq (eListG g_sub_lots (aCons (eCall m_inner_lot (aCons (eVar 0) aNil)) aNil))) (gmName 2) tTrue (eCall m_lanes_coming (aCons (eVar 0) (aCons (e2 dOr (eVar 1) (eVar 2)) aNil))) [2]))) sNil))
def m_inward : List D → R D := fnM 3 2 b_inward
theorem w_inward (T : Tx P w K mg base) (A_inward : At K mg "inward" "inward" s_inward ["net", "lot"]) (D_check_proper : Dn P w K mg base "check_proper" 4 ["net", "lot"] m_check_proper) (D_sub_lots : Gn P w K mg base "sub_lots" 2 ["lot"] g_sub_lots) (D_inner_lot : Dn P w K mg base "inner_lot" 4 ["net"] m_inner_lot) (D_lanes_coming : Dn P w K mg base "lanes_coming" 3 ["net", "lot"] m_lanes_coming) : Dn P w K mg base "inward" 6 ["net", "lot"] m_inward :=
  dn_of (k := 5) A_inward sc_inward fun f cdv A outer s H E hr => (mss_cons (ms_expr (ME.w (me_cd D_check_proper hr pass_def (man_cons (mv 0) (man_cons (mv 1) man_nil))))) (mss_cons (ms_ret (me_b1 (cr_min rfl) so_min T.b_min (MF.w (mf_lc rfl sc_inward.nd (mi_seq (MF.k (mf_lg D_sub_lots hr T.b_list (man_cons (me_cd D_inner_lot hr pass_def (man_cons (mv 0) man_nil)) man_nil)))) (blkOk_by (own := [("part", 2)]) (N := ["net", "lot", "part"]) (sc := defScope s_inward) (by decide +kernel)) (fun _ _ _ _ _ => (mg_name 2 sc_inward.nd)) (fun _ _ _ _ _ => mts_nil) (fun _ _ _ _ _ => (me_cd D_lanes_coming hr pass_blk (man_cons (mv 0) (man_cons (me_bin op_or so_or (ME.w (mv 1)) (ME.w (mv 2))) man_nil)))))))) (mss_nil (O := []) (O' := []))))

abbrev s_law_refused : Stmt := topS 56
theorem sc_law_refused : FnScope ["net", "lot", "asked", "e"] ["net", "lot", "asked"] (defScope s_law_refused) := ⟨rfl, rfl, rfl, by decide +kernel, rfl, by decide +kernel, by decide +kernel⟩
def b_law_refused : SM := (sSeq (sTry (sSeq (sIf (tB1 (e2 dEq (eVar 2) (eC (.int 0)))) (sSeq (sDrop (eCall m_leaving (aCons (eVar 0) (aCons (eVar 1) aNil)))) sNil) (sSeq (sIf (tB1 (e2 dEq (eVar 2) (eC (.int 1)))) (sSeq (sDrop (eCall m_coming (aCons (eVar 0) (aCons (eVar 1) aNil)))) sNil) (sSeq (sIf (tB1 (e2 dEq (eVar 2) (eC (.int 2)))) (sSeq (sDrop (eCall m_outward (aCons (eVar 0) (aCons (eVar 1) aNil)))) sNil) (sSeq (sDrop (eCall m_inward (aCons (eVar 0) (aCons (eVar 1) aNil)))) sNil)) sNil)) sNil)) sNil) tb_BadLot 3 (hRet (hAnd (hIs tb_TownError) (hAnd (hNot (hIs tb_Unbalanced)) (h2 dEq (hLst (hCons (hFld xs_lot "lot") hNil)) (hOf (eLst (aCons (eVar 1) aNil)))))))) (sSeq (sRet (eC (.bl false))) sNil))
def m_law_refused : List D → R D := fnM 4 3 b_law_refused
theorem w_law_refused (T : Tx P w K mg base) (A_law_refused : At K mg "_law_refused" "_law_refused" s_law_refused ["net", "lot", "asked"]) (D_leaving : Dn P w K mg base "leaving" 5 ["net", "lot"] m_leaving) (D_coming : Dn P w K mg base "coming" 5 ["net", "lot"] m_coming) (D_outward : Dn P w K mg base "outward" 7 ["net", "lot"] m_outward) (D_inward : Dn P w K mg base "inward" 6 ["net", "lot"] m_inward) : Dn P w K mg base "_law_refused" 8 ["net", "lot", "asked"] m_law_refused :=
  dn_of (k := 7) A_law_refused sc_law_refused fun f cdv A outer s H E hr => (mss_cons (ms_try 3 sc_law_refused.nd T.k_BadLot (takes_of rfl rfl rfl rfl) (fun W pn xe tk1 po1 => (mss_cons (ms_if (mt_cmp (op_eq2 hr) so_eq (ME.w (mv 2)) (ME.w mint) (nomark _)) (mss_cons (ms_expr (ME.w (me_cd D_leaving hr (passAt tk1) (man_cons (mv 0) (man_cons (mv 1) man_nil))))) (mss_nil (O' := []))) (mss_cons (ms_if (mt_cmp (op_eq2 hr) so_eq (ME.w (mv 2)) (ME.w mint) (nomark _)) (mss_cons (ms_expr (ME.w (me_cd D_coming hr (passAt tk1) (man_cons (mv 0) (man_cons (mv 1) man_nil))))) (mss_nil (O' := []))) (mss_cons (ms_if (mt_cmp (op_eq2 hr) so_eq (ME.w (mv 2)) (ME.w mint) (nomark _)) (mss_cons (ms_expr (ME.w (me_cd D_outward hr (passAt tk1) (man_cons (mv 0) (man_cons (mv 1) man_nil))))) (mss_nil (O' := []))) (mss_cons (ms_expr (ME.w (me_cd D_inward hr (passAt tk1) (man_cons (mv 0) (man_cons (mv 1) man_nil))))) (mss_nil (O' := [])))) (mss_nil (O' := [])))) (mss_nil (O' := [])))) (mss_nil (O' := [])))) (fun a oe cls d pn hz hf => (yss_one (ys_ret (ye_and (ye_is T.i_TownError hz hf T.b_isinstance) (ye_and (ye_not (ye_is T.i_Unbalanced hz hf T.b_isinstance)) (ye_one (ye_cmp (op_eqS hr) so_eq (ye_lst (ya_cons (ye_fld T.g_lot hz hf) ya_nil)) (ye_of (MF.k (mf_lst (man_cons (mv 1) man_nil)))) (nomark _))))))))) (mss_cons (ms_ret mbl) (mss_nil (O := []) (O' := []))))

abbrev s_law_lot_holds : Stmt := topS 57
theorem sc_law_lot_holds : FnScope ["net", "raw", "lot", "balanced", "full", "outs", "ins", "told", "gaps", "gates", "low", "k", "gate"] ["net", "raw", "lot", "balanced"] (defScope s_law_lot_holds) := ⟨rfl, rfl, rfl, by decide +kernel, rfl, by decide +kernel, by decide +kernel⟩
def b_law_lot_holds : SM := (sSeq (sSet 4 (e2 dSub (e2 dShl (eC (.int 1)) (e2 dIx (eVar 1) (eC (.int 0)))) (eC (.int 1)))) (sSeq (sSet 5 (eCall m_law_outs (aCons (eVar 1) (aCons (eVar 2) aNil)))) (sSeq (sSet 6 (eCall m_law_ins (aCons (eVar 1) (aCons (eVar 2) aNil)))) (sSeq (sSet 7 (eLst (aCons (eCall m_outward (aCons (eVar 0) (aCons (eVar 2) aNil))) (aCons (eCall m_inward (aCons (eVar 0) (aCons (eVar 2) aNil))) aNil)))) (sSeq (sIf (tOr' (tNot' (tB1 (eCall m_law_whole (aCons (e2 dIx (eVar 7) (eC (.int 0))) aNil)))) (tOr' (tNot' (tB1 (eCall m_law_whole (aCons (e2 dIx (eVar 7) (eC (.int 1))) aNil)))) (tB1 (e2 dNe (eVar 7) (eLst (aCons (e1 dMin (eVar 5)) (aCons (e1 dMin (eVar 6)) aNil))))))) (sSeq (sRet (eC (.bl false))) sNil) sNil) (sSeq (sIf (tOr' (tB1 (e2 dNe (eCall m_outward (aCons (eVar 0) (aCons (e2 dSub (eVar 4) (eVar 2)) aNil))) (e1 dMin (eVar 6)))) (tB1 (e2 dNe (eCall m_inward (aCons (eVar 0) (aCons (e2 dSub (eVar 4) (eVar 2)) aNil))) (e1 dMin (eVar 5))))) (sSeq (sRet (eC (.bl false))) sNil) sNil) (sSeq (sIf (tB1 (eVar 3)) (sSeq (sSet 8 (eLc (iRng (e1 dLen (eVar 5))) (gmName 11) tTrue (e2 dSub (e2 dIx (eVar 5) (eVar 11)) (e2 dIx (eVar 6) (eVar 11))) [11])) (sSeq (sIf (tB1 (e2 dNe (eVar 8) (e2 dMul (eLst (aCons (e2 dIx (eVar 8) (eC (.int 0))) aNil)) (e1 dLen (eVar 8))))) (sSeq (sRet (eC (.bl false))) sNil) sNil) (sSeq (sSet 9 (eLc (iRng (e2 dIx (eVar 1) (eC (.int 0)))) (gmName 12) (tB1 (e2 dEq (eCall m_law_bit (aCons (eVar 2) (aCons (eVar 12) aNil))) (eC (.int 1)))) (eVar 12) [12])) (sSeq (sIf (tB1 (e2 dNe (e2 dIx (eVar 8) (eC (.int 0))) (e1 dSum (eLc (iSeq (eVar 9)) (gmName 12) tTrue (e2 dSub (eCall m_law_out (aCons (e2 dIx (eVar 1) (eC (.int 2))) (aCons (eVar 12) aNil))) (eCall m_law_in (aCons (e2 dIx (eVar 1) (eC (.int 2))) (aCons (eVar 12) aNil)))) [12])))) (sSeq (sRet (eC (.bl false))) sNil) sNil) (sSeq (sSet 10 (eLc (iRng (e1 dLen (eVar 5))) (gmName 11) (tB1 (e2 dEq (e2 dIx (eVar 5) (eVar 11)) (e1 dMin (eVar 5)))) (eVar 11) [11])) (sSeq (sIf (tB1 (e2 dNe (eVar 10) (eLc (iRng (e1 dLen (eVar 6))) (gmName 11) (tB1 (e2 dEq (e2 dIx (eVar 6) (eVar 11)) (e1 dMin (eVar 6)))) (eVar 11) [11]))) (sSeq (sRet (eC (.bl false))) sNil) sNil) sNil)))))) sNil) (sSeq (sRet (eC (.bl true))) sNil))))))))
def m_law_lot_holds : List D → R D := fnM 13 4 b_law_lot_holds
theorem w_law_lot_holds (T : Tx P w K mg base) (A_law_lot_holds : At K mg "_law_lot_holds" "_law_lot_holds" s_law_lot_holds ["net", "raw", "lot", "balanced"]) (D_law_outs : Dn P w K mg base "_law_outs" 4 ["raw", "gates"] m_law_outs) (D_law_ins : Dn P w K mg base "_law_ins" 4 ["raw", "gates"] m_law_ins) (D_outward : Dn P w K mg base "outward" 7 ["net", "lot"] m_outward) (D_inward : Dn P w K mg base "inward" 6 ["net", "lot"] m_inward) (D_law_whole : Dn P w K mg base "_law_whole" 2 ["value"] m_law_whole) (D_law_bit : Dn P w K mg base "_law_bit" 2 ["lot", "number"] m_law_bit) (D_law_out : Dn P w K mg base "_law_out" 2 ["streets", "place"] m_law_out) (D_law_in : Dn P w K mg base "_law_in" 2 ["streets", "place"] m_law_in) : Dn P w K mg base "_law_lot_holds" 8 ["net", "raw", "lot", "balanced"] m_law_lot_holds :=
  dn_of (k := 7) A_law_lot_holds sc_law_lot_holds fun f cdv A outer s H E hr => (mss_cons (ms_set 4 sc_law_lot_holds.nd (me_bin op_sub so_sub (ME.w (me_bin op_shl so_shl (ME.w mint) (ME.w (me_ix hr (ME.w (mv 1)) (ME.w mint))))) (ME.w mint))) (mss_cons (ms_set 5 sc_law_lot_holds.nd (me_cd D_law_outs hr pass_def (man_cons (mv 1) (man_cons (mv 2) man_nil)))) (mss_cons (ms_set 6 sc_law_lot_holds.nd (me_cd D_law_ins hr pass_def (man_cons (mv 1) (man_cons (mv 2) man_nil)))) (mss_cons (ms_set 7 sc_law_lot_holds.nd (MF.k (mf_lst (man_cons (me_cd D_outward hr pass_def (man_cons (mv 0) (man_cons (mv 2) man_nil))) (man_cons (me_cd D_inward hr pass_def (man_cons (mv 0) (man_cons (mv 2) man_nil))) man_nil))))) (mss_cons (ms_if (mtw (mtw_or (mt_not (mt_val (ME.w (me_cd D_law_whole hr pass_def (man_cons (me_ix hr (ME.w (mv 7)) (ME.w mint)) man_nil))))) (mtw_or (mt_not (mt_val (ME.w (me_cd D_law_whole hr pass_def (man_cons (me_ix hr (ME.w (mv 7)) (ME.w mint)) man_nil))))) (mtw_or1 (mt_cmp (op_ne2 hr) so_ne (ME.w (mv 7)) (MF.w (mf_lst (man_cons (me_b1 (cr_min rfl) so_min T.b_min (ME.w (mv 5))) (man_cons (me_b1 (cr_min rfl) so_min T.b_min (ME.w (mv 6))) man_nil)))) (nomark _)))))) (mss_cons (ms_ret mbl) (mss_nil (O := []) (O' := []))) (mss_nil (O' := []))) (mss_cons (ms_if (mtw (mtw_or (mt_cmp (op_ne2 hr) so_ne (ME.w (me_cd D_outward hr pass_def (man_cons (mv 0) (man_cons (me_bin op_sub so_sub (ME.w (mv 4)) (ME.w (mv 2))) man_nil)))) (ME.w (me_b1 (cr_min rfl) so_min T.b_min (ME.w (mv 6)))) (nomark _)) (mtw_or1 (mt_cmp (op_ne2 hr) so_ne (ME.w (me_cd D_inward hr pass_def (man_cons (mv 0) (man_cons (me_bin op_sub so_sub (ME.w (mv 4)) (ME.w (mv 2))) man_nil)))) (ME.w (me_b1 (cr_min rfl) so_min T.b_min (ME.w (mv 5)))) (nomark _))))) (mss_cons (ms_ret mbl) (mss_nil (O := []) (O' := []))) (mss_nil (O' := []))) (mss_cons (ms_if (mt_val (ME.w (mv 3))) (mss_cons (ms_lc 8 rfl sc_law_lot_holds.nd (mi_rng1 T.b_range (ME.w (me_b1 call_lenX so_len T.b_len (ME.w (mv 5))))) (blkOk_by (own := [("k", 11)]) (N := ["net", "raw", "lot", "balanced", "full", "outs", "ins", "told", "gaps", "gates", "low", "k", "gate"]) (sc := defScope s_law_lot_holds) (by decide +kernel)) (fun _ _ _ _ _ => (mg_name 11 sc_law_lot_holds.nd)) (fun _ _ _ _ _ => mts_nil) (fun _ _ _ _ _ => (me_bin op_sub so_sub (ME.w (me_ix hr (ME.w (mv 5)) (ME.w (mv 11)))) (ME.w (me_ix hr (ME.w (mv 6)) (ME.w (mv 11))))))) (mss_cons (ms_if (mt_cmp (op_ne2 hr) so_ne (ME.w (mv 8)) (ME.w (me_bin op_mul3 so_mul (MF.w (mf_lst (man_cons (me_ix hr (ME.w (mv 8)) (ME.w mint)) man_nil))) (ME.w (me_b1 call_lenX so_len T.b_len (ME.w (mv 8)))))) (nomark _)) (mss_cons (ms_ret mbl) (mss_nil (O := []) (O' := []))) (mss_nil (O' := []))) (mss_cons (ms_lc 9 rfl sc_law_lot_holds.nd (mi_rng1 T.b_range (ME.w (me_ix hr (ME.w (mv 1)) (ME.w mint)))) (blkOk_by (own := [("gate", 12)]) (N := ["net", "raw", "lot", "balanced", "full", "outs", "ins", "told", "gaps", "gates", "low", "k", "gate"]) (sc := defScope s_law_lot_holds) (by decide +kernel)) (fun _ _ _ _ _ => (mg_name 12 sc_law_lot_holds.nd)) (fun _ _ _ _ _ => (mts_one (mt_cmp (op_eq2 hr) so_eq (ME.w (me_cd D_law_bit hr pass_blk (man_cons (mv 2) (man_cons (mv 12) man_nil)))) (ME.w mint) (nomark _)))) (fun _ _ _ _ _ => (mv 12))) (mss_cons (ms_if (mt_cmp (op_ne2 hr) so_ne (ME.w (me_ix hr (ME.w (mv 8)) (ME.w mint))) (ME.w (me_b1 (cr_sum rfl) so_sum T.b_sum (MF.w (mf_lc rfl sc_law_lot_holds.nd (mi_seq (mv 9)) (blkOk_by (own := [("gate", 12)]) (N := ["net", "raw", "lot", "balanced", "full", "outs", "ins", "told", "gaps", "gates", "low", "k", "gate"]) (sc := defScope s_law_lot_holds) (by decide +kernel)) (fun _ _ _ _ _ => (mg_name 12 sc_law_lot_holds.nd)) (fun _ _ _ _ _ => mts_nil) (fun _ _ _ _ _ => (me_bin op_sub so_sub (ME.w (me_cd D_law_out hr pass_blk (man_cons (me_ix hr (ME.w (mv 1)) (ME.w mint)) (man_cons (mv 12) man_nil)))) (ME.w (me_cd D_law_in hr pass_blk (man_cons (me_ix hr (ME.w (mv 1)) (ME.w mint)) (man_cons (mv 12) man_nil)))))))))) (nomark _)) (mss_cons (ms_ret mbl) (mss_nil (O := []) (O' := []))) (mss_nil (O' := []))) (mss_cons (ms_lc 10 rfl sc_law_lot_holds.nd (mi_rng1 T.b_range (ME.w (me_b1 call_lenX so_len T.b_len (ME.w (mv 5))))) (blkOk_by (own := [("k", 11)]) (N := ["net", "raw", "lot", "balanced", "full", "outs", "ins", "told", "gaps", "gates", "low", "k", "gate"]) (sc := defScope s_law_lot_holds) (by decide +kernel)) (fun _ _ _ _ _ => (mg_name 11 sc_law_lot_holds.nd)) (fun _ _ _ _ _ => (mts_one (mt_cmp (op_eq2 hr) so_eq (ME.w (me_ix hr (ME.w (mv 5)) (ME.w (mv 11)))) (ME.w (me_b1 (cr_min rfl) so_min T.b_min (ME.w (mv 5)))) (nomark _)))) (fun _ _ _ _ _ => (mv 11))) (mss_cons (ms_if (mt_cmp (op_ne2 hr) so_ne (ME.w (mv 10)) (MF.w (mf_lc rfl sc_law_lot_holds.nd (mi_rng1 T.b_range (ME.w (me_b1 call_lenX so_len T.b_len (ME.w (mv 6))))) (blkOk_by (own := [("k", 11)]) (N := ["net", "raw", "lot", "balanced", "full", "outs", "ins", "told", "gaps", "gates", "low", "k", "gate"]) (sc := defScope s_law_lot_holds) (by decide +kernel)) (fun _ _ _ _ _ => (mg_name 11 sc_law_lot_holds.nd)) (fun _ _ _ _ _ => (mts_one (mt_cmp (op_eq2 hr) so_eq (ME.w (me_ix hr (ME.w (mv 6)) (ME.w (mv 11)))) (ME.w (me_b1 (cr_min rfl) so_min T.b_min (ME.w (mv 6)))) (nomark _)))) (fun _ _ _ _ _ => (mv 11)))) (nomark _)) (mss_cons (ms_ret mbl) (mss_nil (O := []) (O' := []))) (mss_nil (O' := []))) (mss_nil (O' := [])))))))) (mss_nil (O' := []))) (mss_cons (ms_ret mbl) (mss_nil (O := []) (O' := []))))))))))

abbrev s_law : Stmt := topS 58
theorem sc_law : FnScope ["script", "kind", "raw", "g", "n", "names", "net", "even", "place", "lot", "drawn", "told", "bad", "wrong", "asked"] ["script"] (defScope s_law) := ⟨rfl, rfl, rfl, by decide +kernel, rfl, by decide +kernel, by decide +kernel⟩
def lb_law_299 : SM := (sSeq (sIf (tNot' (tB1 (eCall m_law_refused (aCons (eVar 6) (aCons (eVar 12) (aCons (eVar 14) aNil)))))) (sSeq (sRet (eC (.bl false))) sNil) sNil) (sSeq (sIf (tAnd' (tB1 (e2 dGt (eVar 14) (eC (.int 1)))) (tB1 (e2 dGt (e1 dLen (eLc (iSeq (eVar 13)) (gmName 9) (tNot' (tB1 (eCall m_law_refused (aCons (eVar 6) (aCons (eVar 9) (aCons (eVar 14) aNil)))))) (eVar 9) [9])) (eC (.int 0))))) (sSeq (sRet (eC (.bl false))) sNil) sNil) sNil))
def lb_law_293 : SM := (sSeq (sSet 11 (eLst (aCons (eCall m_leaving (aCons (eVar 6) (aCons (eVar 9) aNil))) (aCons (eCall m_coming (aCons (eVar 6) (aCons (eVar 9) aNil))) aNil)))) (sSeq (sIf (tOr' (tB1 (e2 dNe (eVar 11) (eLst (aCons (eCall m_law_leaving (aCons (e2 dIx (eVar 2) (eC (.int 2))) (aCons (eVar 9) aNil))) (aCons (eCall m_law_coming (aCons (e2 dIx (eVar 2) (eC (.int 2))) (aCons (eVar 9) aNil))) aNil))))) (tOr' (tNot' (tB1 (eCall m_law_whole (aCons (e2 dIx (eVar 11) (eC (.int 0))) aNil)))) (tNot' (tB1 (eCall m_law_whole (aCons (e2 dIx (eVar 11) (eC (.int 1))) aNil)))))) (sSeq (sRet (eC (.bl false))) sNil) sNil) sNil))
def lb_law_289 : SM := (sSeq (sIf (tNot' (tB1 (eCall m_law_lot_holds (aCons (eVar 6) (aCons (eVar 2) (aCons (eVar 9) (aCons (eVar 7) aNil))))))) (sSeq (sRet (eC (.bl false))) sNil) sNil) sNil)
def lb_law_287 : SM := (sSeq (sSet 7 (eAnd (eVar 7) (e2 dEq (eCall m_law_out (aCons (e2 dIx (eVar 2) (eC (.int 2))) (aCons (eVar 8) aNil))) (eCall m_law_in (aCons (e2 dIx (eVar 2) (eC (.int 2))) (aCons (eVar 8) aNil)))))) sNil)
def b_law : SM := (sSeq (sSet 1 (eCall m_law_digits (aCons (eCall m_law_cell (aCons (eVar 0) (aCons (eC (.int 15)) aNil))) (aCons (eLst (aCons (eC (.int 16)) (aCons (eC (.int 3)) (aCons (eC (.int 7)) aNil)))) aNil)))) (sSeq (sSet 2 (eCall m_law_one_net (aCons (eVar 0) (aCons (eC (.int 0)) (aCons (e2 dEq (e2 dIx (eVar 1) (eC (.int 0))) (eC (.int 3))) aNil))))) (sSeq (sIf (tB1 (e2 dGt (e2 dIx (eVar 1) (eC (.int 1))) (eC (.int 0)))) (sSeq (sSet 2 (eCall m_law_balanced (aCons (eVar 2) aNil))) sNil) sNil) (sSeq (sSet 3 (e2 dIx (eVar 2) (eC (.int 0)))) (sSeq (sSet 4 (e2 dIx (eVar 2) (eC (.int 1)))) (sSeq (sSet 5 (eCall m_law_words (aCons (eCall m_law_cell (aCons (eVar 0) (aCons (eC (.int 16)) aNil))) (aCons (eVar 4) aNil)))) (sSeq (sSet 6 (eCall m_OneWayNet (aCons (eSl dSl (eVar 5) oNone (oSome (eVar 3))) (aCons (eSl dSl (eVar 5) (oSome (eVar 3)) oNone) (aCons (eCall m_law_pieces_one (aCons (eVar 2) (aCons (eCall m_law_cell (aCons (eVar 0) (aCons (eC (.int 17)) aNil))) aNil))) aNil))))) (sSeq (sSet 7 (eC (.bl true))) (sSeq (sFor (iRng' (eVar 3) (eVar 4)) (gmName 8) lb_law_287) (sSeq (sFor (iRng' (eC (.int 1)) (e2 dSub (e2 dShl (eC (.int 1)) (eVar 3)) (eC (.int 1)))) (gmName 9) lb_law_289) (sSeq (sSet 10 (e2 dAdd (eCall m_law_digits (aCons (eCall m_law_cell (aCons (eVar 0) (aCons (eC (.int 18)) aNil))) (aCons (e2 dMul (eLst (aCons (e2 dShl (eC (.int 1)) (eVar 4)) aNil)) (eC (.int 10))) aNil))) (eCall m_law_digits (aCons (eCall m_law_cell (aCons (eVar 0) (aCons (eC (.int 19)) aNil))) (aCons (e2 dMul (eLst (aCons (e2 dShl (eC (.int 1)) (eVar 4)) aNil)) (eC (.int 10))) aNil))))) (sSeq (sFor (iSeq (e2 dAdd (eVar 10) (eLst (aCons (eC (.int 0)) (aCons (e2 dSub (e2 dShl (eC (.int 1)) (eVar 4)) (eC (.int 1))) aNil))))) (gmName 9) lb_law_293) (sSeq (sSet 12 (e2 dIx (eLst (aCons (e2 dShl (eC (.int 1)) (eVar 4)) (aCons (e2 dAdd (e2 dShl (eC (.int 1)) (eVar 4)) (eC (.int 1))) (aCons (e1 dNeg (eC (.int 1))) (aCons (eC (.bl true)) (aCons (eC .non) (aCons (eC (.str "1")) (aCons (e1 dNeg (eC (.int 4))) aNil)))))))) (e2 dIx (eVar 1) (eC (.int 2))))) (sSeq (sSet 13 (eLst (aCons (eC (.int 0)) (aCons (e2 dSub (e2 dShl (eC (.int 1)) (eVar 3)) (eC (.int 1))) (aCons (e2 dShl (eC (.int 1)) (eVar 3)) (aCons (eVar 12) aNil)))))) (sSeq (sFor (iRng (eC (.int 4))) (gmName 14) lb_law_299) (sSeq (sRet (e2 dEq (eCall m_outward (aCons (eVar 6) (aCons (eC (.int 1)) aNil))) (e1 dMin (eCall m_law_outs (aCons (eVar 2) (aCons (eC (.int 1)) aNil)))))) sNil))))))))))))))))
def m_law : List D → R D := fnM 15 1 b_law
theorem w_law (T : Tx P w K mg base) {fa : Addr} {fd : FuncData} (F : Fun K "law" "law" s_law fa fd) (D_law_digits : Dn P w K mg base "_law_digits" 2 ["cell", "sizes"] m_law_digits) (D_law_cell : Dn P w K mg base "_law_cell" 2 ["script", "k"] m_law_cell) (D_law_one_net : Dn P w K mg base "_law_one_net" 3 ["script", "at", "wide"] m_law_one_net) (D_law_balanced : Dn P w K mg base "_law_balanced" 3 ["raw"] m_law_balanced) (D_law_words : Dn P w K mg base "_law_words" 3 ["cell", "count"] m_law_words) (D_OneWayNet : Cn P w K mg base "OneWayNet" 6 3 ["self", "gates", "inner", "streets"] m_OneWayNet) (D_law_pieces_one : Dn P w K mg base "_law_pieces_one" 3 ["raw", "cell"] m_law_pieces_one) (D_law_out : Dn P w K mg base "_law_out" 2 ["streets", "place"] m_law_out) (D_law_in : Dn P w K mg base "_law_in" 2 ["streets", "place"] m_law_in) (D_law_lot_holds : Dn P w K mg base "_law_lot_holds" 8 ["net", "raw", "lot", "balanced"] m_law_lot_holds) (D_leaving : Dn P w K mg base "leaving" 5 ["net", "lot"] m_leaving) (D_coming : Dn P w K mg base "coming" 5 ["net", "lot"] m_coming) (D_law_leaving : Dn P w K mg base "_law_leaving" 3 ["streets", "lot"] m_law_leaving) (D_law_coming : Dn P w K mg base "_law_coming" 3 ["streets", "lot"] m_law_coming) (D_law_whole : Dn P w K mg base "_law_whole" 2 ["value"] m_law_whole) (D_law_refused : Dn P w K mg base "_law_refused" 8 ["net", "lot", "asked"] m_law_refused) (D_outward : Dn P w K mg base "outward" 7 ["net", "lot"] m_outward) (D_law_outs : Dn P w K mg base "_law_outs" 4 ["raw", "gates"] m_law_outs) : FnOk P w K mg base (CX P w) 9 fa fd ["script"] (spM K mg 1 m_law) :=
  fn_ok (k := 8) F sc_law fun cdv A outer s H E hr => (mss_cons (ms_set 1 sc_law.nd (me_cd D_law_digits hr pass_def (man_cons (me_cd D_law_cell hr pass_def (man_cons (mv 0) (man_cons mint man_nil))) (man_cons (MF.k (mf_lst (man_cons mint (man_cons mint (man_cons mint man_nil))))) man_nil)))) (mss_cons (ms_set 2 sc_law.nd (me_cd D_law_one_net hr pass_def (man_cons (mv 0) (man_cons mint (man_cons (me_cmp (op_eq2 hr) so_eq (ME.w (me_ix hr (ME.w (mv 1)) (ME.w mint))) (ME.w mint) (nomark _)) man_nil))))) (mss_cons (ms_if (mt_cmp op_gt so_gt (ME.w (me_ix hr (ME.w (mv 1)) (ME.w mint))) (ME.w mint) (nomark _)) (mss_cons (ms_set 2 sc_law.nd (me_cd D_law_balanced hr pass_def (man_cons (mv 2) man_nil))) (mss_nil (O' := []))) (mss_nil (O' := []))) (mss_cons (ms_set 3 sc_law.nd (me_ix hr (ME.w (mv 2)) (ME.w mint))) (mss_cons (ms_set 4 sc_law.nd (me_ix hr (ME.w (mv 2)) (ME.w mint))) (mss_cons (ms_set 5 sc_law.nd (me_cd D_law_words hr pass_def (man_cons (me_cd D_law_cell hr pass_def (man_cons (mv 0) (man_cons mint man_nil))) (man_cons (mv 4) man_nil)))) (mss_cons (ms_set 6 sc_law.nd (me_ck D_OneWayNet hr pass_def (man_cons (me_sl (ME.w (mv 5)) mo_none (mo_some (ME.w (mv 3)))) (man_cons (me_sl (ME.w (mv 5)) (mo_some (ME.w (mv 3))) mo_none) (man_cons (me_cd D_law_pieces_one hr pass_def (man_cons (mv 2) (man_cons (me_cd D_law_cell hr pass_def (man_cons (mv 0) (man_cons mint man_nil))) man_nil))) man_nil))))) (mss_cons (ms_set 7 sc_law.nd mbl) (mss_cons (ms_for pass_own rfl (mi_rng2 T.b_range (ME.w (mv 3)) (ME.w (mv 4))) (mg_name 8 sc_law.nd) (mss_cons (ms_set 7 sc_law.nd (me_and (ME.w (mv 7)) (me_one (me_cmp (op_eq2 hr) so_eq (ME.w (me_cd D_law_out hr pass_def (man_cons (me_ix hr (ME.w (mv 2)) (ME.w mint)) (man_cons (mv 8) man_nil)))) (ME.w (me_cd D_law_in hr pass_def (man_cons (me_ix hr (ME.w (mv 2)) (ME.w mint)) (man_cons (mv 8) man_nil)))) (nomark _))))) (mss_nil (O' := [])))) (mss_cons (ms_for pass_own rfl (mi_rng2 T.b_range (ME.w mint) (ME.w (me_bin op_sub so_sub (ME.w (me_bin op_shl so_shl (ME.w mint) (ME.w (mv 3)))) (ME.w mint)))) (mg_name 9 sc_law.nd) (mss_cons (ms_if (mt_not (mt_val (ME.w (me_cd D_law_lot_holds hr pass_def (man_cons (mv 6) (man_cons (mv 2) (man_cons (mv 9) (man_cons (mv 7) man_nil)))))))) (mss_cons (ms_ret mbl) (mss_nil (O := []) (O' := []))) (mss_nil (O' := []))) (mss_nil (O' := [])))) (mss_cons (ms_set 10 sc_law.nd (me_bin op_add3 so_add (ME.w (me_cd D_law_digits hr pass_def (man_cons (me_cd D_law_cell hr pass_def (man_cons (mv 0) (man_cons mint man_nil))) (man_cons (me_bin op_mul3 so_mul (MF.w (mf_lst (man_cons (me_bin op_shl so_shl (ME.w mint) (ME.w (mv 4))) man_nil))) (ME.w mint)) man_nil)))) (ME.w (me_cd D_law_digits hr pass_def (man_cons (me_cd D_law_cell hr pass_def (man_cons (mv 0) (man_cons mint man_nil))) (man_cons (me_bin op_mul3 so_mul (MF.w (mf_lst (man_cons (me_bin op_shl so_shl (ME.w mint) (ME.w (mv 4))) man_nil))) (ME.w mint)) man_nil)))))) (mss_cons (ms_for pass_own rfl (mi_seq (me_bin op_add3 so_add (ME.w (mv 10)) (MF.w (mf_lst (man_cons mint (man_cons (me_bin op_sub so_sub (ME.w (me_bin op_shl so_shl (ME.w mint) (ME.w (mv 4)))) (ME.w mint)) man_nil)))))) (mg_name 9 sc_law.nd) (mss_cons (ms_set 11 sc_law.nd (MF.k (mf_lst (man_cons (me_cd D_leaving hr pass_def (man_cons (mv 6) (man_cons (mv 9) man_nil))) (man_cons (me_cd D_coming hr pass_def (man_cons (mv 6) (man_cons (mv 9) man_nil))) man_nil))))) (mss_cons (ms_if (mtw (mtw_or (mt_cmp (op_ne2 hr) so_ne (ME.w (mv 11)) (MF.w (mf_lst (man_cons (me_cd D_law_leaving hr pass_def (man_cons (me_ix hr (ME.w (mv 2)) (ME.w mint)) (man_cons (mv 9) man_nil))) (man_cons (me_cd D_law_coming hr pass_def (man_cons (me_ix hr (ME.w (mv 2)) (ME.w mint)) (man_cons (mv 9) man_nil))) man_nil)))) (nomark _)) (mtw_or (mt_not (mt_val (ME.w (me_cd D_law_whole hr pass_def (man_cons (me_ix hr (ME.w (mv 11)) (ME.w mint)) man_nil))))) (mtw_or1 (mt_not (mt_val (ME.w (me_cd D_law_whole hr pass_def (man_cons (me_ix hr (ME.w (mv 11)) (ME.w mint)) man_nil))))))))) (mss_cons (ms_ret mbl) (mss_nil (O := []) (O' := []))) (mss_nil (O' := []))) (mss_nil (O' := []))))) (mss_cons (ms_set 12 sc_law.nd (me_ix hr (MF.w (mf_lst (man_cons (me_bin op_shl so_shl (ME.w mint) (ME.w (mv 4))) (man_cons (me_bin op_add3 so_add (ME.w (me_bin op_shl so_shl (ME.w mint) (ME.w (mv 4)))) (ME.w mint)) (man_cons (me_neg (ME.w mint)) (man_cons mbl (man_cons mnon (man_cons mstr (man_cons (me_neg (ME.w mint)) man_nil))))))))) (ME.w (me_ix hr (ME.w (mv 1)) (ME.w mint))))) (mss_cons (ms_set 13 sc_law.nd (MF.k (mf_lst (man_cons mint (man_cons (me_bin op_sub so_sub (ME.w (me_bin op_shl so_shl (ME.w mint) (ME.w (mv 3)))) (ME.w mint)) (man_cons (me_bin op_shl so_shl (ME.w mint) (ME.w (mv 3))) (man_cons (mv 12) man_nil))))))) (mss_cons (ms_for pass_own rfl (mi_rng1 T.b_range (ME.w mint)) (mg_name 14 sc_law.nd) (mss_cons (ms_if (mt_not (mt_val (ME.w (me_cd D_law_refused hr pass_def (man_cons (mv 6) (man_cons (mv 12) (man_cons (mv 14) man_nil))))))) (mss_cons (ms_ret mbl) (mss_nil (O := []) (O' := []))) (mss_nil (O' := []))) (mss_cons (ms_if (mtw (mtw_and (mt_cmp op_gt so_gt (ME.w (mv 14)) (ME.w mint) (nomark _)) (mtw_and1 (mt_cmp op_gt so_gt (ME.w (me_b1 call_lenX so_len T.b_len (MF.w (mf_lc rfl sc_law.nd (mi_seq (mv 13)) (blkOk_by (own := [("lot", 9)]) (N := ["script", "kind", "raw", "g", "n", "names", "net", "even", "place", "lot", "drawn", "told", "bad", "wrong", "asked"]) (sc := defScope s_law) (by decide +kernel)) (fun _ _ _ _ _ => (mg_name 9 sc_law.nd)) (fun _ _ _ _ _ => (mts_one (mt_not (mt_val (ME.w (me_cd D_law_refused hr pass_blk (man_cons (mv 6) (man_cons (mv 9) (man_cons (mv 14) man_nil))))))))) (fun _ _ _ _ _ => (mv 9)))))) (ME.w mint) (nomark _))))) (mss_cons (ms_ret mbl) (mss_nil (O := []) (O' := []))) (mss_nil (O' := []))) (mss_nil (O' := []))))) (mss_cons (ms_ret (me_cmp (op_eq2 hr) so_eq (ME.w (me_cd D_outward hr pass_def (man_cons (mv 6) (man_cons mint man_nil)))) (ME.w (me_b1 (cr_min rfl) so_min T.b_min (ME.w (me_cd D_law_outs hr pass_def (man_cons (mv 2) (man_cons mint man_nil)))))) (nomark _))) (mss_nil (O := []) (O' := []))))))))))))))))))

end
structure Cl (K : PySem.W.Frag) (mg : Str → Option Value) : Prop where
  ex : ∃ (C_BadLot C_BadName C_BadStreet C_DoubleName C_TownError C_Unbalanced C_OneWayNet : Addr), Xc K mg "BadLot" C_BadLot ∧ Mt K C_BadLot "__init__" "BadLot.__init__" s_BadLot_init ["self", "lot"] ∧ PySem.W.findIn K (.ref C_BadLot) "lot" = some none ∧ PySem.W.kitOne K (.ref C_BadLot) (.ref C_TownError) = some true ∧ PySem.W.kitOne K (.ref C_BadLot) (.ref C_Unbalanced) = some false ∧ PySem.W.exmOne K (.ref C_BadLot) (.ref C_BadLot) = some true ∧ Xc K mg "BadName" C_BadName ∧ Mt K C_BadName "__init__" "BadName.__init__" s_BadName_init ["self", "name"] ∧ PySem.W.findIn K (.ref C_BadName) "name" = some none ∧ PySem.W.kitOne K (.ref C_BadName) (.ref C_TownError) = some true ∧ PySem.W.kitOne K (.ref C_BadName) (.ref C_Unbalanced) = some false ∧ PySem.W.exmOne K (.ref C_BadName) (.ref C_BadLot) = some false ∧ Xc K mg "BadStreet" C_BadStreet ∧ Mt K C_BadStreet "__init__" "BadStreet.__init__" s_BadStreet_init ["self", "index"] ∧ PySem.W.findIn K (.ref C_BadStreet) "index" = some none ∧ PySem.W.kitOne K (.ref C_BadStreet) (.ref C_TownError) = some true ∧ PySem.W.kitOne K (.ref C_BadStreet) (.ref C_Unbalanced) = some false ∧ PySem.W.exmOne K (.ref C_BadStreet) (.ref C_BadLot) = some false ∧ Xc K mg "DoubleName" C_DoubleName ∧ Mt K C_DoubleName "__init__" "DoubleName.__init__" s_DoubleName_init ["self", "name"] ∧ PySem.W.findIn K (.ref C_DoubleName) "name" = some none ∧ PySem.W.kitOne K (.ref C_DoubleName) (.ref C_TownError) = some true ∧ PySem.W.kitOne K (.ref C_DoubleName) (.ref C_Unbalanced) = some false ∧ PySem.W.exmOne K (.ref C_DoubleName) (.ref C_BadLot) = some false ∧ mg "TownError" = some (.ref C_TownError) ∧ mg "Unbalanced" = some (.ref C_Unbalanced) ∧ mg "OneWayNet" = some (.ref C_OneWayNet) ∧ Cls K C_OneWayNet ∧ PySem.W.makesIn K C_OneWayNet = true ∧ PySem.W.keepIn K (.ref C_OneWayNet) = true ∧ Mt K C_OneWayNet "__init__" "OneWayNet.__init__" s_OneWayNet_init ["self", "gates", "inner", "streets"] ∧ Mt K C_OneWayNet "__len__" "OneWayNet.__len__" s_OneWayNet_len ["self"] ∧ PySem.W.findIn K (.ref C_OneWayNet) "many" = some none ∧ PySem.W.findIn K (.ref C_OneWayNet) "gates" = some none ∧ PySem.W.findIn K (.ref C_OneWayNet) "inner" = some none ∧ PySem.W.findIn K (.ref C_OneWayNet) "names" = some none ∧ PySem.W.findIn K (.ref C_OneWayNet) "streets" = some none
section
variable {P : Program} {w : World} {K : PySem.W.Frag} {mg : Str → Option Value} {h : Heap}
theorem all_mk {fa : Addr} (X : K.In h) (G : h.Ns mainGlobals mg) (CL : Cl K mg) (A_is_name : At K mg "is_name" "is_name" s_is_name ["text"]) (A_check_names : At K mg "check_names" "check_names" s_check_names ["names"]) (A_is_whole : At K mg "is_whole" "is_whole" s_is_whole ["value"]) (A_is_sequence : At K mg "is_sequence" "is_sequence" s_is_sequence ["value"]) (A_are_whole : At K mg "are_whole" "are_whole" s_are_whole ["values"]) (A_is_lot : At K mg "is_lot" "is_lot" s_is_lot ["value"]) (A_is_street : At K mg "is_street" "is_street" s_is_street ["street", "count"]) (A_gate_lot : At K mg "gate_lot" "gate_lot" s_gate_lot ["net"]) (A_check_proper : At K mg "check_proper" "check_proper" s_check_proper ["net", "lot"]) (A_has : At K mg "has" "has" s_has ["lot", "number"]) (A_sub_lots : At K mg "sub_lots" "sub_lots" s_sub_lots ["lot"]) (A_lanes_leaving : At K mg "lanes_leaving" "lanes_leaving" s_lanes_leaving ["net", "lot"]) (A_lanes_coming : At K mg "lanes_coming" "lanes_coming" s_lanes_coming ["net", "lot"]) (A_merged_one_way : At K mg "merged_one_way" "merged_one_way" s_merged_one_way ["streets", "count"]) (A_law_whole : At K mg "_law_whole" "_law_whole" s_law_whole ["value"]) (A_law_cell : At K mg "_law_cell" "_law_cell" s_law_cell ["script", "k"]) (A_law_digits : At K mg "_law_digits" "_law_digits" s_law_digits ["cell", "sizes"]) (A_law_words : At K mg "_law_words" "_law_words" s_law_words ["cell", "count"]) (A_law_bit : At K mg "_law_bit" "_law_bit" s_law_bit ["lot", "number"]) (A_law_ways_one : At K mg "_law_ways_one" "_law_ways_one" s_law_ways_one ["entries"]) (A_law_out : At K mg "_law_out" "_law_out" s_law_out ["streets", "place"]) (A_law_in : At K mg "_law_in" "_law_in" s_law_in ["streets", "place"]) (A_law_one_net : At K mg "_law_one_net" "_law_one_net" s_law_one_net ["script", "at", "wide"]) (A_law_balanced : At K mg "_law_balanced" "_law_balanced" s_law_balanced ["raw"]) (A_law_pieces_one : At K mg "_law_pieces_one" "_law_pieces_one" s_law_pieces_one ["raw", "cell"]) (A_law_leaving : At K mg "_law_leaving" "_law_leaving" s_law_leaving ["streets", "lot"]) (A_law_coming : At K mg "_law_coming" "_law_coming" s_law_coming ["streets", "lot"]) (A_law_outs : At K mg "_law_outs" "_law_outs" s_law_outs ["raw", "gates"]) (A_law_ins : At K mg "_law_ins" "_law_ins" s_law_ins ["raw", "gates"]) (A_check_places : At K mg "check_places" "check_places" s_check_places ["net", "lot"]) (A_leaving : At K mg "leaving" "leaving" s_leaving ["net", "lot"]) (A_coming : At K mg "coming" "coming" s_coming ["net", "lot"]) (A_inner_lot : At K mg "inner_lot" "inner_lot" s_inner_lot ["net"]) (A_least_outward : At K mg "least_outward" "least_outward" s_least_outward ["net", "lot"]) (A_outward : At K mg "outward" "outward" s_outward ["net", "lot"]) (A_inward : At K mg "inward" "inward" s_inward ["net", "lot"]) (A_law_refused : At K mg "_law_refused" "_law_refused" s_law_refused ["net", "lot", "asked"]) (A_law_lot_holds : At K mg "_law_lot_holds" "_law_lot_holds" s_law_lot_holds ["net", "raw", "lot", "balanced"]) (b_bool : PySem.W.nsIn K mainGlobals "bool" = some none) (b_int : PySem.W.nsIn K mainGlobals "int" = some none) (b_isinstance : PySem.W.nsIn K mainGlobals "isinstance" = some none) (b_len : PySem.W.nsIn K mainGlobals "len" = some none) (b_list : PySem.W.nsIn K mainGlobals "list" = some none) (b_min : PySem.W.nsIn K mainGlobals "min" = some none) (b_range : PySem.W.nsIn K mainGlobals "range" = some none) (b_sorted : PySem.W.nsIn K mainGlobals "sorted" = some none) (b_str : PySem.W.nsIn K mainGlobals "str" = some none) (b_sum : PySem.W.nsIn K mainGlobals "sum" = some none) (b_tuple : PySem.W.nsIn K mainGlobals "tuple" = some none) (c_LETTERS : ∃ u, mg "LETTERS" = some u ∧ RelV (.str "abcdefghijklmnopqrstuvwxyz") u) (c_SIGNS : ∃ u, mg "SIGNS" = some u ∧ RelV (.str "abcdefghijklmnopqrstuvwxyz0123456789") u) (c_LONGEST : ∃ u, mg "LONGEST" = some u ∧ RelV (.int 12) u) (FL : ∃ fd : FuncData, (∀ (s : Shared) (u : Value), BindsTo s fd ⟨[u], []⟩ [("script", u)]) ∧ Fun K "law" "law" s_law fa fd) :
    ∃ fd : FuncData, (∀ (s : Shared) (u : Value), BindsTo s fd ⟨[u], []⟩ [("script", u)]) ∧ ∀ base : Heap, K.In base → base.Ns mainGlobals mg → FnOk P w K mg base (CX P w) 9 fa fd ["script"] (spM K mg 1 m_law) := by
  obtain ⟨C_BadLot, C_BadName, C_BadStreet, C_DoubleName, C_TownError, C_Unbalanced, C_OneWayNet, X_BadLot, I_BadLot, N_BadLot_lot, K_BadLot_TownError, K_BadLot_Unbalanced, E_BadLot_BadLot, X_BadName, I_BadName, N_BadName_name, K_BadName_TownError, K_BadName_Unbalanced, E_BadName_BadLot, X_BadStreet, I_BadStreet, N_BadStreet_index, K_BadStreet_TownError, K_BadStreet_Unbalanced, E_BadStreet_BadLot, X_DoubleName, I_DoubleName, N_DoubleName_name, K_DoubleName_TownError, K_DoubleName_Unbalanced, E_DoubleName_BadLot, M_TownError, M_Unbalanced, M_OneWayNet, L_OneWayNet, mk_OneWayNet, kc_OneWayNet, I_OneWayNet, J_OneWayNet, N_OneWayNet_many, N_OneWayNet_gates, N_OneWayNet_inner, N_OneWayNet_names, N_OneWayNet_streets⟩ := CL.ex
  obtain ⟨fd, hbt, FL⟩ := FL
  refine ⟨fd, hbt, fun base _ _ => ?_⟩
  have T : Tx P w K mg base := {
    b_bool := PySem.W.mg_none_of X G b_bool
    b_int := PySem.W.mg_none_of X G b_int
    b_isinstance := PySem.W.mg_none_of X G b_isinstance
    b_len := PySem.W.mg_none_of X G b_len
    b_list := PySem.W.mg_none_of X G b_list
    b_min := PySem.W.mg_none_of X G b_min
    b_range := PySem.W.mg_none_of X G b_range
    b_sorted := PySem.W.mg_none_of X G b_sorted
    b_str := PySem.W.mg_none_of X G b_str
    b_sum := PySem.W.mg_none_of X G b_sum
    b_tuple := PySem.W.mg_none_of X G b_tuple
    c_LETTERS := c_LETTERS
    c_SIGNS := c_SIGNS
    c_LONGEST := c_LONGEST
    f_gates := fld_mk fun c hc => by
      simp only [cs_gates, List.mem_cons, List.not_mem_nil, or_false] at hc
      rcases hc with rfl
      · exact ⟨C_OneWayNet, M_OneWayNet, L_OneWayNet, N_OneWayNet_gates⟩
    f_inner := fld_mk fun c hc => by
      simp only [cs_inner, List.mem_cons, List.not_mem_nil, or_false] at hc
      rcases hc with rfl
      · exact ⟨C_OneWayNet, M_OneWayNet, L_OneWayNet, N_OneWayNet_inner⟩
    f_many := fld_mk fun c hc => by
      simp only [cs_many, List.mem_cons, List.not_mem_nil, or_false] at hc
      rcases hc with rfl
      · exact ⟨C_OneWayNet, M_OneWayNet, L_OneWayNet, N_OneWayNet_many⟩
    f_names := fld_mk fun c hc => by
      simp only [cs_names, List.mem_cons, List.not_mem_nil, or_false] at hc
      rcases hc with rfl
      · exact ⟨C_OneWayNet, M_OneWayNet, L_OneWayNet, N_OneWayNet_names⟩
    f_streets := fld_mk fun c hc => by
      simp only [cs_streets, List.mem_cons, List.not_mem_nil, or_false] at hc
      rcases hc with rfl
      · exact ⟨C_OneWayNet, M_OneWayNet, L_OneWayNet, N_OneWayNet_streets⟩
    k_BadLot := cat_mk X_BadLot.at_ fun p hp => by
      simp only [tb_BadLot, List.mem_cons, List.not_mem_nil, or_false] at hp
      rcases hp with rfl | rfl | rfl | rfl
      · exact ⟨C_BadLot, X_BadLot, E_BadLot_BadLot⟩
      · exact ⟨C_BadName, X_BadName, E_BadName_BadLot⟩
      · exact ⟨C_BadStreet, X_BadStreet, E_BadStreet_BadLot⟩
      · exact ⟨C_DoubleName, X_DoubleName, E_DoubleName_BadLot⟩
    i_TownError := isd_mk M_TownError fun p hp => by
      simp only [tb_TownError, List.mem_cons, List.not_mem_nil, or_false] at hp
      rcases hp with rfl | rfl | rfl | rfl
      · exact ⟨C_BadLot, X_BadLot, K_BadLot_TownError⟩
      · exact ⟨C_BadName, X_BadName, K_BadName_TownError⟩
      · exact ⟨C_BadStreet, X_BadStreet, K_BadStreet_TownError⟩
      · exact ⟨C_DoubleName, X_DoubleName, K_DoubleName_TownError⟩
    i_Unbalanced := isd_mk M_Unbalanced fun p hp => by
      simp only [tb_Unbalanced, List.mem_cons, List.not_mem_nil, or_false] at hp
      rcases hp with rfl | rfl | rfl | rfl
      · exact ⟨C_BadLot, X_BadLot, K_BadLot_Unbalanced⟩
      · exact ⟨C_BadName, X_BadName, K_BadName_Unbalanced⟩
      · exact ⟨C_BadStreet, X_BadStreet, K_BadStreet_Unbalanced⟩
      · exact ⟨C_DoubleName, X_DoubleName, K_DoubleName_Unbalanced⟩
    g_lot := fxd_mk fun c hc => by
      simp only [xs_lot, List.mem_cons, List.not_mem_nil, or_false] at hc
      rcases hc with rfl
      · exact ⟨C_BadLot, X_BadLot, N_BadLot_lot⟩
    x_BadLot := x_BadLot X_BadLot I_BadLot N_BadLot_lot
    x_BadName := x_BadName X_BadName I_BadName N_BadName_name
    x_BadStreet := x_BadStreet X_BadStreet I_BadStreet N_BadStreet_index
    x_DoubleName := x_DoubleName X_DoubleName I_DoubleName N_DoubleName_name
  }
  have D_is_name := w_is_name T A_is_name 
  have D_check_names := w_check_names T A_check_names D_is_name
  have D_is_whole := w_is_whole T A_is_whole 
  have D_is_sequence := w_is_sequence T A_is_sequence 
  have D_are_whole := w_are_whole T A_are_whole D_is_whole
  have D_is_lot := w_is_lot T A_is_lot D_is_whole
  have D_is_street := w_is_street T A_is_street D_is_sequence D_are_whole
  have D_gate_lot := w_gate_lot T A_gate_lot 
  have D_check_proper := w_check_proper T A_check_proper D_is_lot D_gate_lot
  have D_has := w_has T A_has 
  have D_sub_lots := w_sub_lots T A_sub_lots 
  have D_lanes_leaving := w_lanes_leaving T A_lanes_leaving D_has
  have D_lanes_coming := w_lanes_coming T A_lanes_coming D_has
  have D_merged_one_way := w_merged_one_way T A_merged_one_way D_is_street
  have D_OneWayNet := w_OneWayNet T M_OneWayNet mk_OneWayNet kc_OneWayNet I_OneWayNet D_check_names D_merged_one_way
  have D_OneWayNet_len := w_OneWayNet_len T M_OneWayNet J_OneWayNet 
  have D_law_whole := w_law_whole T A_law_whole 
  have D_law_cell := w_law_cell T A_law_cell 
  have D_law_digits := w_law_digits T A_law_digits 
  have D_law_words := w_law_words T A_law_words D_law_digits
  have D_law_bit := w_law_bit T A_law_bit 
  have D_law_ways_one := w_law_ways_one T A_law_ways_one 
  have D_law_out := w_law_out T A_law_out 
  have D_law_in := w_law_in T A_law_in 
  have D_law_one_net := w_law_one_net T A_law_one_net D_law_digits D_law_cell D_law_ways_one
  have D_law_balanced := w_law_balanced T A_law_balanced D_law_out D_law_in D_law_ways_one
  have D_law_pieces_one := w_law_pieces_one T A_law_pieces_one D_law_digits
  have D_law_leaving := w_law_leaving T A_law_leaving D_law_bit
  have D_law_coming := w_law_coming T A_law_coming D_law_bit
  have D_law_outs := w_law_outs T A_law_outs D_law_leaving
  have D_law_ins := w_law_ins T A_law_ins D_law_coming
  have D_check_places := w_check_places T A_check_places D_is_lot D_OneWayNet_len
  have D_leaving := w_leaving T A_leaving D_check_places D_lanes_leaving
  have D_coming := w_coming T A_coming D_check_places D_lanes_coming
  have D_inner_lot := w_inner_lot T A_inner_lot D_OneWayNet_len
  have D_least_outward := w_least_outward T A_least_outward D_sub_lots D_inner_lot D_lanes_leaving
  have D_outward := w_outward T A_outward D_check_proper D_least_outward
  have D_inward := w_inward T A_inward D_check_proper D_sub_lots D_inner_lot D_lanes_coming
  have D_law_refused := w_law_refused T A_law_refused D_leaving D_coming D_outward D_inward
  have D_law_lot_holds := w_law_lot_holds T A_law_lot_holds D_law_outs D_law_ins D_outward D_inward D_law_whole D_law_bit D_law_out D_law_in
  exact w_law T FL D_law_digits D_law_cell D_law_one_net D_law_balanced D_law_words D_OneWayNet D_law_pieces_one D_law_out D_law_in D_law_lot_holds D_leaving D_coming D_law_leaving D_law_coming D_law_whole D_law_refused D_outward D_law_outs
end
end MD

/-! pure: what a mirror comes to -/
namespace MD
open PySem L2
section
variable {α β : Type}
inductive R.post : R α → (α → Prop) → Prop
  | ok {a : α} {P : α → Prop} : P a → R.post (.ok a) P
inductive RS.post : RS → (Env → Prop) → (D → Prop) → Prop
  | nx {e : Env} {N : Env → Prop} {T : D → Prop} : N e → RS.post (.ok (.nx e)) N T
  | rt {d : D} {N : Env → Prop} {T : D → Prop} : T d → RS.post (.ok (.rt d)) N T
@[simp] theorem R.post_ok (a : α) (P : α → Prop) : (R.ok a).post P ↔ P a := ⟨fun h => by cases h; assumption, .ok⟩
@[simp] theorem R.post_bad (P : α → Prop) : (R.bad : R α).post P ↔ False := ⟨fun h => (by cases h), False.elim⟩
@[simp] theorem R.post_exc (c : Str) (fs : List (Str × D)) (P : α → Prop) : (R.exc c fs : R α).post P ↔ False := ⟨fun h => (by cases h), False.elim⟩
theorem R.post_mono {r : R α} {P Q : α → Prop} (h : r.post P) (k : ∀ a, P a → Q a) : r.post Q := by
  cases h with
  | ok h => exact .ok (k _ h)
theorem RS.post_mono {r : RS} {N N' : Env → Prop} {T T' : D → Prop} (h : r.post N T) (k : ∀ a, N a → N' a) (k' : ∀ a, T a → T' a) : r.post N' T' := by
  cases h with
  | nx h => exact .nx (k _ h)
  | rt h => exact .rt (k' _ h)
@[simp] theorem R.post_bind (r : R α) (f : α → R β) (P : β → Prop) : (r.bind f).post P ↔ r.post fun a => (f a).post P := by
  cases r <;> simp
@[simp] theorem R.post_nox (r : R α) (P : α → Prop) : r.nox.post P ↔ r.post P := by
  cases r <;> simp [R.nox]
@[simp] theorem R.post_of (o : Option α) (P : α → Prop) : (R.of o).post P ↔ ∃ a, o = some a ∧ P a := by
  cases o with
  | none => simp [R.of]
  | some a => simp [R.of]
@[simp] theorem R.post_when (c : Prop) [Decidable c] (r : R α) (P : α → Prop) : (R.when c r).post P ↔ c ∧ r.post P := by
  unfold R.when
  by_cases h : c <;> simp [h]
@[simp] theorem R.post_go (r : R α) (env : Env) (f : α → RS) (N : Env → Prop) (T : D → Prop) : (r.go env f).post N T ↔ r.post fun a => (f a).post N T := by
  cases r with
  | ok a => simp
  | exc c fs => simp only [R.go_exc, R.post_exc, iff_false]; intro h; cases h
  | bad => simp only [R.go_bad, R.post_bad, iff_false]; intro h; cases h
theorem R.post_eq {r : R α} {a : α} (h : r.post (· = a)) : r = .ok a := by
  cases h with
  | ok h => rw [h]
theorem R.post_ex {r : R α} {P : α → Prop} (h : r.post P) : ∃ a, r = .ok a ∧ P a := by
  cases h with
  | ok h => exact ⟨_, rfl, h⟩
end
section
variable {N : Env → Prop} {T : D → Prop} {env : Env} {P : D → Prop}
@[simp] theorem RS.post_nx (e : Env) : (RS.ok (.nx e)).post N T ↔ N e := ⟨fun h => by cases h; assumption, .nx⟩
@[simp] theorem RS.post_rt (d : D) : (RS.ok (.rt d)).post N T ↔ T d := ⟨fun h => by cases h; assumption, .rt⟩
@[simp] theorem RS.post_bd : RS.bad.post N T ↔ False := ⟨fun h => (by cases h), False.elim⟩
@[simp] theorem RS.post_xc (c : Str) (fs : List (Str × D)) (e : Env) : (RS.exc c fs e).post N T ↔ False := ⟨fun h => (by cases h), False.elim⟩
@[simp] theorem RS.post_bk (e : Env) : (RS.ok (.bk e)).post N T ↔ False := ⟨fun h => (by cases h), False.elim⟩
@[simp] theorem RS.post_ct (e : Env) : (RS.ok (.ct e)).post N T ↔ False := ⟨fun h => (by cases h), False.elim⟩
@[simp] theorem RS.post_when (c : Prop) [Decidable c] (r : RS) : (RS.when c r).post N T ↔ c ∧ r.post N T := by
  unfold RS.when
  by_cases h : c <;> simp [h]
@[simp] theorem post_seq (a b : SM) : (sSeq a b env).post N T ↔ (a env).post (fun e => (b e).post N T) T := by
  unfold sSeq
  cases a env with
  | ok c => cases c <;> simp
  | exc c fs e => simp
  | bad => simp
@[simp] theorem post_nil : (sNil env).post N T ↔ N env := by simp [sNil]
@[simp] theorem post_set (i : Nat) (m : EM) : (sSet i m env).post N T ↔ (m env).post fun d => N (env.set i (some d)) := by simp [sSet]
@[simp] theorem post_setF (i : Nat) (m : EM) : (sSetF i m env).post N T ↔ (m env).post fun d => i < env.length ∧ N (env.set i (some d)) := by simp [sSetF]
@[simp] theorem post_ret (m : EM) : (sRet m env).post N T ↔ (m env).post T := by simp [sRet]
@[simp] theorem post_drop (m : EM) : (sDrop m env).post N T ↔ (m env).post fun _ => N env := by simp [sDrop]
@[simp] theorem post_if (t : TM) (a b : SM) : (sIf t a b env).post N T ↔ (t env).post fun k => if k = true then (a env).post N T else (b env).post N T := by
  simp only [sIf, R.post_go]
  refine Iff.of_eq (congrArg _ (funext fun k => ?_))
  cases k <;> simp
@[simp] theorem post_app (i : Nat) (m : EM) : (sApp i m env).post N T ↔ ∃ xs, env[i]? = some (some (.lst xs)) ∧ (m env).post fun d => xs.length < sizeLine ∧ N (env.set i (some (.lst (xs ++ [d])))) := by
  unfold sApp
  cases h : env[i]? with
  | none => simp
  | some o =>
    cases o with
    | none => simp
    | some d => cases d <;> simp
@[simp] theorem post_rev (i : Nat) : (sRev i env).post N T ↔ ∃ xs, env[i]? = some (some (.lst xs)) ∧ N (env.set i (some (.lst xs.reverse))) := by
  unfold sRev
  cases h : env[i]? with
  | none => simp
  | some o =>
    cases o with
    | none => simp
    | some d => cases d <;> simp
@[simp] theorem post_unp (g : GM) (m : EM) : (sUnp g m env).post N T ↔ (m env).post fun d => ∃ e, g d env = some e ∧ N e := by
  simp only [sUnp, R.post_go]
  refine Iff.of_eq (congrArg _ (funext fun k => ?_))
  cases g k env <;> simp
@[simp] theorem post_var (i : Nat) : (eVar i env).post P ↔ ∃ d, env[i]? = some (some d) ∧ P d := by
  unfold eVar
  cases h : env[i]? with
  | none => simp [R.of]
  | some o => cases o <;> simp [R.of]
@[simp] theorem post_c (d : D) : (eC d env).post P ↔ P d := by simp [eC]
@[simp] theorem post_e1 (f : D → R D) (a : EM) : (e1 f a env).post P ↔ (a env).post fun x => (f x).post P := by simp [e1]
@[simp] theorem post_e2 (f : D → D → R D) (a b : EM) : (e2 f a b env).post P ↔ (a env).post fun x => (b env).post fun y => (f x y).post P := by simp [e2]
@[simp] theorem post_tB1 (a : EM) {Q : Bool → Prop} : (tB1 a env).post Q ↔ (a env).post fun x => (dB x).post Q := by simp [tB1]
@[simp] theorem post_dB (b : Bool) {Q : Bool → Prop} : (dB (.bl b)).post Q ↔ Q b := by simp [dB]
theorem ite_post {α : Type} {k : Bool} {a b : R α} {Q : α → Prop} : (if k = true then a else b).post Q ↔ if k = true then a.post Q else b.post Q := by cases k <;> simp
@[simp] theorem post_tAnd (a b : TM) {Q : Bool → Prop} : (tAnd' a b env).post Q ↔ (a env).post fun k => if k = true then (b env).post Q else Q false := by simp [tAnd', ite_post]
@[simp] theorem post_tOr (a b : TM) {Q : Bool → Prop} : (tOr' a b env).post Q ↔ (a env).post fun k => if k = true then Q true else (b env).post Q := by simp [tOr', ite_post]
@[simp] theorem post_tNot (a : TM) {Q : Bool → Prop} : (tNot' a env).post Q ↔ (a env).post fun k => Q (!k) := by simp [tNot']
@[simp] theorem post_tTrue {Q : Bool → Prop} : (tTrue env).post Q ↔ Q true := by simp [tTrue]
@[simp] theorem post_eAnd (a b : EM) : (eAnd a b env).post P ↔ (a env).post fun x => (dB x).post fun k => if k = true then (b env).post P else P (.bl false) := by simp [eAnd, ite_post]
@[simp] theorem post_eOr (a b : EM) : (eOr a b env).post P ↔ (a env).post fun x => (dB x).post fun k => if k = true then P (.bl true) else (b env).post P := by simp [eOr, ite_post]
@[simp] theorem post_eNot (a : EM) : (eNot a env).post P ↔ (a env).post fun x => (dB x).post fun k => P (.bl (!k)) := by simp [eNot]
@[simp] theorem post_eIf (t : TM) (a b : EM) : (eIf t a b env).post P ↔ (t env).post fun k => if k = true then (a env).post P else (b env).post P := by simp [eIf, ite_post]
@[simp] theorem post_aNil {Q : List D → Prop} : (aNil env).post Q ↔ Q [] := by simp [aNil]
@[simp] theorem post_aCons (a : EM) (as : AM) {Q : List D → Prop} : (aCons a as env).post Q ↔ (a env).post fun x => (as env).post fun xs => Q (x :: xs) := by simp [aCons]
@[simp] theorem post_tup (as : AM) : (eTup as env).post P ↔ (as env).post fun xs => P (.tup xs) := by simp [eTup]
@[simp] theorem post_lst (as : AM) : (eLst as env).post P ↔ (as env).post fun xs => P (.lst xs) := by simp [eLst]
@[simp] theorem post_call (f : List D → R D) (as : AM) : (eCall f as env).post P ↔ (as env).post fun xs => (f xs).post P := by simp [eCall]
@[simp] theorem post_chain (f g : D → D → R D) (a b c : EM) : (eChain f g a b c env).post P ↔ (a env).post fun x => (b env).post fun y => (f x y).post fun z => (dB z).post fun k => if k = true then (c env).post fun u => (g y u).post P else P (.bl false) := by simp [eChain, ite_post]
@[simp] theorem post_sl (f : D → Option Int → Option Int → R D) (a : EM) (lo hi : Env → R (Option Int)) : (eSl f a lo hi env).post P ↔ (a env).post fun x => (lo env).post fun l => (hi env).post fun h => (f x l h).post P := by simp [eSl]
@[simp] theorem post_oNone {Q : Option Int → Prop} : (oNone env).post Q ↔ Q none := by simp [oNone]
@[simp] theorem post_oSome (a : EM) {Q : Option Int → Prop} : (oSome a env).post Q ↔ (a env).post fun d => ∃ i, d = .int i ∧ Q (some i) := by
  simp only [oSome, R.post_bind]
  refine Iff.of_eq (congrArg _ (funext fun d => ?_))
  cases d <;> simp
@[simp] theorem post_iSeq (a : EM) {Q : List D → Prop} : (iSeq a env).post Q ↔ (a env).post fun d => ∃ ds, itD d = some ds ∧ Q ds := by simp [iSeq]
theorem fnM_post {L n : Nat} {m : SM} {ds : List D} (hl : ds.length = n) (h : (m (ds.map some ++ List.replicate (L - n) none)).post (fun _ => P .non) P) : (fnM L n m ds).post P := by
  unfold fnM
  rw [if_pos hl]
  cases hm : m (ds.map some ++ List.replicate (L - n) none) with
  | ok c => rw [hm] at h; cases c <;> simp at h <;> simp [RS.fin, h]
  | exc c fs e => rw [hm] at h; simp at h
  | bad => rw [hm] at h; simp at h
/-- for -/
theorem post_for {mi : AM} {g : GM} {b : SM} (I : Nat → Env → Prop) {ds : List D} (hi : mi env = .ok ds) (h0 : I 0 env) (hs : ∀ i d e, ds[i]? = some d → I i e → ∃ e1, g d e = some e1 ∧ (b e1).post (I (i + 1)) T) (hN : ∀ e, I ds.length e → N e) : (sFor mi g b env).post N T := by
  have gen : ∀ (l : List D) (J : Nat → Env → Prop) (e : Env), J 0 e → (∀ i d e, l[i]? = some d → J i e → ∃ e1, g d e = some e1 ∧ (b e1).post (J (i + 1)) T) → (sForL g b l e).post (J l.length) T := fun l => by
    induction l with
    | nil => exact fun J e h _ => .nx h
    | cons d l ih =>
      intro J e h hs
      obtain ⟨e1, h1, h2⟩ := hs 0 d e rfl h
      unfold sForL
      rw [h1]
      simp only [R.of, R.go_ok]
      cases hb : b e1 with
      | ok c =>
        rw [hb] at h2
        cases c with
        | nx e2 => exact ih (fun i => J (i + 1)) e2 (by simpa using h2) fun i d' e' hd he => hs (i + 1) d' e' hd he
        | rt d => simp at h2; exact .rt h2
        | bk e2 => simp at h2
        | ct e2 => simp at h2
      | exc c fs e2 => rw [hb] at h2; simp at h2
      | bad => rw [hb] at h2; simp at h2
  unfold sFor
  rw [hi]
  exact RS.post_mono (gen ds I env h0 hs) hN fun _ h => h
/-- a comprehension: item by item -/
theorem post_lc {α : Type} {mi : AM} {g : GM} {t : TM} {m : EM} {vs : List Nat} {ds : List D} (q : α → Option D) (as : List α) (f : α → D) (hi : mi env = .ok ds) (hds : ds = as.map f) (hl : as.length ≤ 1000000)
    (hs : ∀ a ∈ as, ∃ e1, g (f a) (wipeE env vs) = some e1 ∧ (t e1).post fun k => if k = true then (m e1).post fun x => q a = some x else q a = none) (hP : P (.lst (as.filterMap q))) : (eLc mi g t m vs env).post P := by
  have gen : ∀ (l : List α), (∀ a ∈ l, ∃ e1, g (f a) (wipeE env vs) = some e1 ∧ (t e1).post fun k => if k = true then (m e1).post fun x => q a = some x else q a = none) → lcL g t m (l.map f) (wipeE env vs) = .ok (l.filterMap q) := fun l => by
    induction l with
    | nil => intro _; rfl
    | cons a l ih =>
      intro hs
      obtain ⟨e1, h1, h2⟩ := hs a List.mem_cons_self
      have i := ih fun b hb => hs b (List.mem_cons_of_mem _ hb)
      obtain ⟨k, hk, h3⟩ := R.post_ex h2
      rw [List.map_cons]
      unfold lcL
      rw [h1]
      simp only [R.of, R.bind_ok, hk]
      cases k with
      | true =>
        rw [if_pos rfl] at h3
        obtain ⟨x, hx, h4⟩ := R.post_ex h3
        rw [if_pos rfl, hx, i, List.filterMap_cons, h4]
        rfl
      | false =>
        rw [if_neg (by simp)] at h3
        rw [if_neg (by simp), i, List.filterMap_cons, h3]
  unfold eLc
  rw [hi]
  subst hds
  simp only [R.bind_ok, R.post_when, R.post_bind, R.post_nox]
  refine ⟨by simpa using hl, ?_⟩
  rw [gen as hs]
  exact .ok (.ok hP)
end
/-! operators on plain data -/
section
variable (i j : Int) (x y : Str) (xs ys : List D) (b : Bool)
@[simp] theorem dSub_ii : dSub (.int i) (.int j) = .ok (.int (i - j)) := rfl
@[simp] theorem dMod_ii : dMod (.int i) (.int j) = R.when (0 < j) (.ok (.int (i % j))) := rfl
@[simp] theorem dDiv_ii : dDiv (.int i) (.int j) = R.when (CDivW i j) (.ok (.int (i / j))) := rfl
@[simp] theorem dPow_ii : dPow (.int i) (.int j) = R.when (CPow i j) (.ok (.int (i ^ j.toNat))) := rfl
@[simp] theorem dShl_ii : dShl (.int i) (.int j) = R.when (CPow i j) (.ok (.int (i * 2 ^ j.toNat))) := rfl
@[simp] theorem dShr_ii : dShr (.int i) (.int j) = R.when (0 ≤ j) (.ok (.int (i / 2 ^ j.toNat))) := rfl
@[simp] theorem dAnd_ii : dAnd (.int i) (.int j) = .ok (.int (Builtin.bitAnd i j)) := rfl
@[simp] theorem dOr_ii : dOr (.int i) (.int j) = .ok (.int (Builtin.bitOr i j)) := rfl
@[simp] theorem dLt_ii : dLt (.int i) (.int j) = .ok (.bl (decide (i < j))) := rfl
@[simp] theorem dLe_ii : dLe (.int i) (.int j) = .ok (.bl (decide (i ≤ j))) := rfl
@[simp] theorem dGt_ii : dGt (.int i) (.int j) = .ok (.bl (decide (j < i))) := rfl
@[simp] theorem dGe_ii : dGe (.int i) (.int j) = .ok (.bl (decide (j ≤ i))) := rfl
@[simp] theorem dAdd_ii : dAdd (.int i) (.int j) = .ok (.int (i + j)) := rfl
@[simp] theorem dAdd_ss : dAdd (.str x) (.str y) = R.when (x.length + y.length ≤ sizeLine) (.ok (.str (x ++ y))) := rfl
@[simp] theorem dAdd_ll : dAdd (.lst xs) (.lst ys) = R.when (xs.length + ys.length ≤ sizeLine) (.ok (.lst (xs ++ ys))) := rfl
@[simp] theorem dCat_ll : dCat (.lst xs) (.lst ys) = R.when (xs.length + ys.length ≤ sizeLine) (.ok (.lst (xs ++ ys))) := rfl
@[simp] theorem dMul_ii : dMul (.int i) (.int j) = R.when (CMul i j ∨ CMulW i j) (.ok (.int (i * j))) := rfl
@[simp] theorem dMul_li : dMul (.lst xs) (.int j) = R.when (CRep xs.length j) (.ok (.lst (List.replicate j.toNat xs).flatten)) := rfl
@[simp] theorem dRep_li : dRep (.lst xs) (.int j) = R.when (CRep xs.length j) (.ok (.lst (List.replicate j.toNat xs).flatten)) := rfl
@[simp] theorem dNeg_i : dNeg (.int i) = .ok (.int (-i)) := rfl
@[simp] theorem dEq_ii : dEq (.int i) (.int j) = .ok (.bl (decide (i = j))) := rfl
@[simp] theorem dNe_ii : dNe (.int i) (.int j) = .ok (.bl (!decide (i = j))) := rfl
@[simp] theorem dInt_i : dInt (.int i) = .ok (.int i) := rfl
@[simp] theorem dInt_b : dInt (.bl b) = .ok (.int (if b then 1 else 0)) := rfl
@[simp] theorem dLen_l : dLen (.lst xs) = .ok (.int xs.length) := rfl
@[simp] theorem dLen_t : dLen (.tup xs) = .ok (.int xs.length) := rfl
@[simp] theorem dLen_c : dLen (.scr xs) = .ok (.int xs.length) := rfl
@[simp] theorem dLen_s : dLen (.str x) = R.when (x.length ≤ sizeLine) (.ok (.int x.length)) := rfl
@[simp] theorem dIx_l : dIx (.lst xs) (.int i) = R.of (atI xs i) := rfl
@[simp] theorem dIx_t : dIx (.tup xs) (.int i) = R.of (atI xs i) := rfl
@[simp] theorem dIx_c : dIx (.scr xs) (.int i) = R.of (atI xs i) := rfl
@[simp] theorem dIx_s : dIx (.str x) (.int i) = R.when (x.length ≤ sizeLine) ((R.of (atI x.cps.toList i)).bind fun c => .ok (.str ⟨#[c]⟩)) := rfl
@[simp] theorem dList_l : dList (.lst xs) = .ok (.lst xs) := rfl
@[simp] theorem dTup_l : dTup (.lst xs) = .ok (.tup xs) := rfl
@[simp] theorem seqOf_l : seqOf (.lst xs) = some xs := rfl
@[simp] theorem seqOf_t : seqOf (.tup xs) = some xs := rfl
@[simp] theorem seqOf_c : seqOf (.scr xs) = some xs := rfl
@[simp] theorem itD_l : itD (.lst xs) = some xs := rfl
@[simp] theorem itD_t : itD (.tup xs) = some xs := rfl
@[simp] theorem itD_c : itD (.scr xs) = some xs := rfl
@[simp] theorem dSum_l (ns : List Int) : dSum (.lst (ns.map D.int)) = .ok (.int ns.sum) := by
  show (R.of (asInts (ns.map D.int))).bind _ = _
  rw [asInts_map]; rfl
@[simp] theorem dMin_l (ns : List Int) : dMin (.lst (ns.map D.int)) = R.of (ns.min?.map D.int) := by
  show (R.of (asInts (ns.map D.int))).bind _ = _
  rw [asInts_map]
  show (R.of ns.min?).bind _ = _
  cases ns.min? <;> rfl
end
theorem atI_nat {α : Type} {xs : List α} {i : Int} {a : α} (h0 : 0 ≤ i) (h : xs[i.toNat]? = some a) : atI xs i = some a := by
  have hl := (List.getElem?_eq_some_iff.mp h).1
  unfold atI ixN
  rw [if_pos h0, if_pos (by omega)]
  exact h
theorem size24 : sizeLine = 16777216 := by decide
theorem cm_r {i j : Int} (h : -18446744073709551616 < j) (h' : j < 18446744073709551616) : CMul i j ∨ CMulW i j := .inl (.inr ⟨by simpa using h, by simpa using h'⟩)
theorem cm_l {i j : Int} (h : -18446744073709551616 < i) (h' : i < 18446744073709551616) : CMul i j ∨ CMulW i j := .inl (.inl ⟨by simpa using h, by simpa using h'⟩)
theorem cdivw {i j : Int} (h : 0 < j) (h2 : j < 1000000000) : CDivW i j := by
  refine ⟨h, ?_⟩
  have : j.natAbs < 2 ^ 30 := by omega
  have := (Nat.log2_lt (n := j.natAbs) (k := 30) (by omega)).mpr this
  omega
theorem cpow1 {j : Int} (h : 0 ≤ j) (h2 : j ≤ 1000) : CPow 1 j := ⟨h, by omega, by decide⟩
theorem rngD_at {lo : Int} {n i : Nat} {d : D} (h : (rngD lo n)[i]? = some d) : i < n ∧ d = .int (lo + (i : Int)) := by
  unfold rngD at h
  rw [List.getElem?_map] at h
  by_cases hi : i < n
  · rw [List.getElem?_range hi] at h
    cases h
    exact ⟨hi, rfl⟩
  · rw [List.getElem?_eq_none (by simpa using hi)] at h
    cases h
theorem rngD_len (lo : Int) (n : Nat) : (rngD lo n).length = n := by simp [rngD]
theorem rng_of {a : EM} {env : Env} {j : Int} (h : (a env).post (· = .int j)) (h1 : -4611686018427387904 ≤ j) (h2 : j < 4611686018427387904) : iRng a env = .ok (rngD 0 j.toNat) := by
  unfold iRng
  rw [R.post_eq h]
  simp only [R.bind_ok]
  unfold R.when
  rw [if_pos ⟨by simpa using h1, by simpa using h2⟩]
theorem rng_len {a : EM} {env : Env} {n : Nat} (h : (a env).post (· = .int n)) (h1 : n < 4611686018427387904) : iRng a env = .ok (rngD 0 n) := by
  rw [rng_of h (by omega) (by omega)]; rfl
theorem rng2_of {a b : EM} {env : Env} {i j : Int} (h : (a env).post (· = .int i)) (h' : (b env).post (· = .int j)) (h1 : -4611686018427387904 ≤ i) (h2 : i < 4611686018427387904) (h3 : -4611686018427387904 ≤ j) (h4 : j < 4611686018427387904) : iRng' a b env = .ok (rngD i (j - i).toNat) := by
  unfold iRng'
  rw [R.post_eq h, R.post_eq h']
  simp only [R.bind_ok]
  unfold R.when
  rw [if_pos ⟨⟨by simpa using h1, by simpa using h2⟩, ⟨by simpa using h3, by simpa using h4⟩⟩]
theorem post_lcM {α β : Type} {P : D → Prop} {env : Env} {mi : AM} {g : GM} {t : TM} {m : EM} {vs : List Nat} {ds : List D} (q : α → Option β) (r : β → D) (as : List α) (f : α → D) (hi : mi env = .ok ds) (hds : ds = as.map f) (hl : as.length ≤ 1000000)
    (hs : ∀ a ∈ as, ∃ e1, g (f a) (wipeE env vs) = some e1 ∧ (t e1).post fun k => if k = true then (m e1).post fun x => ∃ y, q a = some y ∧ x = r y else q a = none) (hP : P (.lst ((as.filterMap q).map r))) : (eLc mi g t m vs env).post P := by
  refine post_lc (fun a => (q a).map r) as f hi hds hl (fun a ha => ?_) (by rw [← List.map_filterMap]; exact hP)
  obtain ⟨e1, h1, h2⟩ := hs a ha
  refine ⟨e1, h1, R.post_mono h2 fun k hk => ?_⟩
  cases k with
  | true => rw [if_pos rfl] at hk ⊢; exact R.post_mono hk fun x ⟨y, h3, h4⟩ => by rw [h3, h4]; rfl
  | false => rw [if_neg (by simp)] at hk ⊢; rw [hk]; rfl
theorem seq_of {a : EM} {env : Env} {ds : List D} (h : (a env).post fun d => itD d = some ds) : iSeq a env = .ok ds := by
  obtain ⟨d, h1, h2⟩ := R.post_ex h
  unfold iSeq
  rw [h1]; simp [h2, R.of]
theorem atI_pos {α : Type} (xs : List α) {i : Int} (h0 : 0 ≤ i) : atI xs i = xs[i.toNat]? := by
  unfold atI ixN
  rw [if_pos h0]
  by_cases h : i < xs.length
  · rw [if_pos h]; rfl
  · rw [if_neg h, List.getElem?_eq_none (by omega)]; rfl
@[simp] theorem atI_0 {α : Type} (xs : List α) : atI xs 0 = xs[0]? := atI_pos xs (by decide)
@[simp] theorem atI_1 {α : Type} (xs : List α) : atI xs 1 = xs[1]? := atI_pos xs (by decide)
@[simp] theorem atI_2 {α : Type} (xs : List α) : atI xs 2 = xs[2]? := atI_pos xs (by decide)
@[simp] theorem atI_3 {α : Type} (xs : List α) : atI xs 3 = xs[3]? := atI_pos xs (by decide)
@[simp] theorem atI_4 {α : Type} (xs : List α) : atI xs 4 = xs[4]? := atI_pos xs (by decide)
@[simp] theorem atI_5 {α : Type} (xs : List α) : atI xs 5 = xs[5]? := atI_pos xs (by decide)
@[simp] theorem atI_6 {α : Type} (xs : List α) : atI xs 6 = xs[6]? := atI_pos xs (by decide)
@[simp] theorem atI_7 {α : Type} (xs : List α) : atI xs 7 = xs[7]? := atI_pos xs (by decide)
@[simp] theorem atI_8 {α : Type} (xs : List α) : atI xs 8 = xs[8]? := atI_pos xs (by decide)
@[simp] theorem atI_9 {α : Type} (xs : List α) : atI xs 9 = xs[9]? := atI_pos xs (by decide)
@[simp] theorem atI_10 {α : Type} (xs : List α) : atI xs 10 = xs[10]? := atI_pos xs (by decide)
@[simp] theorem atI_11 {α : Type} (xs : List α) : atI xs 11 = xs[11]? := atI_pos xs (by decide)
@[simp] theorem atI_12 {α : Type} (xs : List α) : atI xs 12 = xs[12]? := atI_pos xs (by decide)
@[simp] theorem atI_13 {α : Type} (xs : List α) : atI xs 13 = xs[13]? := atI_pos xs (by decide)
@[simp] theorem atI_14 {α : Type} (xs : List α) : atI xs 14 = xs[14]? := atI_pos xs (by decide)
@[simp] theorem atI_15 {α : Type} (xs : List α) : atI xs 15 = xs[15]? := atI_pos xs (by decide)
@[simp] theorem atI_16 {α : Type} (xs : List α) : atI xs 16 = xs[16]? := atI_pos xs (by decide)
@[simp] theorem atI_17 {α : Type} (xs : List α) : atI xs 17 = xs[17]? := atI_pos xs (by decide)
@[simp] theorem atI_18 {α : Type} (xs : List α) : atI xs 18 = xs[18]? := atI_pos xs (by decide)
@[simp] theorem atI_19 {α : Type} (xs : List α) : atI xs 19 = xs[19]? := atI_pos xs (by decide)
@[simp] theorem atI_cast {α : Type} (xs : List α) (n : Nat) : atI xs (n : Int) = xs[n]? := atI_pos xs (by omega)
@[simp] theorem nox_ok {α : Type} (a : α) : (R.ok a).nox = .ok a := rfl
theorem when_pos {α : Type} {c : Prop} [Decidable c] (h : c) (r : R α) : R.when c r = r := if_pos h
theorem lt63 : ((1000000 : Nat) : Int) < 2 ^ 63 := by decide +kernel
def lenK : D → R D := fun d => match d with
    | .int n => R.when (0 ≤ n ∧ n < 2 ^ 63) (.ok (.int n))
    | _ => .bad
theorem lenK_int (n : Nat) (hn : (n : Int) < 2 ^ 63) : lenK (.int n) = .ok (.int n) := when_pos ⟨Int.natCast_nonneg n, hn⟩ _
theorem lenO_of {c : Str} {mf : List D → R D} {a : EM} {env : Env} {es : List (Str × D)} {n : Nat} (ha : a env = .ok (.obj c es)) (h : mf [.obj c es] = .ok (.int n)) (hn : n < 1000000) : eLenO c mf a env = .ok (.int n) := by
  have e : eLenO c mf a env = (a env).bind fun x => match x with
    | .obj c' es => if c' = c then (mf [.obj c' es]).nox.bind lenK else .bad
    | _ => .bad := rfl
  rw [e, ha, R.bind_ok]
  dsimp only
  rw [if_pos rfl, h, nox_ok, R.bind_ok]
  exact lenK_int n (Int.lt_trans (Int.ofNat_lt.mpr hn) lt63)
theorem listG_of {f : List D → R (List D)} {as : AM} {env : Env} {ds r : List D} (ha : as env = .ok ds) (h : f ds = .ok r) : eListG f as env = .ok (.lst r) := by
  unfold eListG
  rw [ha, R.bind_ok, h, nox_ok, R.bind_ok]
end MD

/-! pure: dicts of pairs, sums -/
namespace MD
open PySem L2
theorem post_put {N : Env → Prop} {T : D → Prop} {env : Env} (i : Nat) (mk mv : EM) : (sPut i mk mv env).post N T ↔ (mv env).post fun v => (mk env).post fun k => ∃ d d', env[i]? = some (some d) ∧ dPut d k v = some d' ∧ N (env.set i (some d')) := by
  unfold sPut
  simp only [R.post_go]
  refine Iff.of_eq (congrArg _ (funext fun v => congrArg _ (funext fun k => ?_)))
  cases h : env[i]? with
  | none => simp
  | some o =>
    cases o with
    | none => simp
    | some d =>
      simp only [Option.some.injEq, exists_eq_left', exists_and_left]
      cases dPut d k v <;> simp
theorem post_get {P : D → Prop} {env : Env} (a b c : EM) : (eGet a b c env).post P ↔ (a env).post fun x => isDict x = true ∧ (b env).post fun y => (c env).post fun z => (dGet x y z).post P := by
  unfold eGet
  simp only [R.post_bind]
  refine Iff.of_eq (congrArg _ (funext fun x => ?_))
  by_cases h : isDict x = true <;> simp [h]
abbrev AL := List ((Int × Int) × Int)
def kk (k : Int × Int) : List L2.Key := [.inl k.1, .inl k.2]
theorem kk_inj {k l : Int × Int} : kk k = kk l ↔ k = l := by
  obtain ⟨a, b⟩ := k; obtain ⟨c, d⟩ := l
  simp [kk]
def esA (A : AL) : List (List L2.Key × D) := A.map fun p => (kk p.1, .int p.2)
def getA (A : AL) (k : Int × Int) : Option Int := (A.find? fun p => decide (p.1 = k)).map (·.2)
def putA (A : AL) (k : Int × Int) (v : Int) : AL := if (A.any fun p => decide (p.1 = k)) = true then A.map (fun p => if p.1 = k then (p.1, v) else p) else A ++ [(k, v)]
theorem dAt_esA (k : Int × Int) : ∀ A : AL, dAt (esA A) (kk k) = (getA A k).map D.int
  | [] => rfl
  | p :: A => by
    have ih := dAt_esA k A
    unfold dAt getA esA at ih ⊢
    rw [List.map_cons, List.find?_cons, List.find?_cons]
    by_cases h : p.1 = k
    · simp [h]
    · have h' : ¬ kk p.1 = kk k := fun z => h (kk_inj.mp z)
      simp only [h, h', decide_false]
      exact ih
theorem putD_esA (k : Int × Int) (v : Int) (A : AL) : putD (esA A) (kk k) (.int v) = esA (putA A k v) := by
  have e : (fun kv : List L2.Key × D => decide (kv.1 = kk k)) ∘ (fun p : (Int × Int) × Int => (kk p.1, D.int p.2)) = fun p => decide (p.1 = k) := by
    funext p; simp [kk_inj]
  unfold putD putA esA
  rw [List.any_map, e]
  by_cases h : (A.any fun p => decide (p.1 = k)) = true
  · rw [if_pos h, if_pos h, List.map_map, List.map_map]
    congr 1
    funext p
    simp only [Function.comp, kk_inj]
    by_cases hp : p.1 = k <;> simp [hp]
  · rw [if_neg h, if_neg h, List.map_append]
    rfl
theorem esA_len (A : AL) : (esA A).length = A.length := by simp [esA]
@[simp] theorem dPut_dct (es : List (List L2.Key × D)) (a b : Int) (v : D) : dPut (.dct es) (.tup [.int a, .int b]) v = if es.length < sizeLine then some (.dct (putD es (kk (a, b)) v)) else none := rfl
@[simp] theorem dGet_dct (es : List (List L2.Key × D)) (a b : Int) (x : D) : dGet (.dct es) (.tup [.int a, .int b]) x = .ok ((dAt es (kk (a, b))).getD x) := rfl
@[simp] theorem dIx_dct (es : List (List L2.Key × D)) (a b : Int) : dIx (.dct es) (.tup [.int a, .int b]) = R.of (dAt es (kk (a, b))) := rfl
def Nd (A : AL) : Prop := (A.map (·.1)).Nodup
/-- a weighed sum -/
def wA (f : Int × Int → Int) (A : AL) : Int := (A.map fun p => f p.1 * p.2).sum
theorem putA_keys (A : AL) (k : Int × Int) (v : Int) : (putA A k v).map (·.1) = if (A.any fun p => decide (p.1 = k)) = true then A.map (·.1) else A.map (·.1) ++ [k] := by
  unfold putA
  by_cases h : (A.any fun p => decide (p.1 = k)) = true
  · rw [if_pos h, if_pos h, List.map_map]
    congr 1
    funext p
    by_cases hp : p.1 = k <;> simp [hp]
  · rw [if_neg h, if_neg h, List.map_append]; rfl
theorem any_key {A : AL} {k : Int × Int} : (A.any fun p => decide (p.1 = k)) = true ↔ k ∈ A.map (·.1) := by
  simp
theorem putA_nd {A : AL} (h : Nd A) (k : Int × Int) (v : Int) : Nd (putA A k v) := by
  unfold Nd at h ⊢
  rw [putA_keys]
  by_cases q : (A.any fun p => decide (p.1 = k)) = true
  · rw [if_pos q]; exact h
  · rw [if_neg q]
    rw [any_key] at q
    refine List.nodup_append.mpr ⟨h, by simp, fun a ha b hb => ?_⟩
    simp at hb; subst hb
    exact fun z => q (z ▸ ha)
theorem wA_put (f : Int × Int → Int) (k : Int × Int) (l : Int) : ∀ {A : AL}, Nd A → wA f (putA A k ((getA A k).getD 0 + l)) = wA f A + f k * l := by
  have gen : ∀ {A : AL}, Nd A → ∀ v : Int, (k ∈ A.map (·.1)) → wA f (A.map fun p => if p.1 = k then (p.1, v) else p) = wA f A + f k * (v - (getA A k).getD 0) := by
    intro A
    induction A with
    | nil => intro _ v h; simp at h
    | cons p A ih =>
      intro nd v hk
      unfold Nd at nd
      rw [List.map_cons, List.nodup_cons] at nd
      by_cases hp : p.1 = k
      · have none : ∀ q ∈ A, ¬ q.1 = k := fun q hq z => nd.1 (by rw [hp, ← z]; exact List.mem_map_of_mem hq)
        have e : (A.map fun q => if q.1 = k then (q.1, v) else q) = A := by
          conv => rhs; rw [← List.map_id A]
          exact List.map_congr_left fun q hq => by simp [none q hq]
        unfold wA getA
        rw [List.map_cons, e]
        simp [hp]
        rw [Int.mul_sub]; omega
      · have hk' : k ∈ A.map (·.1) := by
          rw [List.map_cons, List.mem_cons] at hk
          rcases hk with z | z
          · exact absurd z.symm hp
          · exact z
        have i := ih nd.2 v hk'
        unfold wA at i ⊢
        have eg : getA (p :: A) k = getA A k := by unfold getA; rw [List.find?_cons]; simp [hp]
        rw [eg]
        simp only [List.map_cons, hp, if_false, List.sum_cons]
        rw [i]; omega
  intro A nd
  unfold putA
  by_cases q : (A.any fun p => decide (p.1 = k)) = true
  · rw [if_pos q, gen nd _ (any_key.mp q)]
    congr 2; omega
  · rw [if_neg q]
    have g0 : getA A k = none := by
      unfold getA
      rw [List.find?_eq_none.mpr]
      · rfl
      · intro p hp z
        exact q (List.any_eq_true.mpr ⟨p, hp, z⟩)
    rw [g0]
    unfold wA
    simp
theorem sum_perm {a b : List Int} (h : a.Perm b) : a.sum = b.sum := by
  induction h with
  | nil => rfl
  | cons x _ ih => simp [ih]
  | swap x y l => simp; omega
  | trans _ _ i j => exact i.trans j
theorem getA_mem {A : AL} (nd : Nd A) {p : (Int × Int) × Int} (hp : p ∈ A) : getA A p.1 = some p.2 := by
  induction A with
  | nil => simp at hp
  | cons q A ih =>
    unfold Nd at nd
    rw [List.map_cons, List.nodup_cons] at nd
    unfold getA
    rw [List.find?_cons]
    rcases List.mem_cons.mp hp with e | e
    · subst e; simp
    · have : ¬ q.1 = p.1 := fun z => nd.1 (by rw [z]; exact List.mem_map_of_mem e)
      simp only [this, decide_false]
      exact ih nd.2 e
theorem asPrs_map : ∀ ks : List (Int × Int), asPrs (ks.map pD) = some ks
  | [] => rfl
  | k :: ks => by
    have ih := asPrs_map ks
    unfold asPrs at ih ⊢
    rw [List.map_cons, List.mapM_cons, ih]
    rfl
theorem dList_esA (A : AL) : dList (.dct (esA A)) = .ok (.lst ((A.map (·.1)).map pD)) := by
  show R.ok (D.lst ((esA A).map fun e => .tup (e.1.map kD))) = _
  unfold esA
  rw [List.map_map, List.map_map]
  rfl
theorem dSorted_prs (ks : List (Int × Int)) : dSorted (.lst (ks.map pD)) = .ok (.lst ((ks.mergeSort leP).map pD)) := by
  cases ks with
  | nil => simp [dSorted, asInts]
  | cons k ks =>
    have h : asInts ((k :: ks).map pD) = none := by
      unfold asInts
      rw [List.map_cons, List.mapM_cons]
      rfl
    show (match asInts ((k :: ks).map pD) with
      | some ns => (R.ok (D.lst ((ns.mergeSort leI).map D.int)) : R D)
      | none => (R.of (asPrs ((k :: ks).map pD))).bind fun ps => (R.ok (D.lst ((ps.mergeSort leP).map pD)) : R D)) = _
    rw [h, asPrs_map]
    rfl
theorem sorted_esA {a : EM} {env : Env} {A : AL} (h : a env = .ok (.dct (esA A))) : iSeq (e1 dSorted (e1 dList a)) env = .ok (((A.map (·.1)).mergeSort leP).map pD) := by
  have e : iSeq (e1 dSorted (e1 dList a)) env = (((a env).bind dList).bind dSorted).bind fun d => R.of (itD d) := rfl
  rw [e, h, R.bind_ok, dList_esA, R.bind_ok, dSorted_prs, R.bind_ok]
  rfl
abbrev Tr := Int × Int × Int
def trA (p : (Int × Int) × Int) : Tr := (p.1.1, p.1.2, p.2)
def trK (A : AL) (k : Int × Int) : Tr := (k.1, k.2, (getA A k).getD 0)
theorem keys_perm {A : AL} (nd : Nd A) : (((A.map (·.1)).mergeSort leP).map (trK A)).Perm (A.map trA) := by
  have h := (List.mergeSort_perm (A.map (·.1)) leP).map (trK A)
  rw [List.map_map] at h
  rw [show A.map trA = A.map (trK A ∘ fun p => p.1) from List.map_congr_left fun p hp => by simp [trA, trK, getA_mem nd hp]]
  exact h
theorem key_in {A : AL} {k : Int × Int} (h : k ∈ (A.map (·.1)).mergeSort leP) : ∃ v, getA A k = some v := by
  have h1 : k ∈ A.map (·.1) := (List.mergeSort_perm _ _).mem_iff.mp h
  unfold getA
  cases e : A.find? fun p => decide (p.1 = k) with
  | some p => exact ⟨p.2, rfl⟩
  | none =>
    obtain ⟨p, hp, hk⟩ := List.mem_map.mp h1
    have := List.find?_eq_none.mp e p hp
    simp [hk] at this
/-- weighed sums over streets -/
def ws (c : Int → Int → Bool) (S : List Tr) : Int := (S.map fun t => if c t.1 t.2.1 = true then t.2.2 else 0).sum
theorem ws_perm {c : Int → Int → Bool} {S T : List Tr} (h : S.Perm T) : ws c S = ws c T := sum_perm (h.map _)
theorem ws_append (c : Int → Int → Bool) (S T : List Tr) : ws c (S ++ T) = ws c S + ws c T := by simp [ws]
theorem ws_A (c : Int → Int → Bool) (A : AL) : ws c (A.map trA) = wA (fun k => if c k.1 k.2 = true then 1 else 0) A := by
  unfold ws wA
  rw [List.map_map]
  congr 1
  exact List.map_congr_left fun p _ => by
    simp only [Function.comp, trA]
    by_cases h : c p.1.1 p.1.2 = true <;> simp [h]
@[simp] theorem getD_int (o : Option Int) (z : Int) : (o.map D.int).getD (.int z) = .int (o.getD z) := by cases o <;> rfl
@[simp] theorem isDict_dct (es : List (List L2.Key × D)) : isDict (.dct es) = true := rfl
@[simp] theorem dIx_pD0 (k : Int × Int) : dIx (pD k) (.int 0) = .ok (.int k.1) := rfl
@[simp] theorem dIx_pD1 (k : Int × Int) : dIx (pD k) (.int 1) = .ok (.int k.2) := rfl
@[simp] theorem dIx_pDd (A : AL) (k : Int × Int) : dIx (.dct (esA A)) (pD k) = R.of ((getA A k).map D.int) := by
  have e : dIx (.dct (esA A)) (pD k) = R.of (dAt (esA A) (kk k)) := rfl
  rw [e, dAt_esA]
theorem putA_len (A : AL) (k : Int × Int) (v : Int) : (putA A k v).length ≤ A.length + 1 := by
  unfold putA
  split <;> simp
theorem putA_mem {A : AL} {k : Int × Int} {v : Int} {p : (Int × Int) × Int} (h : p ∈ putA A k v) : (∃ q ∈ A, q.1 = p.1) ∨ p.1 = k := by
  have h1 : p.1 ∈ (putA A k v).map (·.1) := List.mem_map_of_mem h
  rw [putA_keys] at h1
  split at h1
  · obtain ⟨q, hq, e⟩ := List.mem_map.mp h1
    exact .inl ⟨q, hq, e⟩
  · rcases List.mem_append.mp h1 with h2 | h2
    · obtain ⟨q, hq, e⟩ := List.mem_map.mp h2
      exact .inl ⟨q, hq, e⟩
    · exact .inr (by simpa using h2)
theorem putA_mem2 {A : AL} {k : Int × Int} {v : Int} {p : (Int × Int) × Int} (h : p ∈ putA A k v) : p ∈ A ∨ p = (k, v) := by
  unfold putA at h
  split at h
  · obtain ⟨q, hq, e⟩ := List.mem_map.mp h
    by_cases z : q.1 = k
    · rw [if_pos z] at e; exact .inr (by rw [← e, z])
    · rw [if_neg z] at e; exact .inl (e ▸ hq)
  · rcases List.mem_append.mp h with h2 | h2
    · exact .inl h2
    · exact .inr (by simpa using h2)
theorem getA_some {A : AL} {k : Int × Int} {v : Int} (h : getA A k = some v) : (k, v) ∈ A := by
  unfold getA at h
  cases e : A.find? fun p => decide (p.1 = k) with
  | none => rw [e] at h; cases h
  | some p =>
    rw [e] at h
    have h1 := List.find?_some e
    have h2 := List.mem_of_find?_eq_some e
    simp at h1 h
    subst h1 h
    exact h2
theorem getA_nn {A : AL} (h : ∀ p ∈ A, 0 ≤ p.2) (k : Int × Int) : 0 ≤ (getA A k).getD 0 := by
  cases e : getA A k with
  | none => simp
  | some v => exact h _ (getA_some e)
theorem sum_nn : ∀ {l : List Int}, (∀ x ∈ l, 0 ≤ x) → 0 ≤ l.sum
  | [], _ => by simp
  | x :: l, h => by
    have := sum_nn (l := l) fun y hy => h y (List.mem_cons_of_mem _ hy)
    have := h x List.mem_cons_self
    simp; omega
theorem le_sum : ∀ {l : List Int}, (∀ x ∈ l, 0 ≤ x) → ∀ {x : Int}, x ∈ l → x ≤ l.sum
  | [], _, x, hx => by simp at hx
  | y :: l, h, x, hx => by
    have h1 := sum_nn (l := l) fun y hy => h y (List.mem_cons_of_mem _ hy)
    have h2 := h y List.mem_cons_self
    rcases List.mem_cons.mp hx with e | e
    · subst e; simp; omega
    · have := le_sum (l := l) (fun y hy => h y (List.mem_cons_of_mem _ hy)) e
      simp; omega
/-- all lanes -/
def tot (S : List Tr) : Int := (S.map fun t => t.2.2).sum
theorem ws_true (S : List Tr) : ws (fun _ _ => true) S = tot S := by simp [ws, tot]
end MD

namespace MD
open PySem L2
theorem e_cell (ns : List Int) (hn : ns.length ≤ 63) (k : Int) (hk : 0 ≤ k) (hk2 : k ≤ 100) : (m_law_cell [.scr (ns.map D.int), .int k]).post fun d => ∃ c, d = .int c := by
  refine fnM_post rfl ?_
  simp [b_law_cell, dLen, seqOf, dLt, dI2, dIx, dInt]
  split
  · rename_i h
    have hx : ns[k.toNat]? = some (ns[k.toNat]'(by omega)) := List.getElem?_eq_getElem (by omega)
    exact ⟨.int (ns[k.toNat]'(by omega)), atI_nat hk (by rw [List.getElem?_map, hx]; rfl), _, rfl⟩
  · refine post_for (fun i e => ∃ (s : Int) (o : Option D), 0 ≤ s ∧ s < 999983 ∧ e = [some (.scr (ns.map D.int)), some (.int k), some (.int s), o]) (ds := ns.map D.int) rfl ⟨7, none, by decide, by decide, rfl⟩ ?_ ?_
    · rintro i d e hd ⟨s, o, h1, h2, rfl⟩
      rw [List.getElem?_map] at hd
      cases hx : ns[i]? with
      | none => rw [hx] at hd; cases hd
      | some x =>
        rw [hx] at hd; cases hd
        refine ⟨_, rfl, ?_⟩
        simp [lb_law_cell_140]
        exact ⟨cm_r (by decide) (by decide), Int.emod_nonneg _ (by decide), Int.emod_lt_of_pos _ (by decide)⟩
    · rintro e ⟨s, o, h1, h2, rfl⟩
      simp [dMul, dAdd, dMod, dInt, dI2]
      exact ⟨cm_l (by omega) (by omega), cm_r (by decide) (by decide)⟩
/-- digit i lies below size i -/
def Below (ds sizes : List Int) : Prop := ∀ (j : Nat) (d s : Int), ds[j]? = some d → sizes[j]? = some s → 0 ≤ d ∧ d < s
theorem Below.nil {sizes : List Int} : Below [] sizes := fun j d s h => by simp at h
theorem Below.snoc {ds sizes : List Int} {x s : Int} (h : Below ds sizes) (hs : sizes[ds.length]? = some s) (h0 : 0 ≤ x) (h1 : x < s) : Below (ds ++ [x]) sizes := fun j d t hd ht => by
  by_cases hj : j < ds.length
  · rw [List.getElem?_append_left hj] at hd
    exact h j d t hd ht
  · rw [List.getElem?_append_right (by omega)] at hd
    cases hk : j - ds.length with
    | zero =>
      rw [hk] at hd
      cases hd
      have : j = ds.length := by omega
      subst this
      rw [hs] at ht; cases ht
      exact ⟨h0, h1⟩
    | succ n => rw [hk] at hd; cases hd
theorem e_digits (c : Int) (sizes : List Int) (hl : sizes.length ≤ 100) (hs : ∀ s ∈ sizes, 1 ≤ s ∧ s ≤ 100000) : (m_law_digits [.int c, .lst (sizes.map D.int)]).post fun d => ∃ ds : List Int, d = .lst (ds.map D.int) ∧ ds.length = sizes.length ∧ Below ds sizes := by
  refine fnM_post rfl ?_
  have p60 : CPow 10 60 := by decide
  have p18 : CPow 10 18 := by decide
  have m1 : CMul (10 ^ 60) (10 ^ 60) ∨ CMulW (10 ^ 60) (10 ^ 60) := .inr (by unfold CMulW; decide +kernel)
  have m2 : CMul (10 ^ 60 * 10 ^ 60) (10 ^ 60) ∨ CMulW (10 ^ 60 * 10 ^ 60) (10 ^ 60) := .inr (by unfold CMulW; decide +kernel)
  have hsz : ∀ (i : Nat) (s : Int), sizes[i]? = some s → 1 ≤ s ∧ s ≤ 100000 := fun i s h => hs s (List.mem_of_getElem? h)
  simp [b_law_digits, p60, p18]
  refine ⟨by simpa using m1, by simpa using m2, ?_⟩
  generalize c % _ = r0
  split
  · refine post_for (fun i e => ∃ (ds : List Int) (r : Int) (o : Option D), ds.length = i ∧ i ≤ sizes.length ∧ Below ds sizes ∧ e = [some (.int c), some (.lst (sizes.map D.int)), some (.lst (ds.map D.int)), some (.int r), o, none, none, none]) (ds := sizes.map D.int) rfl ⟨[], _, none, rfl, Nat.zero_le _, Below.nil, rfl⟩ ?_ ?_
    · rintro i d e hd ⟨ds, r, o, rfl, h1, h2, rfl⟩
      rw [List.getElem?_map] at hd
      cases hx : sizes[ds.length]? with
      | none => rw [hx] at hd; cases hd
      | some x =>
        rw [hx] at hd; cases hd
        obtain ⟨x1, x2⟩ := hsz _ _ hx
        have hlt := (List.getElem?_eq_some_iff.mp hx).1
        refine ⟨_, rfl, ?_⟩
        simp [lb_law_digits_148]
        refine ⟨by omega, by rw [size24]; omega, cdivw (by omega) (by omega), ds ++ [r % x], by simp, by omega, h2.snoc hx (Int.emod_nonneg _ (by omega)) (Int.emod_lt_of_pos _ (by omega)), by simp⟩
    · rintro e ⟨ds, r, o, h0, h1, h2, rfl⟩
      simp
      exact ⟨ds, rfl, by simpa using h0, h2⟩
  · refine post_for (fun i e => ∃ (ds : List Int) (r s : Int) (o o' : Option D), ds.length = i ∧ i ≤ sizes.length ∧ 0 ≤ s ∧ s < 2147483647 ∧ Below ds sizes ∧ e = [some (.int c), some (.lst (sizes.map D.int)), some (.lst (ds.map D.int)), some (.int r), none, some (.int s), o, o']) (ds := rngD 0 sizes.length) ?_ ?_ ?_ ?_
    · refine rng_len ?_ ?_
      · simp
      · have := hl; omega
    · refine ⟨[], r0, r0 % 2147483629, none, none, rfl, Nat.zero_le _, ?_, ?_, Below.nil, ?_⟩
      · omega
      · omega
      · rfl
    · rintro i d e hd ⟨ds, r, s, o, o', rfl, h1, s0, s1, h2, rfl⟩
      obtain ⟨hi, rfl⟩ := rngD_at hd
      have hx : sizes[ds.length]? = some (sizes[ds.length]'hi) := List.getElem?_eq_getElem hi
      obtain ⟨x1, x2⟩ := hsz _ _ hx
      generalize sizes[ds.length]'hi = x at hx x1 x2
      refine ⟨_, rfl, ?_⟩
      simp [lb_law_digits_153]
      refine ⟨cm_r (by decide) (by decide), cm_l (by decide) (by decide), cdivw (by decide) (by decide), cm_l (by omega) (by omega), cdivw (by decide) (by decide), .int x, ⟨x, hx, rfl⟩, ?_⟩
      simp
      refine ⟨by omega, by rw [size24]; omega, ?_⟩
      generalize e1 : (s * 48271 + 974711 * (ds.length : Int) + 12345) % 2147483647 = s'
      generalize e2 : s' * (s' / 65537 + 3) % 2147483629 / 19 = y
      exact ⟨ds ++ [y % x], by simp, by omega, r, s', by omega, by omega, h2.snoc hx (Int.emod_nonneg _ (by omega)) (Int.emod_lt_of_pos _ (by omega)), by simp, rfl, rfl⟩
    · rintro e ⟨ds, r, s, o, o', h0, h1, s0, s1, h2, rfl⟩
      simp
      exact ⟨ds, rfl, by simpa [rngD] using h0, h2⟩
/-! streets -/
def trL (t : Tr) : D := .lst [.int t.1, .int t.2.1, .int t.2.2]
def trT (t : Tr) : D := .tup [.int t.1, .int t.2.1, .int t.2.2]
def bitI (lot k : Int) : Int := lot / 2 ^ k.toNat % 2
/-- the streets' places lie in 0..60 -/
def Pl (S : List Tr) : Prop := ∀ t ∈ S, 0 ≤ t.1 ∧ t.1 ≤ 60 ∧ 0 ≤ t.2.1 ∧ t.2.1 ≤ 60
def lvF (lot : Int) (t : Tr) : Option Int := if bitI lot t.1 = 1 ∧ bitI lot t.2.1 = 0 then some t.2.2 else none
def cmF (lot : Int) (t : Tr) : Option Int := if bitI lot t.1 = 0 ∧ bitI lot t.2.1 = 1 then some t.2.2 else none
def lv (S : List Tr) (lot : Int) : Int := (S.filterMap (lvF lot)).sum
def cm (S : List Tr) (lot : Int) : Int := (S.filterMap (cmF lot)).sum
def outS (S : List Tr) (p : Int) : Int := (S.filterMap fun t => if t.1 = p then some t.2.2 else none).sum
def inS (S : List Tr) (p : Int) : Int := (S.filterMap fun t => if t.2.1 = p then some t.2.2 else none).sum
theorem e_bit (lot k : Int) (h0 : 0 ≤ k) (h1 : k ≤ 60) : m_law_bit [.int lot, .int k] = .ok (.int (bitI lot k)) := by
  refine R.post_eq (fnM_post rfl ?_)
  simp [b_law_bit, bitI]
  refine ⟨cpow1 h0 (by omega), ⟨Int.pow_pos (by decide), ?_⟩⟩
  have : ((2 : Int) ^ k.toNat).natAbs = 2 ^ k.toNat := by rw [Int.natAbs_pow]; rfl
  rw [this, Nat.log2_two_pow]; omega
theorem e_leaving (S : List Tr) (hS : Pl S) (hl : S.length ≤ 100000) (lot : Int) : m_law_leaving [.lst (S.map trL), .int lot] = .ok (.int (lv S lot)) := by
  refine R.post_eq (fnM_post rfl ?_)
  simp [b_law_leaving]
  refine post_lcM (lvF lot) D.int S trL (seq_of (by simp)) rfl (by omega) (fun t ht => ⟨_, rfl, ?_⟩) (by simp [lv])
  obtain ⟨h1, h2, h3, h4⟩ := hS t ht
  simp [wipeE, trL, e_bit _ _ h1 h2, e_bit _ _ h3 h4, lvF]
  by_cases c1 : bitI lot t.1 = 1 <;> by_cases c2 : bitI lot t.2.1 = 0 <;> simp [c1, c2]
theorem e_coming (S : List Tr) (hS : Pl S) (hl : S.length ≤ 100000) (lot : Int) : m_law_coming [.lst (S.map trL), .int lot] = .ok (.int (cm S lot)) := by
  refine R.post_eq (fnM_post rfl ?_)
  simp [b_law_coming]
  refine post_lcM (cmF lot) D.int S trL (seq_of (by simp)) rfl (by omega) (fun t ht => ⟨_, rfl, ?_⟩) (by simp [cm])
  obtain ⟨h1, h2, h3, h4⟩ := hS t ht
  simp [wipeE, trL, e_bit _ _ h1 h2, e_bit _ _ h3 h4, cmF]
  by_cases c1 : bitI lot t.1 = 0 <;> by_cases c2 : bitI lot t.2.1 = 1 <;> simp [c1, c2]
theorem e_out (S : List Tr) (hl : S.length ≤ 100000) (p : Int) : m_law_out [.lst (S.map trL), .int p] = .ok (.int (outS S p)) := by
  refine R.post_eq (fnM_post rfl ?_)
  simp [b_law_out]
  refine post_lcM (fun t => if t.1 = p then some t.2.2 else none) D.int S trL (seq_of (by simp)) rfl (by omega) (fun t ht => ⟨_, rfl, ?_⟩) (by simp [outS])
  simp [wipeE, trL]
  try (by_cases c1 : t.1 = p <;> simp [c1])
theorem e_in (S : List Tr) (hl : S.length ≤ 100000) (p : Int) : m_law_in [.lst (S.map trL), .int p] = .ok (.int (inS S p)) := by
  refine R.post_eq (fnM_post rfl ?_)
  simp [b_law_in]
  refine post_lcM (fun t => if t.2.1 = p then some t.2.2 else none) D.int S trL (seq_of (by simp)) rfl (by omega) (fun t ht => ⟨_, rfl, ?_⟩) (by simp [inS])
  simp [wipeE, trL]
  try (by_cases c1 : t.2.1 = p <;> simp [c1])
def rawD (g n : Nat) (S : List Tr) : D := .lst [.int g, .int n, .lst (S.map trL)]
def lots (g m : Nat) (lot : Int) : List Int := (List.range (2 ^ m)).map fun (p : Nat) => lot + (p : Int) * 2 ^ g
theorem e_outs (g m : Nat) (hg : g ≤ 10) (hm : m ≤ 10) (S : List Tr) (hS : Pl S) (hl : S.length ≤ 100000) (lot : Int) : m_law_outs [rawD g (g + m) S, .int lot] = .ok (.lst (((lots g m lot).map (lv S)).map D.int)) := by
  refine R.post_eq (fnM_post rfl ?_)
  have e1 : (g : Int) + (m : Int) - (g : Int) = (m : Int) := by omega
  have hp : 2 ^ m ≤ 2 ^ 10 := Nat.pow_le_pow_right (by decide) hm
  simp [b_law_outs]
  refine post_lcM (fun (p : Nat) => some (lv S (lot + (p : Int) * 2 ^ g))) D.int (List.range (2 ^ m)) (fun (p : Nat) => D.int (p : Int)) (rng_len (n := 2 ^ m) ?_ (by omega)) (by simp [rngD]) (by simp; omega) (fun p hp => ⟨_, rfl, ?_⟩) ?_
  · simp [rawD, e1]
    exact cpow1 (by omega) (by omega)
  · simp [wipeE, rawD, e_leaving S hS hl]
    have := List.mem_range.mp hp
    exact ⟨by omega, by omega, by omega⟩
  · simp [lots]
theorem e_ins (g m : Nat) (hg : g ≤ 10) (hm : m ≤ 10) (S : List Tr) (hS : Pl S) (hl : S.length ≤ 100000) (lot : Int) : m_law_ins [rawD g (g + m) S, .int lot] = .ok (.lst (((lots g m lot).map (cm S)).map D.int)) := by
  refine R.post_eq (fnM_post rfl ?_)
  have e1 : (g : Int) + (m : Int) - (g : Int) = (m : Int) := by omega
  have hp : 2 ^ m ≤ 2 ^ 10 := Nat.pow_le_pow_right (by decide) hm
  simp [b_law_ins]
  refine post_lcM (fun (p : Nat) => some (cm S (lot + (p : Int) * 2 ^ g))) D.int (List.range (2 ^ m)) (fun (p : Nat) => D.int (p : Int)) (rng_len (n := 2 ^ m) ?_ (by omega)) (by simp [rngD]) (by simp; omega) (fun p hp => ⟨_, rfl, ?_⟩) ?_
  · simp [rawD, e1]
    exact cpow1 (by omega) (by omega)
  · simp [wipeE, rawD, e_coming S hS hl]
    have := List.mem_range.mp hp
    exact ⟨by omega, by omega, by omega⟩
  · simp [lots]
/-! the net -/
def netD (g : Nat) (ga inn nm : List D) (S : List Tr) : D := .obj "OneWayNet" [("many", .int g), ("gates", .tup ga), ("inner", .tup inn), ("names", .tup nm), ("streets", .tup (S.map trT))]
section
variable (g : Nat) (ga inn nm : List D) (S : List Tr)
@[simp] theorem f_many : dFld cs_many "many" (netD g ga inn nm S) = .ok (.int g) := rfl
@[simp] theorem f_names : dFld cs_names "names" (netD g ga inn nm S) = .ok (.tup nm) := rfl
@[simp] theorem f_streets : dFld cs_streets "streets" (netD g ga inn nm S) = .ok (.tup (S.map trT)) := rfl
theorem e_len : m_OneWayNet_len [netD g ga inn nm S] = .ok (.int nm.length) := by
  refine R.post_eq (fnM_post rfl ?_)
  simp [b_OneWayNet_len]
theorem bitI_01 (lot k : Int) : bitI lot k = 0 ∨ bitI lot k = 1 := by
  unfold bitI
  have := Int.emod_nonneg (lot / 2 ^ k.toNat) (by decide : (2 : Int) ≠ 0)
  have := Int.emod_lt_of_pos (lot / 2 ^ k.toNat) (by decide : (0 : Int) < 2)
  omega
theorem bitAnd_one {x : Int} (h : 0 ≤ x) : Builtin.bitAnd x 1 = x % 2 := by
  obtain ⟨n, rfl⟩ := Int.eq_ofNat_of_zero_le h
  unfold Builtin.bitAnd
  simp
  try rfl
theorem e_has (lot k : Int) (h : 0 ≤ lot) (h0 : 0 ≤ k) : m_has [.int lot, .int k] = .ok (.bl (decide (bitI lot k = 1))) := by
  refine R.post_eq (fnM_post rfl ?_)
  simp [b_has, h0]
  rw [bitAnd_one (Int.ediv_nonneg h (Int.pow_nonneg (by decide)))]
  exact Iff.rfl
theorem e_lanes_leaving (hS : Pl S) (hl : S.length ≤ 100000) (lot : Int) (h : 0 ≤ lot) : m_lanes_leaving [netD g ga inn nm S, .int lot] = .ok (.int (lv S lot)) := by
  refine R.post_eq (fnM_post rfl ?_)
  simp [b_lanes_leaving]
  refine post_lcM (lvF lot) D.int S trT (seq_of (by simp)) rfl (by omega) (fun t ht => ⟨_, rfl, ?_⟩) (by simp [lv])
  obtain ⟨h1, h2, h3, h4⟩ := hS t ht
  simp [wipeE, trT, setAll, e_has _ _ h h1, e_has _ _ h h3, lvF]
  rcases bitI_01 lot t.1 with c1 | c1 <;> rcases bitI_01 lot t.2.1 with c2 | c2 <;> simp [c1, c2]
theorem e_lanes_coming (hS : Pl S) (hl : S.length ≤ 100000) (lot : Int) (h : 0 ≤ lot) : m_lanes_coming [netD g ga inn nm S, .int lot] = .ok (.int (cm S lot)) := by
  refine R.post_eq (fnM_post rfl ?_)
  simp [b_lanes_coming]
  refine post_lcM (cmF lot) D.int S trT (seq_of (by simp)) rfl (by omega) (fun t ht => ⟨_, rfl, ?_⟩) (by simp [cm])
  obtain ⟨h1, h2, h3, h4⟩ := hS t ht
  simp [wipeE, trT, setAll, e_has _ _ h h1, e_has _ _ h h3, cmF]
  rcases bitI_01 lot t.1 with c1 | c1 <;> rcases bitI_01 lot t.2.1 with c2 | c2 <;> simp [c1, c2]
theorem e_whole_i (i : Int) : m_is_whole [.int i] = .ok (.bl true) := rfl
theorem e_is_lot_i (i : Int) : m_is_lot [.int i] = .ok (.bl (decide (0 ≤ i))) := by
  refine R.post_eq (fnM_post rfl ?_)
  simp [b_is_lot, e_whole_i]
theorem e_gate_lot (hg : g ≤ 100) : m_gate_lot [netD g ga inn nm S] = .ok (.int (2 ^ g - 1)) := by
  refine R.post_eq (fnM_post rfl ?_)
  simp [b_gate_lot]
  exact cpow1 (by omega) (by omega)
/-- lots of the inner places, as the program walks them -/
def chk : R (List D) → List Int → Bool
  | .ok ds, l => decide (asInts ds = some l)
  | _, _ => false
theorem chk_ok {r : R (List D)} {l : List Int} (h : chk r l = true) : r = .ok (l.map D.int) := by
  cases r with
  | ok ds => rw [asInts_eq (of_decide_eq_true h)]
  | exc c fs => cases h
  | bad => cases h
def chkAll : Bool := [2, 3, 4, 5, 6].all fun g => (List.range 6).all fun m => chk (g_sub_lots [.int (2 ^ (g + m) - 2 ^ g)]) ((List.range (2 ^ m)).map fun (p : Nat) => (p : Int) * 2 ^ g)
theorem chkAll_ok : chkAll = true := by decide +kernel
theorem e_sub_lots (hg : 2 ≤ g) (hg' : g ≤ 6) (m : Nat) (hm : m ≤ 5) : g_sub_lots [.int (2 ^ (g + m) - 2 ^ g)] = .ok (((List.range (2 ^ m)).map fun (p : Nat) => (p : Int) * 2 ^ g).map D.int) := by
  have h := chkAll_ok
  unfold chkAll at h
  rw [List.all_eq_true] at h
  have h1 := h g (by simp; omega)
  rw [List.all_eq_true] at h1
  exact chk_ok (h1 m (by simp; omega))
theorem e_check_places (hn : nm.length ≤ 100) (lot : Int) (h : 0 ≤ lot) (h2 : lot < 2 ^ nm.length) : m_check_places [netD g ga inn nm S, .int lot] = .ok .non := by
  refine R.post_eq (fnM_post rfl ?_)
  have q : lot / 2 ^ nm.length = 0 := Int.ediv_eq_zero_of_lt h h2
  have z : ∀ env : Env, eVar 0 env = .ok (netD g ga inn nm S) → eLenO "OneWayNet" m_OneWayNet_len (eVar 0) env = .ok (.int nm.length) := fun env he => lenO_of he (e_len g ga inn nm S) (by omega)
  have z2 := z [some (netD g ga inn nm S), some (.int lot)] rfl
  simp [b_check_places, e_is_lot_i, h, z2, q]
theorem e_check_proper (hg : g ≤ 100) (lot : Int) (h : 0 < lot) (h2 : lot < 2 ^ g - 1) : m_check_proper [netD g ga inn nm S, .int lot] = .ok .non := by
  refine R.post_eq (fnM_post rfl ?_)
  simp [b_check_proper, e_is_lot_i, e_gate_lot g ga inn nm S hg, h, h2, Int.le_of_lt h]
theorem e_inner_lot (hg : g ≤ 100) (hn : nm.length ≤ 100) : m_inner_lot [netD g ga inn nm S] = .ok (.int (2 ^ nm.length - 2 ^ g)) := by
  refine R.post_eq (fnM_post rfl ?_)
  have z2 := lenO_of (a := eVar 0) (env := [some (netD g ga inn nm S)]) rfl (e_len g ga inn nm S) (by omega)
  simp [b_inner_lot, z2]
  exact ⟨cpow1 (by omega) (by omega), cpow1 (by omega) (by omega)⟩
theorem e_leaving' (hS : Pl S) (hl : S.length ≤ 100000) (hn : nm.length ≤ 100) (lot : Int) (h : 0 ≤ lot) (h2 : lot < 2 ^ nm.length) : m_leaving [netD g ga inn nm S, .int lot] = .ok (.int (lv S lot)) := by
  refine R.post_eq (fnM_post rfl ?_)
  simp [b_leaving, e_check_places g ga inn nm S hn lot h h2, e_lanes_leaving g ga inn nm S hS hl lot h]
theorem e_coming' (hS : Pl S) (hl : S.length ≤ 100000) (hn : nm.length ≤ 100) (lot : Int) (h : 0 ≤ lot) (h2 : lot < 2 ^ nm.length) : m_coming [netD g ga inn nm S, .int lot] = .ok (.int (cm S lot)) := by
  refine R.post_eq (fnM_post rfl ?_)
  simp [b_coming, e_check_places g ga inn nm S hn lot h h2, e_lanes_coming g ga inn nm S hS hl lot h]
theorem bitOr_nat (a b : Nat) : Builtin.bitOr (a : Int) (b : Int) = ((a ||| b : Nat) : Int) := by
  have n1 : Builtin.bitNot (Builtin.bitNot (a : Int)) = (a : Int) := by unfold Builtin.bitNot; omega
  have n2 : Builtin.bitNot (Builtin.bitNot (b : Int)) = (b : Int) := by unfold Builtin.bitNot; omega
  have l1 : decide (0 ≤ Builtin.bitNot (a : Int)) = false := decide_eq_false (by unfold Builtin.bitNot; omega)
  have l2 : decide (0 ≤ Builtin.bitNot (b : Int)) = false := decide_eq_false (by unfold Builtin.bitNot; omega)
  unfold Builtin.bitOr Builtin.bitAnd
  rw [l1, l2]
  simp only [n1, n2, Int.toNat_natCast]
  unfold Builtin.bitNot; omega
theorem bitOr_add {g : Nat} {lot : Int} (h : 0 ≤ lot) (h2 : lot < 2 ^ g) (p : Nat) : Builtin.bitOr lot ((p : Int) * 2 ^ g) = lot + (p : Int) * 2 ^ g := by
  obtain ⟨n, rfl⟩ := Int.eq_ofNat_of_zero_le h
  have hn : n < 2 ^ g := by exact_mod_cast h2
  have e : ((p : Int) * 2 ^ g) = ((2 ^ g * p : Nat) : Int) := by simp [Int.mul_comm]
  rw [e, bitOr_nat, Nat.or_comm, ← Nat.two_pow_add_eq_or_of_lt hn]
  omega
theorem e_subs (m : Nat) (hg : 2 ≤ g) (hg' : g ≤ 6) (hm : m ≤ 5) (hn : nm.length = g + m) {env : Env} (h0 : eVar 0 env = .ok (netD g ga inn nm S)) : iSeq (eListG g_sub_lots (aCons (eCall m_inner_lot (aCons (eVar 0) aNil)) aNil)) env = .ok ((List.range (2 ^ m)).map fun (p : Nat) => D.int ((p : Int) * 2 ^ g)) := by
  have hi := e_inner_lot g ga inn nm S (by omega) (by omega)
  rw [hn] at hi
  have h1 : aCons (eCall m_inner_lot (aCons (eVar 0) aNil)) aNil env = .ok [.int (2 ^ (g + m) - 2 ^ g)] := by
    have e : aCons (eCall m_inner_lot (aCons (eVar 0) aNil)) aNil env = (((eVar 0 env).bind fun x => .ok [x]).bind m_inner_lot).bind fun x => .ok [x] := rfl
    rw [e, h0, R.bind_ok, R.bind_ok, hi, R.bind_ok]
  have h2 := listG_of h1 (e_sub_lots g hg hg' m hm)
  have e : iSeq (eListG g_sub_lots (aCons (eCall m_inner_lot (aCons (eVar 0) aNil)) aNil)) env = (eListG g_sub_lots (aCons (eCall m_inner_lot (aCons (eVar 0) aNil)) aNil) env).bind fun d => R.of (itD d) := rfl
  rw [e, h2, R.bind_ok, List.map_map]
  rfl
theorem e_least_outward (m : Nat) (hg : 2 ≤ g) (hg' : g ≤ 6) (hm : m ≤ 5) (hn : nm.length = g + m) (hS : Pl S) (hl : S.length ≤ 100000) (lot : Int) (h : 0 ≤ lot) (h2 : lot < 2 ^ g) (x : Int) (hx : ((lots g m lot).map (lv S)).min? = some x) : m_least_outward [netD g ga inn nm S, .int lot] = .ok (.int x) := by
  refine R.post_eq (fnM_post rfl ?_)
  have hp : 2 ^ m ≤ 2 ^ 5 := Nat.pow_le_pow_right (by decide) hm
  simp only [b_least_outward, post_seq, post_ret, post_e1]
  refine post_lcM (fun (p : Nat) => some (lv S (lot + (p : Int) * 2 ^ g))) D.int (List.range (2 ^ m)) (fun (p : Nat) => D.int ((p : Int) * 2 ^ g)) (e_subs g ga inn nm S m hg hg' hm hn rfl) rfl (by simp; omega) (fun p hp => ⟨_, rfl, ?_⟩) ?_
  · have := List.mem_range.mp hp
    simp [wipeE, bitOr_add h h2]
    rw [e_lanes_leaving g ga inn nm S hS hl _ (Int.add_nonneg h (Int.mul_nonneg (by omega) (Int.pow_nonneg (by decide))))]
    simp
  · rw [dMin_l]
    have e : ((List.range (2 ^ m)).filterMap fun (p : Nat) => some (lv S (lot + (p : Int) * 2 ^ g))) = (lots g m lot).map (lv S) := by simp [lots]
    rw [e, hx]
    simp
theorem e_outward (m : Nat) (hg : 2 ≤ g) (hg' : g ≤ 6) (hm : m ≤ 5) (hn : nm.length = g + m) (hS : Pl S) (hl : S.length ≤ 100000) (lot : Int) (h : 0 < lot) (h2 : lot < 2 ^ g - 1) (x : Int) (hx : ((lots g m lot).map (lv S)).min? = some x) : m_outward [netD g ga inn nm S, .int lot] = .ok (.int x) := by
  refine R.post_eq (fnM_post rfl ?_)
  simp [b_outward, e_check_proper g ga inn nm S (by omega) lot h h2, e_least_outward g ga inn nm S m hg hg' hm hn hS hl lot (by omega) (by omega) x hx]
theorem e_inward (m : Nat) (hg : 2 ≤ g) (hg' : g ≤ 6) (hm : m ≤ 5) (hn : nm.length = g + m) (hS : Pl S) (hl : S.length ≤ 100000) (lot : Int) (h : 0 < lot) (h2 : lot < 2 ^ g - 1) (x : Int) (hx : ((lots g m lot).map (cm S)).min? = some x) : m_inward [netD g ga inn nm S, .int lot] = .ok (.int x) := by
  refine R.post_eq (fnM_post rfl ?_)
  have hp : 2 ^ m ≤ 2 ^ 5 := Nat.pow_le_pow_right (by decide) hm
  simp [b_inward, e_check_proper g ga inn nm S (by omega) lot h h2]
  refine post_lcM (fun (p : Nat) => some (cm S (lot + (p : Int) * 2 ^ g))) D.int (List.range (2 ^ m)) (fun (p : Nat) => D.int ((p : Int) * 2 ^ g)) (e_subs g ga inn nm S m hg hg' hm hn rfl) rfl (by simp; omega) (fun p hp => ⟨_, rfl, ?_⟩) ?_
  · have := List.mem_range.mp hp
    have h3 : lot < 2 ^ g := by omega
    simp [wipeE, bitOr_add (Int.le_of_lt h) h3]
    rw [e_lanes_coming g ga inn nm S hS hl _ (Int.add_nonneg (Int.le_of_lt h) (Int.mul_nonneg (by omega) (Int.pow_nonneg (by decide))))]
    simp
  · rw [dMin_l]
    have e : ((List.range (2 ^ m)).filterMap fun (p : Nat) => some (cm S (lot + (p : Int) * 2 ^ g))) = (lots g m lot).map (cm S) := by simp [lots]
    rw [e, hx]
    simp
end
end MD

namespace MD
open PySem L2
theorem e_seq3 (xs : List D) : m_is_sequence [.lst xs] = .ok (.bl true) := rfl
theorem e_whole3 (a b c : Int) : m_are_whole [.lst [.int a, .int b, .int c]] = .ok (.bl true) := rfl
theorem e_street (t : Tr) (n : Int) (h : 0 ≤ t.1 ∧ t.1 < n ∧ 0 ≤ t.2.1 ∧ t.2.1 < n ∧ t.1 ≠ t.2.1 ∧ 1 ≤ t.2.2) : m_is_street [trL t, .int n] = .ok (.bl true) := by
  obtain ⟨h1, h2, h3, h4, h5, h6⟩ := h
  refine R.post_eq (fnM_post rfl ?_)
  simp [b_is_street, trL, e_seq3, e_whole3, gmTup, setAll, h1, h2, h3, h4, h5, h6]
/-- all of it can be a street of n places -/
def Vs (n : Int) (S : List Tr) : Prop := ∀ t ∈ S, 0 ≤ t.1 ∧ t.1 < n ∧ 0 ≤ t.2.1 ∧ t.2.1 < n ∧ t.1 ≠ t.2.1 ∧ 1 ≤ t.2.2
theorem e_merged (S : List Tr) (n : Nat) (hS : Vs n S) (hl : S.length ≤ 100000) : (m_merged_one_way [.lst (S.map trL), .int n]).post fun d => ∃ M : List Tr, d = .tup (M.map trT) ∧ M.length ≤ S.length ∧ (∀ t ∈ M, ∃ e ∈ S, e.1 = t.1 ∧ e.2.1 = t.2.1) ∧ ∀ c, ws c M = ws c S := by
  refine fnM_post rfl ?_
  simp [b_merged_one_way]
  refine post_for (fun i e => ∃ (A : AL) (o3 o4 o5 o6 : Option D), Nd A ∧ A.length ≤ i ∧ (∀ p ∈ A, ∃ e ∈ S, e.1 = p.1.1 ∧ e.2.1 = p.1.2) ∧ (∀ c, ws c (A.map trA) = ws c (S.take i)) ∧ e = [some (.lst (S.map trL)), some (.int n), some (.dct (esA A)), o3, o4, o5, o6, none]) (ds := rngD 0 S.length) (rng_len (by simp) (by omega)) ⟨[], none, none, none, none, by simp [Nd], by simp, by simp, by simp [ws], rfl⟩ ?_ ?_
  · rintro i d e hd ⟨A, o3, o4, o5, o6, nd, hA, hK, hw, rfl⟩
    obtain ⟨hi, rfl⟩ := rngD_at hd
    have hx : S[i]? = some (S[i]'hi) := List.getElem?_eq_getElem hi
    generalize hq : S[i]'hi = t at hx
    have ht : t ∈ S := List.mem_of_getElem? hx
    have hs := e_street t n (hS t ht)
    refine ⟨_, rfl, ?_⟩
    have hq2 : seqOf (trL t) = some [.int t.1, .int t.2.1, .int t.2.2] := rfl
    simp [lb_merged_one_way_107, post_put, post_get, hx, hs, hq2, gmTup, setAll, dAt_esA, putD_esA, esA_len]
    refine ⟨_, ⟨by rw [size24]; omega, rfl⟩, putA A (t.1, t.2.1) ((getA A (t.1, t.2.1)).getD 0 + t.2.2), putA_nd nd _ _, ?_, ?_, ?_, rfl⟩
    · have := putA_len A (t.1, t.2.1) ((getA A (t.1, t.2.1)).getD 0 + t.2.2)
      omega
    · intro a b v hp
      rcases putA_mem hp with ⟨q, hq, e⟩ | e
      · obtain ⟨u, hu, e1, e2⟩ := hK q hq
        have : q.1 = (a, b) := e
        rw [this] at e1 e2
        exact ⟨u.2.2, by have : u = (a, b, u.2.2) := by obtain ⟨u1, u2, u3⟩ := u; simp at e1 e2; simp [e1, e2]
                         rw [← this]; exact hu⟩
      · have e : (a, b) = (t.1, t.2.1) := e
        cases e
        exact ⟨t.2.2, ht⟩
    · intro c
      have e : S.take (i + 1) = S.take i ++ [t] := by rw [List.take_succ, hx]; rfl
      rw [ws_A, wA_put _ _ _ nd, e, ws_append, ← hw c, ws_A]
      by_cases q : c t.1 t.2.1 = true <;> simp [ws, q]
  · rintro e ⟨A, o3, o4, o5, o6, nd, hA, hK, hw, rfl⟩
    have hlen : (rngD 0 S.length).length = S.length := rngD_len _ _
    rw [hlen] at hA hw
    refine post_lcM (fun k => some (trK A k)) trT ((A.map (·.1)).mergeSort leP) pD (sorted_esA rfl) rfl (by simp; omega) (fun k hk => ⟨_, rfl, ?_⟩) ?_
    · obtain ⟨v, hv⟩ := key_in hk
      simp [wipeE, hv, trK, trT]
    · have e : (((A.map (·.1)).mergeSort leP).filterMap fun k => some (trK A k)) = ((A.map (·.1)).mergeSort leP).map (trK A) := by simp
      rw [e, dTup_l, R.post_ok]
      refine ⟨((A.map (·.1)).mergeSort leP).map (trK A), rfl, by simp; omega, fun a b v ht => ?_, fun c => ?_⟩
      · obtain ⟨p, hp, e⟩ := List.mem_map.mp ((keys_perm nd).mem_iff.mp ht)
        obtain ⟨u, hu, e1, e2⟩ := hK p hp
        cases e
        exact ⟨u.2.2, by have : u = (p.1.1, p.1.2, u.2.2) := by obtain ⟨u1, u2, u3⟩ := u; simp at e1 e2; simp [e1, e2]
                         rw [← this]; exact hu⟩
      · rw [ws_perm (keys_perm nd), hw c, List.take_length]
/-- raw streets: merged, those of no lanes left out -/
theorem e_ways (S : List Tr) (hl : S.length ≤ 100000) (hS : ∀ t ∈ S, 0 ≤ t.2.2) : (m_law_ways_one [.lst (S.map trL)]).post fun d => ∃ M : List Tr, d = .lst (M.map trL) ∧ M.length ≤ S.length ∧ ∀ t ∈ M, 0 < t.2.2 ∧ t.2.2 ≤ tot S ∧ ∃ e ∈ S, e.1 = t.1 ∧ e.2.1 = t.2.1 := by
  refine fnM_post rfl ?_
  simp [b_law_ways_one]
  refine post_for (fun i e => ∃ (A : AL) (o2 : Option D), Nd A ∧ A.length ≤ i ∧ (∀ p ∈ A, 0 ≤ p.2) ∧ (∀ p ∈ A, ∃ e ∈ S, e.1 = p.1.1 ∧ e.2.1 = p.1.2) ∧ (∀ c, ws c (A.map trA) = ws c (S.take i)) ∧ e = [some (.lst (S.map trL)), some (.dct (esA A)), o2, none]) (ds := S.map trL) (seq_of (by simp)) ⟨[], none, by simp [Nd], by simp, by simp, by simp, by simp [ws], rfl⟩ ?_ ?_
  · rintro i d e hd ⟨A, o2, nd, hA, hP, hK, hw, rfl⟩
    rw [List.getElem?_map] at hd
    cases hx : S[i]? with
    | none => rw [hx] at hd; cases hd
    | some t =>
      rw [hx] at hd; cases hd
      have ht : t ∈ S := List.mem_of_getElem? hx
      have hi := (List.getElem?_eq_some_iff.mp hx).1
      refine ⟨_, rfl, ?_⟩
      simp [lb_law_ways_one_180, post_put, post_get, trL, dAt_esA, putD_esA, esA_len]
      refine ⟨_, ⟨by rw [size24]; omega, rfl⟩, putA A (t.1, t.2.1) ((getA A (t.1, t.2.1)).getD 0 + t.2.2), putA_nd nd _ _, ?_, ?_, ?_, ?_, rfl⟩
      · have := putA_len A (t.1, t.2.1) ((getA A (t.1, t.2.1)).getD 0 + t.2.2)
        omega
      · intro a b v hp
        rcases putA_mem2 hp with q | q
        · exact hP _ q
        · have := getA_nn hP (t.1, t.2.1)
          have := hS t ht
          cases q; omega
      · intro a b v hp
        rcases putA_mem hp with ⟨q, hq, e⟩ | e
        · obtain ⟨u, hu, e1, e2⟩ := hK q hq
          have : q.1 = (a, b) := e
          rw [this] at e1 e2
          exact ⟨u.2.2, by have : u = (a, b, u.2.2) := by obtain ⟨u1, u2, u3⟩ := u; simp at e1 e2; simp [e1, e2]
                           rw [← this]; exact hu⟩
        · have e : (a, b) = (t.1, t.2.1) := e
          cases e
          exact ⟨t.2.2, ht⟩
      · intro c
        have e : S.take (i + 1) = S.take i ++ [t] := by rw [List.take_succ, hx]; rfl
        rw [ws_A, wA_put _ _ _ nd, e, ws_append, ← hw c, ws_A]
        by_cases q : c t.1 t.2.1 = true <;> simp [ws, q]
  · rintro e ⟨A, o2, nd, hA, hP, hK, hw, rfl⟩
    rw [List.length_map] at hA hw
    refine post_lcM (fun k => if 0 < (trK A k).2.2 then some (trK A k) else none) trL ((A.map (·.1)).mergeSort leP) pD (sorted_esA rfl) rfl (by simp; omega) (fun k hk => ⟨_, rfl, ?_⟩) ?_
    · obtain ⟨v, hv⟩ := key_in hk
      simp [wipeE, hv, trK, trL]
      try (by_cases q : 0 < v <;> simp [q])
    · refine ⟨_, rfl, ?_, ?_⟩
      · refine Nat.le_trans (List.length_filterMap_le _ _) ?_
        simp; omega
      · intro a b v hv
        obtain ⟨k, hk, e⟩ := List.mem_filterMap.mp hv
        obtain ⟨u, hu⟩ := key_in hk
        have hm := getA_some hu
        split at e
        · rename_i q
          have e2 : trK A k = (a, b, v) := by simpa using e
          have e3 : (k.1, k.2, u) = (a, b, v) := by rw [← e2]; simp [trK, hu]
          simp only [Prod.mk.injEq] at e3
          obtain ⟨e4, e5, e6⟩ := e3
          subst e4 e5 e6
          have h1 : u ≤ ws (fun _ _ => true) (A.map trA) := by
            rw [ws_true]
            unfold tot
            refine le_sum (fun x hx => ?_) ?_
            · rw [List.map_map] at hx
              obtain ⟨p, hp, rfl⟩ := List.mem_map.mp hx
              exact hP p hp
            · rw [List.map_map]
              exact List.mem_map.mpr ⟨(k, u), hm, rfl⟩
          rw [hw, List.take_length, ws_true] at h1
          obtain ⟨w, hw1, hw2, hw3⟩ := hK _ hm
          refine ⟨?_, h1, w.2.2, ?_⟩
          · simpa [trK, hu] using q
          · have : w = (k.1, k.2, w.2.2) := by obtain ⟨u1, u2, u3⟩ := w; simp at hw2 hw3; simp [hw2, hw3]
            rw [← this]; exact hw1
        · cases e
end MD

namespace MD
open PySem L2
theorem rep1 (x : Int) : ∀ k : Nat, (List.replicate k [D.int x]).flatten = (List.replicate k x).map D.int
  | 0 => rfl
  | k + 1 => by rw [List.replicate_succ, List.flatten_cons, rep1 x k, List.replicate_succ]; rfl
theorem sum_rep (x : Int) : ∀ k : Nat, (List.replicate k x).sum = (k : Int) * x
  | 0 => by simp
  | k + 1 => by rw [List.replicate_succ, List.sum_cons, sum_rep x k]; simp [Int.add_mul]; omega
structure Good (l : Int) (ps : List Int) : Prop where
  ge : ∀ x ∈ ps, 1 ≤ x
  sm : ps.sum = l
  n1 : 1 ≤ ps.length
  n2 : ps.length ≤ 1602
structure Pcs (S P : List Tr) : Prop where
  ok : ∀ t ∈ P, 1 ≤ t.2.2 ∧ ∃ s ∈ S, s.1 = t.1 ∧ s.2.1 = t.2.1
  sm : ∀ c, ws c P = ws c S
theorem ws_pieces (c : Int → Int → Bool) (t : Tr) : ∀ ps : List Int, ws c (ps.map fun x => (t.1, t.2.1, x)) = if c t.1 t.2.1 = true then ps.sum else 0
  | [] => by simp [ws]
  | x :: ps => by
    have ih := ws_pieces c t ps
    unfold ws at ih ⊢
    rw [List.map_cons, List.map_cons, List.sum_cons, ih, List.sum_cons]
    by_cases h : c t.1 t.2.1 = true <;> simp [h]
theorem Pcs.add {S P : List Tr} {t : Tr} {ps : List Int} (h : Pcs S P) (g : Good t.2.2 ps) : Pcs (S ++ [t]) (P ++ ps.map fun x => (t.1, t.2.1, x)) := by
  refine ⟨fun u hu => ?_, fun c => ?_⟩
  · rcases List.mem_append.mp hu with q | q
    · obtain ⟨h1, s, h2, h3⟩ := h.ok u q
      exact ⟨h1, s, List.mem_append_left _ h2, h3⟩
    · obtain ⟨x, hx, rfl⟩ := List.mem_map.mp q
      exact ⟨g.ge x hx, t, List.mem_append_right _ (by simp), rfl, rfl⟩
  · rw [ws_append, ws_append, h.sm c, ws_pieces, g.sm]
    by_cases q : c t.1 t.2.1 = true <;> simp [ws, q]
theorem crep1 {k : Int} (h : 0 ≤ k) (h2 : k ≤ 100000) : CRep 1 k := ⟨by omega, by omega, by rw [size24]; omega⟩
theorem ceil_good {l : Int} {K : Nat} (hK : l / 1000 = (K : Int)) (h1 : 1 ≤ l) (h2 : l ≤ 1500000) : if 1000 * (K : Int) < l then Good l (List.replicate K 1000 ++ [l - 1000 * (K : Int)]) ∧ (List.replicate K (1000 : Int) ++ [l - 1000 * (K : Int)]).length ≤ 1501 else Good l (List.replicate K 1000) ∧ (List.replicate K (1000 : Int)).length ≤ 1501 := by
  split
  · refine ⟨⟨fun x hx => ?_, ?_, by simp, by simp; omega⟩, by simp; omega⟩
    · rcases List.mem_append.mp hx with q | q
      · rw [(List.mem_replicate.mp q).2]; decide
      · simp at q; omega
    · rw [List.sum_append, sum_rep]; simp; omega
  · refine ⟨⟨fun x hx => ?_, ?_, by simp; omega, by simp; omega⟩, by simp; omega⟩
    · rw [(List.mem_replicate.mp hx).2]; decide
    · rw [sum_rep]; omega
theorem cut1 (d : D) (ds : List D) : cutD (d :: ds) (some 1) none = ds := by
  unfold cutD
  have h1 : HT.sIx (d :: ds).length 0 (some 1) = 1 := by
    show (if (1 : Int) < 0 then ((1 : Int) + ((d :: ds).length : Int)).toNat else min (1 : Int).toNat (d :: ds).length) = 1
    rw [if_neg (by decide)]
    simp
  have h2 : HT.sIx (d :: ds).length (d :: ds).length none = (d :: ds).length := rfl
  rw [h1, h2]
  simp
theorem post_cut3 {a b c rest : SM} {env : Env} {N : Env → Prop} {T : D → Prop} (Mid : Env → Prop) (h : (a env).post (fun e1 => (b e1).post (fun e2 => (c e2).post Mid T) T) T) (k : ∀ e, Mid e → (rest e).post N T) : (sSeq a (sSeq b (sSeq c rest)) env).post N T := by
  simp only [post_seq]
  exact RS.post_mono h (fun e1 h1 => RS.post_mono h1 (fun e2 h2 => RS.post_mono h2 k fun _ z => z) fun _ z => z) fun _ z => z
theorem post_cut1 {a rest : SM} {env : Env} {N : Env → Prop} {T : D → Prop} (Mid : Env → Prop) (h : (a env).post Mid T) (k : ∀ e, Mid e → (rest e).post N T) : (sSeq a rest env).post N T := by
  simp only [post_seq]
  exact RS.post_mono h k fun _ z => z
theorem split_good {l x : Int} {ps : List Int} (h : Good l (x :: ps)) (hx : 1 < x) (h3 : ps.length ≤ 1600) : Good l ([1, x - 1] ++ ps) := by
  refine ⟨fun y hy => ?_, ?_, by simp, by simp; omega⟩
  · simp at hy
    rcases hy with q | q | q
    · omega
    · omega
    · exact h.ge y (List.mem_cons_of_mem _ q)
  · have := h.sm
    simp at this ⊢; omega
theorem e_pieces (g n : Nat) (S : List Tr) (c : Int) (hl : S.length ≤ 30) (hS : ∀ t ∈ S, 1 ≤ t.2.2 ∧ t.2.2 ≤ 1500000) : (m_law_pieces_one [rawD g n S, .int c]).post fun d => ∃ P : List Tr, d = .lst (P.map trL) ∧ P.length ≤ 100000 ∧ Pcs S P := by
  refine fnM_post rfl ?_
  have hd := e_digits c (List.replicate 16 4) (by simp) (by simp)
  simp [b_law_pieces_one, crep1]
  refine R.post_mono hd ?_
  rintro _ ⟨ds, rfl, hdl, hb⟩
  rw [List.length_replicate] at hdl
  refine post_for (fun i e => ∃ (P : List Tr) (o4 o5 o6 : Option D), P.length ≤ 1602 * i ∧ Pcs (S.take i) P ∧ e = [some (rawD g n S), some (.int c), some (.lst (ds.map D.int)), some (.lst (P.map trL)), o4, o5, o6, none]) (ds := rngD 0 S.length) (rng_len ?_ (by omega)) ⟨[], none, none, none, by simp, ⟨by simp, by simp [ws]⟩, rfl⟩ ?_ ?_
  · simp [rawD]
  · rintro i d e hd ⟨P, o4, o5, o6, hP, pc, rfl⟩
    obtain ⟨hi, rfl⟩ := rngD_at hd
    have hx : S[i]? = some (S[i]'hi) := List.getElem?_eq_getElem hi
    generalize hq : S[i]'hi = t at hx
    have ht : t ∈ S := List.mem_of_getElem? hx
    obtain ⟨t1, t2⟩ := hS t ht
    have htake : S.take (i + 1) = S.take i ++ [t] := by rw [List.take_succ, hx]; rfl
    obtain ⟨K, hK⟩ := Int.eq_ofNat_of_zero_le (show 0 ≤ t.2.2 / 1000 by omega)
    have cg := ceil_good hK t1 t2
    obtain ⟨r, hr⟩ : ∃ r : Int, atI (ds.map D.int) ((i : Int) % 15) = some (.int r) := by
      refine ⟨ds[((i : Int) % 15).toNat]'(by omega), ?_⟩
      rw [atI_pos _ (by omega), List.getElem?_map, List.getElem?_eq_getElem (by omega)]
      rfl
    refine ⟨_, rfl, ?_⟩
    unfold lb_law_pieces_one_225
    refine post_cut3 (fun e => ∃ ps : List Int, Good t.2.2 ps ∧ ps.length ≤ 1501 ∧ e = [some (rawD g n S), some (.int c), some (.lst (ds.map D.int)), some (.lst (P.map trL)), some (.int (i : Int)), some (trL t), some (.lst (ps.map D.int)), none]) ?_ ?_
    · simp [rawD, hx, trL, hK]
      refine ⟨cdivw (by decide) (by decide), crep1 (by omega) (by omega), cm_l (by decide) (by decide), ?_⟩
      split at cg
      · rename_i q
        rw [if_pos q]
        exact ⟨cm_l (by decide) (by decide), by rw [size24]; omega, _, cg.1, cg.2, by simp⟩
      · rename_i q
        rw [if_neg q]
        exact ⟨_, cg.1, cg.2, by simp⟩
    · rintro _ ⟨ps, gd, hps, rfl⟩
      refine post_cut1 (fun e => ∃ ps : List Int, Good t.2.2 ps ∧ e = [some (rawD g n S), some (.int c), some (.lst (ds.map D.int)), some (.lst (P.map trL)), some (.int (i : Int)), some (trL t), some (.lst (ps.map D.int)), none]) ?_ ?_
      · cases ps with
        | nil => exact absurd gd.n1 (by simp)
        | cons x ps =>
          simp [hr]
          by_cases q1 : r = 2
          · by_cases q2 : 1 < x
            · simp [q1, q2, dSl, cut1, size24]
              refine ⟨by simp at hps; omega, [1, x - 1] ++ ps, split_good gd q2 (by simp at hps; omega), by simp⟩
            · simp [q1, q2]
              exact ⟨x :: ps, gd, by simp⟩
          · simp [q1]
            exact ⟨x :: ps, gd, by simp⟩
      · rintro _ ⟨ps, gd, rfl⟩
        simp
        refine post_lcM (fun x => some ((t.1, t.2.1, x) : Tr)) trL ps D.int (seq_of (by simp)) rfl (by have := gd.n2; omega) (fun x hx => ⟨_, rfl, ?_⟩) ?_
        · simp [wipeE, trL]
        · simp
          have := gd.n2
          refine ⟨by rw [size24]; omega, P ++ ps.map fun x => (t.1, t.2.1, x), by simp; omega, ?_, by simp⟩
          rw [htake]
          exact pc.add gd
  · rintro e ⟨P, o4, o5, o6, hP, pc, rfl⟩
    have hlen : (rngD 0 S.length).length = S.length := rngD_len _ _
    rw [hlen] at hP pc
    rw [List.take_length] at pc
    have h15 : ∃ r : Int, ds[15]? = some r := ⟨ds[15]'(by omega), List.getElem?_eq_getElem (by omega)⟩
    obtain ⟨r, h15⟩ := h15
    simp [h15]
    split
    · refine ⟨P.reverse, by simp, by simp; omega, ⟨fun t ht => pc.ok t (by simpa using ht), fun c => ?_⟩⟩
      rw [← pc.sm c]
      exact ws_perm (List.reverse_perm P)
    · exact ⟨P, rfl, by omega, pc⟩
end MD

namespace MD
open PySem L2
theorem turn_ne {one s n : Int} (h0 : 0 ≤ one) (h1 : one < n) (s0 : 1 ≤ s) (s1 : s ≤ n - 1) : (one + s) % n ≠ one ∧ 0 ≤ (one + s) % n ∧ (one + s) % n < n := by
  refine ⟨?_, Int.emod_nonneg _ (by omega), Int.emod_lt_of_pos _ (by omega)⟩
  by_cases q : one + s < n
  · rw [Int.emod_eq_of_lt (by omega) q]; omega
  · have e : (one + s) % n = (one + s - n) % n := by rw [Int.sub_emod_right]
    rw [e, Int.emod_eq_of_lt (by omega) (by omega)]; omega
/-- raw streets that are fit -/
def Fit (n : Int) (L : Int) (S : List Tr) : Prop := ∀ t ∈ S, 0 ≤ t.1 ∧ t.1 < n ∧ 0 ≤ t.2.1 ∧ t.2.1 < n ∧ t.1 ≠ t.2.1 ∧ 1 ≤ t.2.2 ∧ t.2.2 ≤ L
theorem at8 {c : Int} (h0 : 0 ≤ c) (h1 : c < 8) (l : List Int) (hl : l.length = 8) : atI (l.map D.int) c = some (.int (l[c.toNat]'(by omega))) := by
  rw [atI_pos _ h0, List.getElem?_map, List.getElem?_eq_getElem (by omega)]; rfl
theorem atG {c : Int} (l : List Int) (h0 : 0 ≤ c) (h1 : c < l.length) (P : Int → Prop) (hP : ∀ x ∈ l, P x) : ∃ x, atI (l.map D.int) c = some (.int x) ∧ P x := by
  refine ⟨l[c.toNat]'(by omega), ?_, hP _ (List.getElem_mem _)⟩
  rw [atI_pos _ h0, List.getElem?_map, List.getElem?_eq_getElem (by omega)]; rfl
theorem Below.at {ds sizes : List Int} (h : Below ds sizes) (hl : ds.length = sizes.length) (j : Nat) (hj : j < ds.length) : ∃ d, ds[j]? = some d ∧ 0 ≤ d ∧ d < sizes[j]'(by omega) := by
  refine ⟨ds[j], List.getElem?_eq_getElem hj, ?_⟩
  exact h j _ _ (List.getElem?_eq_getElem hj) (List.getElem?_eq_getElem (by omega))
theorem tot_le {L : Int} : ∀ {S : List Tr}, (∀ t ∈ S, t.2.2 ≤ L) → tot S ≤ (S.length : Int) * L
  | [], _ => by simp [tot]
  | t :: S, h => by
    have ih := tot_le (S := S) fun u hu => h u (List.mem_cons_of_mem _ hu)
    have := h t List.mem_cons_self
    unfold tot at ih ⊢
    simp [Int.add_mul]; omega
theorem fit_ways {n L L' : Int} {S M : List Tr} (h : Fit n L S) (hM : ∀ t ∈ M, 0 < t.2.2 ∧ t.2.2 ≤ tot S ∧ ∃ e ∈ S, e.1 = t.1 ∧ e.2.1 = t.2.1) (hL : tot S ≤ L') : Fit n L' M := fun t ht => by
  obtain ⟨h1, h2, e, he, e1, e2⟩ := hM t ht
  obtain ⟨q1, q2, q3, q4, q5, _⟩ := h e he
  rw [e1] at q1 q2 q5
  rw [e2] at q3 q4 q5
  exact ⟨q1, q2, q3, q4, q5, by omega, by omega⟩
theorem lanes_at {c : Int} (h0 : 0 ≤ c) (h1 : c < 6) : ∃ x, atI [D.int 1, .int 1, .int 2, .int 1, .int 3, .int 2] c = some (.int x) ∧ 1 ≤ x ∧ x ≤ 3 := atG [1, 1, 2, 1, 3, 2] h0 h1 (fun x => 1 ≤ x ∧ x ≤ 3) (by decide)
theorem one_loop (ns : List Int) (hn : ns.length ≤ 63) (w : Bool) (hd : List Int) (d2 : Int) (h2 : hd[2]? = some d2) (q : Int) (hq : atI [D.int 2, .int 3, .int 1, .int 4] d2 = some (.int q)) (q0 : 0 ≤ q) (q1 : q ≤ 4) (g m : Nat) (hg1 : 2 ≤ g) (hg2 : g ≤ 6) (hm : m ≤ 5) (T : D → Prop) :
    (sFor (iRng (e2 dAdd (e2 dMul (eC (D.int 2)) (eVar 5)) (e2 dIx (eLst (aCons (eC (D.int 2)) (aCons (eC (D.int 3)) (aCons (eC (D.int 1)) (aCons (eC (D.int 4)) aNil))))) (e2 dIx (eVar 3) (eC (D.int 2))))))
      (gmName 8) lb_law_one_net_197 [some (D.scr (ns.map D.int)), some (D.int 0), some (D.bl w), some (D.lst (hd.map D.int)), some (D.int g), some (D.int m), some (D.int ((g : Int) + m)), some (D.lst []), none, none, none, none, none, none]).post
      (fun e => ∃ (S : List Tr) (o8 o9 o10 o11 o12 o13 : Option D), S.length ≤ 14 ∧ Fit ((g : Int) + m) 1000 S ∧ e = [some (D.scr (ns.map D.int)), some (D.int 0), some (D.bl w), some (D.lst (hd.map D.int)), some (D.int g), some (D.int m), some (D.int ((g : Int) + m)), some (D.lst (S.map trL)), o8, o9, o10, o11, o12, o13]) T := by
  refine post_for (fun i e => ∃ (S : List Tr) (o8 o9 o10 o11 o12 o13 : Option D), S.length ≤ i ∧ Fit ((g : Int) + m) 1000 S ∧ e = [some (D.scr (ns.map D.int)), some (D.int 0), some (D.bl w), some (D.lst (hd.map D.int)), some (D.int g), some (D.int m), some (D.int ((g : Int) + m)), some (D.lst (S.map trL)), o8, o9, o10, o11, o12, o13])
    (ds := rngD 0 (2 * (m : Int) + q).toNat) (rng_of ?_ (by omega) (by omega)) ⟨[], none, none, none, none, none, none, by simp, by simp [Fit], rfl⟩ ?_ ?_
  · simp [h2, hq]
    exact cm_l (by decide) (by decide)
  · rintro i d e hd' ⟨S, o8, o9, o10, o11, o12, o13, hS, fS, rfl⟩
    obtain ⟨hi, rfl⟩ := rngD_at hd'
    refine ⟨_, rfl, ?_⟩
    have i14 : i < 14 := by omega
    obtain ⟨c1, hc1⟩ : ∃ c1, m_law_cell [.scr (ns.map D.int), .int (1 + (i : Int) % 13)] = .ok (.int c1) := by
      obtain ⟨_, hc, c1, rfl⟩ := R.post_ex (e_cell ns hn (1 + (i : Int) % 13) (by omega) (by omega))
      exact ⟨c1, hc⟩
    obtain ⟨_, hr, row, rfl, hrl, hb⟩ := R.post_ex (e_digits c1 [(g : Int) + m, (g : Int) + m - 1, 6, 2, (g : Int) + m, (g : Int) + m - 1, 6, 2, 1000] (by simp) (by simp; omega))
    obtain ⟨sh, hsh, hsh2⟩ : ∃ sh : Int, 4 * ((i : Int) / 13) = sh ∧ (sh = 0 ∨ sh = 4) := ⟨_, rfl, by omega⟩
    have rl : row.length = 9 := hrl
    obtain ⟨a0, x0, x01, x02⟩ := hb.at hrl 0 (by omega)
    obtain ⟨a1, x1, x11, x12⟩ := hb.at hrl 1 (by omega)
    obtain ⟨a2, x2, x21, x22⟩ := hb.at hrl 2 (by omega)
    obtain ⟨a3, x3, x31, x32⟩ := hb.at hrl 3 (by omega)
    obtain ⟨a4, x4, x41, x42⟩ := hb.at hrl 4 (by omega)
    obtain ⟨a5, x5, x51, x52⟩ := hb.at hrl 5 (by omega)
    obtain ⟨a6, x6, x61, x62⟩ := hb.at hrl 6 (by omega)
    obtain ⟨a7, x7, x71, x72⟩ := hb.at hrl 7 (by omega)
    obtain ⟨a8, x8, x81, x82⟩ := hb.at hrl 8 (by omega)
    simp at x02 x12 x22 x32 x42 x52 x62 x72 x82
    obtain ⟨b0, b1, b2, b3, y0, y1, y2, y3, z0, z1, z2⟩ : ∃ b0 b1 b2 b3 : Int, atI (row.map D.int) sh = some (.int b0) ∧ atI (row.map D.int) (sh + 1) = some (.int b1) ∧ atI (row.map D.int) (sh + 2) = some (.int b2) ∧ atI (row.map D.int) (sh + 3) = some (.int b3) ∧ (0 ≤ b0 ∧ b0 < (g : Int) + m) ∧ (0 ≤ b1 ∧ b1 < (g : Int) + m - 1) ∧ (0 ≤ b2 ∧ b2 < 6) := by
      rcases hsh2 with rfl | rfl
      · exact ⟨a0, a1, a2, a3, by simp [x0], by simp [x1], by simp [x2], by simp [x3], ⟨x01, x02⟩, ⟨x11, x12⟩, ⟨x21, x22⟩⟩
      · exact ⟨a4, a5, a6, a7, by simp [x4], by simp [x5], by simp [x6], by simp [x7], ⟨x41, x42⟩, ⟨x51, x52⟩, ⟨x61, x62⟩⟩
    obtain ⟨l1, yl, zl1, zl2⟩ := lanes_at z2.1 z2.2
    have hr' : m_law_digits [.int c1, .lst [.int ((g : Int) + m), .int ((g : Int) + m - 1), .int 6, .int 2, .int ((g : Int) + m), .int ((g : Int) + m - 1), .int 6, .int 2, .int 1000]] = .ok (.lst (row.map D.int)) := hr
    unfold lb_law_one_net_197
    refine post_cut3 (fun e => ∃ (one : Int) (o12 o13 : Option D), 0 ≤ one ∧ one < (g : Int) + m ∧ e = [some (D.scr (ns.map D.int)), some (D.int 0), some (D.bl w), some (D.lst (hd.map D.int)), some (D.int g), some (D.int m), some (D.int ((g : Int) + m)), some (D.lst (S.map trL)), some (.int (i : Int)), some (.lst (row.map D.int)), some (.int sh), some (.int one), o12, o13]) ?_ ?_
    · simp [hc1, hr', hsh, y0]
      refine ⟨cdivw (by decide) (by decide), cm_l (by decide) (by decide), z0.1, z0.2⟩
    · rintro _ ⟨one, o12', o13', p0, p1, rfl⟩
      refine post_cut1 (fun e => ∃ (one : Int) (o12 o13 : Option D), 0 ≤ one ∧ one < (g : Int) + m ∧ e = [some (D.scr (ns.map D.int)), some (D.int 0), some (D.bl w), some (D.lst (hd.map D.int)), some (D.int g), some (D.int m), some (D.int ((g : Int) + m)), some (D.lst (S.map trL)), some (.int (i : Int)), some (.lst (row.map D.int)), some (.int sh), some (.int one), o12, o13]) ?_ ?_
      · simp
        refine ⟨cm_l (by decide) (by decide), ?_⟩
        split
        · exact ⟨cdivw (by decide) (by decide), by omega, by omega⟩
        · exact ⟨p0, p1⟩
      · rintro _ ⟨one, o12'', o13'', p0, p1, rfl⟩
        have e1 : one + 1 + b1 = one + (1 + b1) := by omega
        obtain ⟨t1, t2, t3⟩ := turn_ne p0 p1 (show 1 ≤ 1 + b1 by omega) (show 1 + b1 ≤ (g : Int) + m - 1 by omega)
        simp [y1, y2, y3, yl, e1, x8]
        refine ⟨by omega, ?_⟩
        have fin : ∀ (l : Int), 1 ≤ l → l ≤ 1000 → S.length < sizeLine ∧ True := fun l _ _ => ⟨by rw [size24]; omega, trivial⟩
        have fA : ∀ (l : Int), 1 ≤ l → l ≤ 1000 → Fit ((g : Int) + m) 1000 (S ++ [((one + (1 + b1)) % ((g : Int) + m), one, l)]) := fun l l1 l2 u hu => by
          rcases List.mem_append.mp hu with z | z
          · exact fS u z
          · simp at z; subst z; exact ⟨t2, t3, p0, p1, t1, l1, l2⟩
        have fB : ∀ (l : Int), 1 ≤ l → l ≤ 1000 → Fit ((g : Int) + m) 1000 (S ++ [(one, (one + (1 + b1)) % ((g : Int) + m), l)]) := fun l l1 l2 u hu => by
          rcases List.mem_append.mp hu with z | z
          · exact fS u z
          · simp at z; subst z; exact ⟨p0, p1, t2, t3, fun z => t1 z.symm, l1, l2⟩
        cases w with
        | true =>
          simp
          split
          · exact ⟨by rw [size24]; omega, S ++ [((one + (1 + b1)) % ((g : Int) + m), one, 1 + a8)], by simp; omega, fA _ (by omega) (by omega), by simp [trL]⟩
          · exact ⟨by rw [size24]; omega, S ++ [(one, (one + (1 + b1)) % ((g : Int) + m), 1 + a8)], by simp; omega, fB _ (by omega) (by omega), by simp [trL]⟩
        | false =>
          simp
          split
          · exact ⟨by rw [size24]; omega, S ++ [((one + (1 + b1)) % ((g : Int) + m), one, l1)], by simp; omega, fA _ (by omega) (by omega), by simp [trL]⟩
          · exact ⟨by rw [size24]; omega, S ++ [(one, (one + (1 + b1)) % ((g : Int) + m), l1)], by simp; omega, fB _ (by omega) (by omega), by simp [trL]⟩
  · rintro e ⟨S, o8, o9, o10, o11, o12, o13, hS, fS, rfl⟩
    rw [rngD_len] at hS
    exact ⟨S, o8, o9, o10, o11, o12, o13, by omega, fS, rfl⟩
theorem e_one_net (ns : List Int) (hn : ns.length ≤ 63) (w : Bool) : (m_law_one_net [.scr (ns.map D.int), .int 0, .bl w]).post fun d => ∃ (g m : Nat) (S : List Tr), d = rawD g (g + m) S ∧ 2 ≤ g ∧ g ≤ 6 ∧ m ≤ 5 ∧ S.length ≤ 14 ∧ Fit (g + m : Nat) 14000 S := by
  refine fnM_post rfl ?_
  unfold b_law_one_net
  simp only [post_seq, post_set, post_call, post_aCons, post_var, post_aNil]
  simp
  refine R.post_mono (e_cell ns hn 0 (by decide) (by decide)) ?_
  rintro _ ⟨c0, rfl⟩
  refine R.post_mono (e_digits c0 [8, 8, 4] (by simp) (by simp)) ?_
  rintro _ ⟨hd, rfl, hdl, hb⟩
  obtain ⟨d0, h0, h01, h02⟩ := hb.at hdl 0 (by simp at hdl; omega)
  obtain ⟨d1, h1, h11, h12⟩ := hb.at hdl 1 (by simp at hdl; omega)
  obtain ⟨d2, h2, h21, h22⟩ := hb.at hdl 2 (by simp at hdl; omega)
  simp at h02 h12 h22
  obtain ⟨g, hg, hg1, hg2⟩ := atG [4, 3, 5, 4, 2, 4, 6, 5] h01 (by simpa using h02) (fun x => 2 ≤ x ∧ x ≤ 6) (by decide)
  obtain ⟨m1, hm, hm1, hm2⟩ := atG [2, 1, 3, 2, 1, 2, 3, 0] h11 (by simpa using h12) (fun x => 0 ≤ x ∧ x ≤ 5) (by decide)
  obtain ⟨m2, hk, hk1, hk2⟩ := atG [5, 4, 5, 3, 4, 5, 2, 5] h11 (by simpa using h12) (fun x => 0 ≤ x ∧ x ≤ 5) (by decide)
  obtain ⟨q, hq, hq1, hq2⟩ := atG [2, 3, 1, 4] h21 (by simpa using h22) (fun x => 0 ≤ x ∧ x ≤ 4) (by decide)
  simp at hg hm hk hq
  simp [h0, h1, h2, hg, hm, hk, hq]
  have fin : ∀ m' : Int, 0 ≤ m' → m' ≤ 5 → ∀ e : Env, (∃ (S : List Tr) (o8 o9 o10 o11 o12 o13 : Option D), S.length ≤ 14 ∧ Fit ((g.toNat : Int) + m'.toNat) 1000 S ∧ e = [some (D.scr (ns.map D.int)), some (D.int 0), some (D.bl w), some (D.lst (hd.map D.int)), some (D.int g.toNat), some (D.int m'.toNat), some (D.int ((g.toNat : Int) + m'.toNat)), some (D.lst (S.map trL)), o8, o9, o10, o11, o12, o13]) →
      ∃ d, e[4]? = some (some d) ∧ ∃ d_1, e[6]? = some (some d_1) ∧ ∃ d_2, e[7]? = some (some d_2) ∧ (m_law_ways_one [d_2]).post fun x => ∃ (g m : Nat) (S : List Tr), D.lst [d, d_1, x] = rawD g (g + m) S ∧ 2 ≤ g ∧ g ≤ 6 ∧ m ≤ 5 ∧ S.length ≤ 14 ∧ Fit ((g : Int) + m) 14000 S := by
    rintro m' m0 m5 e ⟨S, o8, o9, o10, o11, o12, o13, hS, fS, rfl⟩
    refine ⟨_, rfl, _, rfl, _, rfl, ?_⟩
    refine R.post_mono (e_ways S (by omega) fun t ht => by have := fS t ht; omega) ?_
    rintro _ ⟨M, rfl, hM, hM2⟩
    refine ⟨g.toNat, m'.toNat, M, by simp [rawD], by omega, by omega, by omega, by omega, ?_⟩
    exact fit_ways fS hM2 (by have := tot_le (L := 1000) (S := S) (fun t ht => (fS t ht).2.2.2.2.2.2); omega)
  split
  · have h := one_loop ns hn w hd d2 h2 q hq hq1 hq2 g.toNat m2.toNat (by omega) (by omega) (by omega) (fun d => ∃ (g m : Nat) (S : List Tr), d = rawD g (g + m) S ∧ 2 ≤ g ∧ g ≤ 6 ∧ m ≤ 5 ∧ S.length ≤ 14 ∧ Fit ((g : Int) + m) 14000 S)
    have f := fin m2 hk1 hk2
    rw [show ((g.toNat : Nat) : Int) = g by omega, show ((m2.toNat : Nat) : Int) = m2 by omega] at h f
    exact RS.post_mono h f fun _ z => z
  · have h := one_loop ns hn w hd d2 h2 q hq hq1 hq2 g.toNat m1.toNat (by omega) (by omega) (by omega) (fun d => ∃ (g m : Nat) (S : List Tr), d = rawD g (g + m) S ∧ 2 ≤ g ∧ g ≤ 6 ∧ m ≤ 5 ∧ S.length ≤ 14 ∧ Fit ((g : Int) + m) 14000 S)
    have f := fin m1 hm1 hm2
    rw [show ((g.toNat : Nat) : Int) = g by omega, show ((m1.toNat : Nat) : Int) = m1 by omega] at h f
    exact RS.post_mono h f fun _ z => z
theorem out_bd (p : Int) : ∀ {S : List Tr}, (∀ t ∈ S, 0 ≤ t.2.2) → 0 ≤ outS S p ∧ outS S p ≤ tot S
  | [], _ => by simp [tot, outS]
  | t :: S, h => by
    have ih := out_bd p (S := S) fun u hu => h u (List.mem_cons_of_mem _ hu)
    have := h t List.mem_cons_self
    unfold tot outS at ih ⊢
    rw [List.filterMap_cons]
    by_cases q : t.1 = p <;> simp [q] <;> omega
theorem in_bd (p : Int) : ∀ {S : List Tr}, (∀ t ∈ S, 0 ≤ t.2.2) → 0 ≤ inS S p ∧ inS S p ≤ tot S
  | [], _ => by simp [tot, inS]
  | t :: S, h => by
    have ih := in_bd p (S := S) fun u hu => h u (List.mem_cons_of_mem _ hu)
    have := h t List.mem_cons_self
    unfold tot inS at ih ⊢
    rw [List.filterMap_cons]
    by_cases q : t.2.1 = p <;> simp [q] <;> omega
theorem e_balanced (g m : Nat) (hg1 : 2 ≤ g) (hg2 : g ≤ 6) (hm : m ≤ 5) (S : List Tr) (hl : S.length ≤ 14) (fS : Fit ((g : Int) + m) 14000 S) : (m_law_balanced [rawD g (g + m) S]).post fun d => ∃ S' : List Tr, d = rawD g (g + m) S' ∧ S'.length ≤ 30 ∧ Fit ((g : Int) + m) 1500000 S' := by
  refine fnM_post rfl ?_
  have ht : tot S ≤ 196000 := by have := tot_le (L := 14000) (S := S) (fun t ht => (fS t ht).2.2.2.2.2.2); omega
  have h0 : ∀ t ∈ S, 0 ≤ t.2.2 := fun t ht => by have := fS t ht; omega
  unfold b_law_balanced
  rw [post_seq, post_setF]
  refine post_lcM (fun t => some t) trL S trL (seq_of (by simp [rawD])) rfl (by omega) (fun t ht => ⟨_, rfl, ?_⟩) ?_
  · simp [wipeE, trL]
  · refine ⟨by simp, ?_⟩
    rw [show S.filterMap (fun t => some t) = S by simp]
    rw [post_seq]
    refine post_for (fun i e => ∃ (U : List Tr) (o2 o3 o4 o5 : Option D), U.length ≤ 14 + i ∧ i ≤ m ∧ tot U ≤ 196000 + 196000 * i ∧ Fit ((g : Int) + m) 196000 U ∧ e = [some (rawD g (g + m) S), some (.lst (U.map trL)), o2, o3, o4, o5]) (ds := rngD g (((g : Int) + m) - g).toNat) (rng2_of ?_ ?_ (by omega) (by omega) (by omega) (by omega)) ⟨S, none, none, none, none, by omega, by omega, by omega, fun t ht => by have := fS t ht; omega, rfl⟩ ?_ ?_
    · simp [rawD]
    · simp [rawD]
    · rintro i d e hd ⟨U, o2, o3, o4, o5, hU, him, htU, fU, rfl⟩
      obtain ⟨hi, rfl⟩ := rngD_at hd
      refine ⟨_, rfl, ?_⟩
      obtain ⟨u1, u2⟩ := out_bd ((g : Int) + i) h0
      obtain ⟨v1, v2⟩ := in_bd ((g : Int) + i) h0
      have hG := Int.emod_nonneg (((g : Int) + i) * 5 + S.length) (show (g : Int) ≠ 0 by omega)
      have hG2 := Int.emod_lt_of_pos (((g : Int) + i) * 5 + S.length) (show (0 : Int) < (g : Int) by omega)
      simp [lb_law_balanced_214, rawD, e_out S (by omega), e_in S (by omega)]
      refine ⟨cm_r (by decide) (by decide), by omega, ?_⟩
      generalize ((g : Int) + i) * 5 + S.length = z at hG hG2 ⊢
      generalize hA : outS S ((g : Int) + i) = A at u1 u2 ⊢
      generalize hB : inS S ((g : Int) + i) = B at v1 v2 ⊢
      have ad : ∀ (t : Tr), Fit ((g : Int) + m) 196000 [t] → (U ++ [t]).length ≤ 14 + (i + 1) ∧ i + 1 ≤ m ∧ tot (U ++ [t]) ≤ 196000 + 196000 * ((i : Int) + 1) ∧ Fit ((g : Int) + m) 196000 (U ++ [t]) := fun t ft => by
        have f1 := ft t (by simp)
        refine ⟨by simp; omega, by omega, ?_, fun u hu => ?_⟩
        · unfold tot at htU ⊢
          simp; omega
        · rcases List.mem_append.mp hu with q | q
          · exact fU u q
          · exact ft u q
      split
      · rename_i q
        refine ⟨by rw [size24]; omega, ?_⟩
        rw [if_neg (by omega)]
        obtain ⟨a1, a2, a3, a4⟩ := ad (z % (g : Int), (g : Int) + i, A - B) fun u hu => by
          simp at hu; subst hu
          refine ⟨hG, ?_, ?_, ?_, ?_, ?_, ?_⟩ <;> dsimp only <;> omega
        exact ⟨_, a1, a2, a3, a4, by simp [trL]⟩
      · rename_i q
        split
        · obtain ⟨a1, a2, a3, a4⟩ := ad ((g : Int) + i, z % (g : Int), -(A - B)) fun u hu => by
            simp at hu; subst hu
            refine ⟨?_, ?_, hG, ?_, ?_, ?_, ?_⟩ <;> dsimp only <;> omega
          exact ⟨by rw [size24]; omega, _, a1, a2, a3, a4, by simp [trL]⟩
        · exact ⟨U, by omega, by omega, by omega, fU, rfl⟩
    · rintro e ⟨U, o2, o3, o4, o5, hU, him, htU, fU, rfl⟩
      simp [rawD]
      refine R.post_mono (e_ways U (by omega) fun t ht => by have := fU t ht; omega) ?_
      rintro _ ⟨M, rfl, hM, hM2⟩
      refine ⟨M, rfl, by omega, fit_ways fU hM2 (by omega)⟩
end MD

namespace MD
open PySem L2
def LET : List Nat := ("abcdefghijklmnopqrstuvwxyz" : Str).cps.toList
def SIG : List Nat := ("abcdefghijklmnopqrstuvwxyz0123456789" : Str).cps.toList
theorem let_eq : LET = (List.range 26).map (· + 97) := by decide +kernel
theorem sig_len : SIG.length = 36 := by decide +kernel
theorem let_sig : ∀ c ∈ LET, c ∈ SIG := by decide +kernel
theorem q_let : 113 ∈ LET := by decide +kernel
def sL (l : List Nat) : Str := ⟨l.toArray⟩
theorem sL_len (l : List Nat) : (sL l).length = l.length := by simp [sL, Str.length]
theorem sL_app (l r : List Nat) : sL l ++ sL r = sL (l ++ r) := by
  show Str.mk _ = Str.mk _
  simp [sL]
structure Nm (l : List Nat) : Prop where
  n0 : 1 ≤ l.length
  n1 : l.length ≤ 12
  hd : ∃ c, l[0]? = some c ∧ c ∈ LET
  al : ∀ c ∈ l, c ∈ SIG
theorem isi_str (s : Str) : dIsi "str" (.str s) = .ok (.bl true) := rfl
theorem notIn1 (c : Nat) (z : Str) : dNotIn (.str ⟨#[c]⟩) (.str z) = .ok (.bl (!decide (c ∈ z.cps.toList))) := rfl
theorem e_is_name {l : List Nat} (h : Nm l) : m_is_name [.str (sL l)] = .ok (.bl true) := by
  refine R.post_eq (fnM_post rfl ?_)
  obtain ⟨c, h1, h2⟩ := h.hd
  have hn := h.n1
  have hn0 := h.n0
  have h3 : (sL l).cps.toList = l := rfl
  have h2' : c ∈ (Str.ofString "abcdefghijklmnopqrstuvwxyz").cps := by simpa [LET] using h2
  simp [b_is_name, isi_str, sL_len, h3, h1, notIn1]
  refine ⟨by rw [size24]; omega, by omega, by rw [size24]; omega, by omega, by rw [size24]; omega, h2', ?_⟩
  refine post_for (fun i e => ∃ o, e = [some (.str (sL l)), o]) (ds := l.map fun c => .str ⟨#[c]⟩) rfl ⟨none, rfl⟩ ?_ (fun _ _ => trivial)
  rintro i d e hd ⟨o, rfl⟩
  rw [List.getElem?_map] at hd
  cases hx : l[i]? with
  | none => rw [hx] at hd; cases hd
  | some x =>
    rw [hx] at hd; cases hd
    have hm := h.al x (List.mem_of_getElem? hx)
    have hm' : x ∈ (Str.ofString "abcdefghijklmnopqrstuvwxyz0123456789").cps := by simpa [SIG] using hm
    refine ⟨_, rfl, ?_⟩
    simp [lb_is_name_33, notIn1, hm']
theorem sL_inj {a b : List Nat} (h : sL a = sL b) : a = b := by
  have := congrArg (fun s => s.cps.toList) h
  simpa [sL] using this
theorem fvs_str (xs : List (List Nat)) : fvs (xs.map fun l => D.str (sL l)) = some (xs.map fun l => V.str (sL l)) := by
  unfold fvs
  induction xs with
  | nil => rfl
  | cons x xs ih => rw [List.map_cons, List.mapM_cons, ih]; rfl
theorem notin_str (x : List Nat) (xs : List (List Nat)) (h : x ∉ xs) : dIn (.str (sL x)) (.lst (xs.map fun l => D.str (sL l))) = .ok (.bl false) := by
  have e : dIn (.str (sL x)) (.lst (xs.map fun l => D.str (sL l))) = ((R.of (some (xs.map fun l => D.str (sL l)))).bind fun ds => (R.of (some (V.str (sL x)))).bind fun v => (R.of (fvs ds)).bind fun us => .ok (inV v us)).bind fun b => .ok (.bl b) := rfl
  rw [e]
  simp only [R.of, R.bind_ok, fvs_str]
  have q : inV (V.str (sL x)) (xs.map fun l => V.str (sL l)) = false := by
    unfold inV
    rw [List.any_map, List.any_eq_false]
    intro l hl hq
    have : sL l = sL x := by simpa [Function.comp, eqV] using hq
    exact h (sL_inj this ▸ hl)
  rw [q]
theorem e_check_names (xs : List (List Nat)) (hx : ∀ l ∈ xs, Nm l) (hn : xs.Nodup) (hl : xs.length ≤ 100) : m_check_names [.lst (xs.map fun l => .str (sL l))] = .ok (.tup (xs.map fun l => .str (sL l))) := by
  refine R.post_eq (fnM_post rfl ?_)
  unfold b_check_names
  rw [post_seq]
  refine post_for (fun i e => ∃ o, e = [some (.lst (xs.map fun l => .str (sL l))), o, none]) (ds := xs.map fun l => .str (sL l)) rfl ⟨none, rfl⟩ ?_ ?_
  · rintro i d e hd ⟨o, rfl⟩
    rw [List.getElem?_map] at hd
    cases hq : xs[i]? with
    | none => rw [hq] at hd; cases hd
    | some l =>
      rw [hq] at hd; cases hd
      refine ⟨_, rfl, ?_⟩
      simp [lb_check_names_38, e_is_name (hx l (List.mem_of_getElem? hq))]
  · rintro e ⟨o, rfl⟩
    simp
    refine post_for (fun i e => ∃ o, e = [some (.lst (xs.map fun l => .str (sL l))), o, some (.lst ((xs.take i).map fun l => .str (sL l)))]) (ds := xs.map fun l => .str (sL l)) rfl ⟨o, by simp⟩ ?_ ?_
    · rintro i d e hd ⟨o, rfl⟩
      rw [List.getElem?_map] at hd
      cases hq : xs[i]? with
      | none => rw [hq] at hd; cases hd
      | some l =>
        rw [hq] at hd; cases hd
        have hi := (List.getElem?_eq_some_iff.mp hq)
        obtain ⟨hi1, hi2⟩ := hi
        have nt : l ∉ xs.take i := fun z => by
          obtain ⟨j, hj, e⟩ := List.mem_iff_getElem.mp z
          rw [List.getElem_take] at e
          simp at hj
          exact (List.pairwise_iff_getElem.mp hn) j i (by omega) hi1 (by omega) (e.trans hi2.symm)
        refine ⟨_, rfl, ?_⟩
        have ni : dIn (.str (sL l)) (.lst (List.take i (xs.map fun l => D.str (sL l)))) = .ok (.bl false) := by rw [← List.map_take]; exact notin_str l _ nt
        simp [lb_check_names_42, ni]
        refine ⟨by rw [size24]; omega, ?_⟩
        rw [List.take_succ, List.getElem?_map, hq]
        rfl
    · rintro e ⟨o, rfl⟩
      simp
end MD

namespace MD
open PySem L2
theorem post_fldS {N : Env → Prop} {T : D → Prop} {env : Env} (i : Nat) (cs : List Str) (f : Str) (m : EM) : (sFldS i cs f m env).post N T ↔ (m env).post fun d => ∃ c es, env[i]? = some (some (.obj c es)) ∧ (c ∈ cs ∧ es.length < 1000) ∧ N (env.set i (some (.obj c (putFD f d es)))) := by
  unfold sFldS
  simp only [R.post_go]
  refine Iff.of_eq (congrArg _ (funext fun d => ?_))
  cases h : env[i]? with
  | none => simp
  | some o =>
    cases o with
    | none => simp
    | some d =>
      cases d with
      | obj c es =>
        refine propext ⟨fun z => ⟨c, es, rfl, by simpa using z⟩, ?_⟩
        · rintro ⟨c', es', e, z1, z2⟩
          cases e
          simpa using ⟨z1, z2⟩
      | _ => simp
theorem fnI_post {c : Str} {L n : Nat} {m : SM} {ds : List D} {P : D → Prop} (hl : ds.length = n) (h : (m (some (.obj c []) :: (ds.map some ++ List.replicate (L - (n + 1)) none))).post (fun e => ∃ d, e[0]? = some (some d) ∧ P d) (fun _ => False)) : (fnI c L n m ds).post P := by
  unfold fnI
  rw [if_pos hl]
  cases hm : m (some (.obj c []) :: (ds.map some ++ List.replicate (L - (n + 1)) none)) with
  | ok ct =>
    rw [hm] at h
    cases ct with
    | nx e =>
      simp at h
      obtain ⟨d, h1, h2⟩ := h
      simp [RS.obj, h1, h2, R.of]
    | rt d => simp at h
    | bk e => simp at h
    | ct e => simp at h
  | exc c fs e => rw [hm] at h; simp at h
  | bad => rw [hm] at h; simp at h
theorem e_make (gs is : List (List Nat)) (P : List Tr) (hx : ∀ l ∈ gs ++ is, Nm l) (hn : (gs ++ is).Nodup) (hl : (gs ++ is).length ≤ 50) (hP : Vs ((gs ++ is).length : Nat) P) (hPl : P.length ≤ 100000) :
    (m_OneWayNet [.lst (gs.map fun l => .str (sL l)), .lst (is.map fun l => .str (sL l)), .lst (P.map trL)]).post fun d => ∃ (ga inn : List D) (M : List Tr), d = netD gs.length ga inn ((gs ++ is).map fun l => .str (sL l)) M ∧ M.length ≤ P.length ∧ (∀ t ∈ M, ∃ e ∈ P, e.1 = t.1 ∧ e.2.1 = t.2.1) ∧ ∀ c, ws c M = ws c P := by
  refine fnI_post rfl ?_
  have hc := e_check_names (gs ++ is) hx hn (by omega)
  rw [List.map_append] at hc
  have hl' : gs.length + is.length ≤ 50 := by simpa using hl
  have hm := e_merged P (gs ++ is).length hP hPl
  unfold b_OneWayNet_init
  simp [hc, post_fldS]
  generalize hA : (List.map (fun l => D.str (sL l)) gs ++ List.map (fun l => D.str (sL l)) is) = nm at hc ⊢
  refine ⟨by rw [size24]; omega, _, _, ⟨rfl, rfl⟩, ⟨by decide, by decide⟩, ?_⟩
  refine .ok ⟨_, rfl, ?_⟩
  refine .ok ⟨_, _, ⟨rfl, rfl⟩, ⟨by decide, by show (1 : Nat) < 1000; decide⟩, ?_⟩
  refine .ok ⟨_, rfl, ?_⟩
  refine .ok ⟨_, _, ⟨rfl, rfl⟩, ⟨by decide, by show (2 : Nat) < 1000; decide⟩, ?_⟩
  refine ⟨_, _, ⟨rfl, rfl⟩, ⟨by decide, by show (3 : Nat) < 1000; decide⟩, ?_⟩
  have e1 : ((gs ++ is).length : Int) = (gs.length : Int) + is.length := by simp
  rw [e1] at hm
  refine R.post_mono hm ?_
  rintro _ ⟨M, rfl, hM⟩
  refine ⟨_, _, ⟨rfl, rfl⟩, ⟨by decide, by show (4 : Nat) < 1000; decide⟩, ?_⟩
  exact ⟨_, _, M, rfl, hM.1, by simpa using hM.2⟩
end MD

namespace MD
open PySem L2
theorem let_at (k : Nat) (hk : k < 26) : atI ("abcdefghijklmnopqrstuvwxyz" : Str).cps.toList (k : Int) = some (97 + k) := by
  rw [atI_cast]
  show LET[k]? = _
  rw [let_eq, List.getElem?_map, List.getElem?_range hk]
  simp [Nat.add_comm]
theorem let_mem (k : Nat) (hk : k < 26) : 97 + k ∈ LET := by
  rw [let_eq]
  exact List.mem_map.mpr ⟨k, List.mem_range.mpr hk, by omega⟩
theorem sig_at (x : Int) (h0 : 0 ≤ x) (h1 : x < 36) : ∃ c, atI ("abcdefghijklmnopqrstuvwxyz0123456789" : Str).cps.toList x = some c ∧ c ∈ SIG := by
  have hl : x.toNat < SIG.length := by rw [sig_len]; omega
  refine ⟨SIG[x.toNat], ?_, List.getElem_mem _⟩
  rw [atI_pos _ h0]
  exact List.getElem?_eq_getElem hl
def wl (n : Nat) (sp : Nat) (xs : List (List Nat)) : Prop := xs.length = n ∧ (∀ l ∈ xs, Nm l) ∧ ∀ (a : Nat) (l : List Nat), xs[a]? = some l → l[sp]? = some (97 + a)
theorem wl_nd {n sp : Nat} {xs : List (List Nat)} (h : wl n sp xs) : xs.Nodup := by
  refine List.pairwise_iff_getElem.mpr fun i j hi hj hij e => ?_
  have h1 := h.2.2 i _ (List.getElem?_eq_getElem hi)
  have h2 := h.2.2 j _ (List.getElem?_eq_getElem hj)
  rw [e, h2] at h1
  simp at h1; omega
/-- one word -/
theorem one_word (c0 : Int) (n : Nat) (row : List Int) (hr : row.length = 14) (L : Nat) (hL1 : 1 ≤ L) (hL2 : L ≤ 12) (sp : Nat) (hsp : sp < L) (names : D) (k : Nat) (hk : k < 26) (o10 o11 : Option D) (T : D → Prop) :
    (sFor (iRng (eVar 3)) (gmName 10) lb_law_words_167 [some (.int c0), some (.int n), some (.lst (row.map D.int)), some (.int L), some (.int sp), some (.str "abcdefghijklmnopqrstuvwxyz"), some (.str "abcdefghijklmnopqrstuvwxyz0123456789"), some names, some (.int k), some (.str ""), o10, o11]).post
      (fun e => ∃ (l : List Nat) (o10 o11 : Option D), Nm l ∧ l[sp]? = some (97 + k) ∧ e = [some (.int c0), some (.int n), some (.lst (row.map D.int)), some (.int L), some (.int sp), some (.str "abcdefghijklmnopqrstuvwxyz"), some (.str "abcdefghijklmnopqrstuvwxyz0123456789"), some names, some (.int k), some (.str (sL l)), o10, o11]) T := by
  refine post_for (fun j e => ∃ (l : List Nat) (o10 o11 : Option D), l.length = j ∧ (∀ c ∈ l, c ∈ SIG) ∧ (0 < j → ∃ c, l[0]? = some c ∧ c ∈ LET) ∧ (sp < j → l[sp]? = some (97 + k)) ∧ e = [some (.int c0), some (.int n), some (.lst (row.map D.int)), some (.int L), some (.int sp), some (.str "abcdefghijklmnopqrstuvwxyz"), some (.str "abcdefghijklmnopqrstuvwxyz0123456789"), some names, some (.int k), some (.str (sL l)), o10, o11])
    (ds := rngD 0 L) (rng_len (by simp) (by omega)) ⟨[], o10, o11, rfl, by simp, by simp, by simp, rfl⟩ ?_ ?_
  · rintro j d e hd ⟨l, o10, o11, rfl, hS, hF, hP, rfl⟩
    obtain ⟨hj, rfl⟩ := rngD_at hd
    refine ⟨_, rfl, ?_⟩
    obtain ⟨r, hr2⟩ : ∃ r : Int, atI (row.map D.int) (2 + (l.length : Int)) = some (.int r) := by
      refine ⟨row[(2 + (l.length : Int)).toNat]'(by omega), ?_⟩
      rw [atI_pos _ (by omega), List.getElem?_map, List.getElem?_eq_getElem (by omega)]; rfl
    obtain ⟨c, hc, hcS⟩ := sig_at ((r + (k : Int) * ((l.length : Int) + 1)) % 36) (Int.emod_nonneg _ (by decide)) (Int.emod_lt_of_pos _ (by decide))
    have z36 : ("abcdefghijklmnopqrstuvwxyz0123456789" : Str).length ≤ sizeLine := by decide +kernel
    have z26 : ("abcdefghijklmnopqrstuvwxyz" : Str).length ≤ sizeLine := by decide +kernel
    let Ev : Nat → Env := fun c => [some (.int c0), some (.int n), some (.lst (row.map D.int)), some (.int L), some (.int sp), some (.str "abcdefghijklmnopqrstuvwxyz"), some (.str "abcdefghijklmnopqrstuvwxyz0123456789"), some names, some (.int k), some (.str (sL l)), some (.int l.length), some (.str ⟨#[c]⟩)]
    unfold lb_law_words_167
    refine post_cut1 (fun e => e = Ev c) ?_ ?_
    · simp [hr2, hc, z36, Ev]
      exact cm_l (by omega) (by omega)
    · rintro _ rfl
      refine post_cut1 (fun e => ∃ c, c ∈ SIG ∧ (l.length = 0 → c ∈ LET) ∧ e = Ev c) ?_ ?_
      · simp only [post_if, Ev]
        simp [notIn1]
        split
        · split
          · rename_i q
            exact ⟨hcS, fun _ => by simpa [LET] using q⟩
          · exact ⟨113, let_sig _ q_let, fun _ => q_let, rfl⟩
        · rename_i q
          exact ⟨hcS, fun h => absurd h q⟩
      · rintro _ ⟨c, hcS, hc0, rfl⟩
        refine post_cut1 (fun e => ∃ c, c ∈ SIG ∧ (l.length = 0 → c ∈ LET) ∧ (l.length = sp → c = 97 + k) ∧ e = Ev c) ?_ ?_
        · simp [Ev, let_at k hk, z26]
          split
          · exact ⟨97 + k, let_sig _ (let_mem k hk), fun _ => let_mem k hk, fun _ => rfl, rfl⟩
          · rename_i q
            exact ⟨c, hcS, fun h => hc0 (by simp [h]), fun h => absurd (by omega) q, rfl⟩
        · rintro _ ⟨c, hcS, hc0, hcs, rfl⟩
          have happ : sL l ++ (⟨#[c]⟩ : Str) = sL (l ++ [c]) := sL_app l [c]
          have hlen : (⟨#[c]⟩ : Str).length = 1 := rfl
          simp [Ev, happ, sL_len, hlen]
          refine ⟨by rw [size24]; omega, l ++ [c], by simp, ?_, ?_, ?_, rfl⟩
          · intro x hx
            rcases List.mem_append.mp hx with q | q
            · exact hS x q
            · rw [List.mem_singleton.mp q]; exact hcS
          · by_cases q : l.length = 0
            · have : l = [] := List.length_eq_zero_iff.mp q
              subst this
              exact ⟨c, rfl, hc0 rfl⟩
            · obtain ⟨c', h1, h2⟩ := hF (by omega)
              exact ⟨c', by rw [List.getElem?_append_left (by omega)]; exact h1, h2⟩
          · intro q
            by_cases q2 : sp < l.length
            · rw [List.getElem?_append_left q2]; exact hP q2
            · have e : l.length = sp := by omega
              rw [List.getElem?_append_right (by omega), ← e, Nat.sub_self]
              simp [hcs e]
  · rintro e ⟨l, o10, o11, hl, hS, hF, hP, rfl⟩
    rw [rngD_len] at hl hF hP
    exact ⟨l, o10, o11, ⟨by omega, by omega, hF (by omega), hS⟩, hP hsp, rfl⟩
theorem e_words (c0 : Int) (n : Nat) (hn : n ≤ 20) : (m_law_words [.int c0, .int n]).post fun d => ∃ (sp : Nat) (xs : List (List Nat)), d = .lst (xs.map fun l => .str (sL l)) ∧ wl n sp xs := by
  refine fnM_post rfl ?_
  have hd := e_digits c0 [12, 12, 36, 36, 36, 36, 36, 36, 36, 36, 36, 36, 36, 36] (by simp) (by simp)
  have cr : CRep 1 12 := crep1 (by decide) (by decide)
  have sz : (14 : Nat) ≤ sizeLine := by rw [size24]; decide
  simp [b_law_words, cr, sz]
  refine R.post_mono hd ?_
  rintro _ ⟨row, rfl, hdl, hb⟩
  have hr : row.length = 14 := hdl
  obtain ⟨r0, x0, x01, x02⟩ := hb.at hdl 0 (by omega)
  obtain ⟨r1, x1, x11, x12⟩ := hb.at hdl 1 (by omega)
  simp at x02 x12
  obtain ⟨L, hL⟩ := Int.eq_ofNat_of_zero_le (show 0 ≤ 1 + r0 by omega)
  have hsp0 := Int.emod_nonneg r1 (show (1 + r0) ≠ 0 by omega)
  have hsp1 := Int.emod_lt_of_pos r1 (show 0 < (1 + r0) by omega)
  obtain ⟨sp, hsp⟩ := Int.eq_ofNat_of_zero_le hsp0
  rw [hL] at hsp hsp1
  rw [hsp] at hsp1
  simp [x0, x1, hL, hsp]
  refine ⟨by omega, ?_⟩
  refine post_for (fun i e => ∃ (xs : List (List Nat)) (o8 o9 o10 o11 : Option D), wl i sp xs ∧ e = [some (.int c0), some (.int n), some (.lst (row.map D.int)), some (.int L), some (.int sp), some (.str "abcdefghijklmnopqrstuvwxyz"), some (.str "abcdefghijklmnopqrstuvwxyz0123456789"), some (.lst (xs.map fun l => .str (sL l))), o8, o9, o10, o11])
    (ds := rngD 0 n) (rng_len (by simp) (by omega)) ⟨[], none, none, none, none, ⟨rfl, by simp, by simp⟩, rfl⟩ ?_ ?_
  · rintro i d e hd ⟨xs, o8, o9, o10, o11, hw, rfl⟩
    obtain ⟨hi, rfl⟩ := rngD_at hd
    refine ⟨_, rfl, ?_⟩
    unfold lb_law_words_165
    rw [post_seq, post_set, post_c, post_seq]
    have e0 : (0 : Int) + (i : Int) = (i : Int) := by omega
    rw [e0]
    refine RS.post_mono (one_word c0 n row hr L (by omega) (by omega) sp (by omega) _ i (by omega) o10 o11 _) ?_ fun _ z => z
    rintro _ ⟨l, o10, o11, hN, hs, rfl⟩
    have hx := hw.1
    simp
    refine ⟨by rw [size24]; omega, xs ++ [l], ⟨by simp [hx], ?_, ?_⟩, by simp⟩
    · intro y hy
      rcases List.mem_append.mp hy with q | q
      · exact hw.2.1 y q
      · rw [List.mem_singleton.mp q]; exact hN
    · intro a y hy
      by_cases q : a < xs.length
      · rw [List.getElem?_append_left q] at hy
        exact hw.2.2 a y hy
      · rw [List.getElem?_append_right (by omega)] at hy
        cases hk : a - xs.length with
        | zero =>
          rw [hk] at hy
          cases hy
          have : a = i := by omega
          rw [this]; exact hs
        | succ z => rw [hk] at hy; cases hy
  · rintro e ⟨xs, o8, o9, o10, o11, hw, rfl⟩
    rw [rngD_len] at hw
    simp
    exact ⟨sp, xs, rfl, hw⟩
end MD

namespace MD
open PySem L2
section
variable (g : Nat) (ga inn nm : List D) (S : List Tr)
theorem cp_exc1 {bad : D} (h : m_is_lot [bad] = .ok (.bl false)) : m_check_places [netD g ga inn nm S, bad] = .exc "BadLot" [("lot", bad)] := by
  show (b_check_places [some (netD g ga inn nm S), some bad]).fin = _
  simp [b_check_places, sSeq, sIf, tOr', tNot', tB1, eCall, aCons, aNil, eVar, R.of, h, dB, sRaise1, RS.fin]
theorem cp_exc2 (x : Int) (h0 : 0 ≤ x) (hn : nm.length ≤ 100) (h : x / 2 ^ nm.length ≠ 0) : m_check_places [netD g ga inn nm S, .int x] = .exc "BadLot" [("lot", .int x)] := by
  show (b_check_places [some (netD g ga inn nm S), some (.int x)]).fin = _
  have z2 := lenO_of (a := eVar 0) (env := [some (netD g ga inn nm S), some (.int x)]) rfl (e_len g ga inn nm S) (by omega)
  have z3 : dShr (.int x) (.int nm.length) = .ok (.int (x / 2 ^ nm.length)) := by rw [dShr_ii]; exact when_pos (by omega) _
  simp [b_check_places, sSeq, sIf, tOr', tNot', tB1, eCall, aCons, aNil, eVar, R.of, e_is_lot_i, h0, dB, sRaise1, RS.fin, e2, z2, z3, eC, h]
theorem cq_exc1 {bad : D} (h : m_is_lot [bad] = .ok (.bl false)) : m_check_proper [netD g ga inn nm S, bad] = .exc "BadLot" [("lot", bad)] := by
  show (b_check_proper [some (netD g ga inn nm S), some bad]).fin = _
  simp [b_check_proper, sSeq, sIf, tOr', tNot', tB1, eCall, aCons, aNil, eVar, R.of, h, dB, sRaise1, RS.fin]
theorem cq_exc2 (hg : g ≤ 100) (x : Int) (h0 : 0 ≤ x) (h : ¬ (0 < x ∧ x < 2 ^ g - 1)) : m_check_proper [netD g ga inn nm S, .int x] = .exc "BadLot" [("lot", .int x)] := by
  show (b_check_proper [some (netD g ga inn nm S), some (.int x)]).fin = _
  by_cases q : 0 < x
  · have q2 : ¬ x < 2 ^ g - 1 := fun z => h ⟨q, z⟩
    simp [b_check_proper, sSeq, sIf, tOr', tNot', tB1, eCall, aCons, aNil, eVar, R.of, e_is_lot_i, h0, dB, sRaise1, RS.fin, eC, eChain, e_gate_lot g ga inn nm S hg, q, q2]
  · simp [b_check_proper, sSeq, sIf, tOr', tNot', tB1, eCall, aCons, aNil, eVar, R.of, e_is_lot_i, h0, dB, sRaise1, RS.fin, eC, eChain, q]
variable {bad : D}
theorem x_leaving (h : m_check_places [netD g ga inn nm S, bad] = .exc "BadLot" [("lot", bad)]) : m_leaving [netD g ga inn nm S, bad] = .exc "BadLot" [("lot", bad)] := by
  show (b_leaving [some (netD g ga inn nm S), some bad]).fin = _
  simp [b_leaving, sSeq, sDrop, eCall, aCons, aNil, eVar, R.of, h, RS.fin]
theorem x_coming (h : m_check_places [netD g ga inn nm S, bad] = .exc "BadLot" [("lot", bad)]) : m_coming [netD g ga inn nm S, bad] = .exc "BadLot" [("lot", bad)] := by
  show (b_coming [some (netD g ga inn nm S), some bad]).fin = _
  simp [b_coming, sSeq, sDrop, eCall, aCons, aNil, eVar, R.of, h, RS.fin]
theorem x_outward (h : m_check_proper [netD g ga inn nm S, bad] = .exc "BadLot" [("lot", bad)]) : m_outward [netD g ga inn nm S, bad] = .exc "BadLot" [("lot", bad)] := by
  show (b_outward [some (netD g ga inn nm S), some bad]).fin = _
  simp [b_outward, sSeq, sDrop, eCall, aCons, aNil, eVar, R.of, h, RS.fin]
theorem x_inward (h : m_check_proper [netD g ga inn nm S, bad] = .exc "BadLot" [("lot", bad)]) : m_inward [netD g ga inn nm S, bad] = .exc "BadLot" [("lot", bad)] := by
  show (b_inward [some (netD g ga inn nm S), some bad, none]).fin = _
  simp [b_inward, sSeq, sDrop, eCall, aCons, aNil, eVar, R.of, h, RS.fin]
theorem refused_of (a : Int) (hq : dEq (.lst [bad]) (.lst [bad]) = .ok (.bl true))
    (h : (a = 0 ∧ m_leaving [netD g ga inn nm S, bad] = .exc "BadLot" [("lot", bad)]) ∨ (a = 1 ∧ m_coming [netD g ga inn nm S, bad] = .exc "BadLot" [("lot", bad)]) ∨ (a = 2 ∧ m_outward [netD g ga inn nm S, bad] = .exc "BadLot" [("lot", bad)]) ∨ (a = 3 ∧ m_inward [netD g ga inn nm S, bad] = .exc "BadLot" [("lot", bad)])) :
    m_law_refused [netD g ga inn nm S, bad, .int a] = .ok (.bl true) := by
  show (b_law_refused [some (netD g ga inn nm S), some bad, some (.int a), none]).fin = _
  have t1 : tb_BadLot.lookup ("BadLot" : Str) = some true := by decide
  have t2 : tb_TownError.lookup ("BadLot" : Str) = some true := by decide
  have t3 : tb_Unbalanced.lookup ("BadLot" : Str) = some false := by decide
  have t4 : ("BadLot" : Str) ∈ xs_lot := by decide
  rcases h with ⟨rfl, h⟩ | ⟨rfl, h⟩ | ⟨rfl, h⟩ | ⟨rfl, h⟩ <;>
  simp [b_law_refused, sSeq, sTry, sIf, sDrop, eCall, aCons, aNil, eVar, R.of, h, tB1, e2, eC, dB, t1, t2, t3, t4, RS.when, hRet, sRet, hAnd, eAnd, hIs, hNot, eNot, h2, hLst, eLst, hCons, hNil, hFld, hOf, hq, RS.wipe, RS.fin]
end
end MD

namespace MD
open PySem L2
theorem fm_congr {α β : Type} {f g : α → Option β} : ∀ {l : List α}, (∀ t ∈ l, f t = g t) → l.filterMap f = l.filterMap g
  | [], _ => rfl
  | t :: l, h => by rw [List.filterMap_cons, List.filterMap_cons, h t List.mem_cons_self, fm_congr fun u hu => h u (List.mem_cons_of_mem _ hu)]
theorem fm_ws (c : Int → Int → Bool) : ∀ S : List Tr, (S.filterMap fun t => if c t.1 t.2.1 = true then some t.2.2 else none).sum = ws c S
  | [] => rfl
  | t :: S => by
    have ih := fm_ws c S
    unfold ws at ih ⊢
    rw [List.filterMap_cons, List.map_cons, List.sum_cons, ← ih]
    by_cases q : c t.1 t.2.1 = true <;> simp [q]
theorem lv_ws (S : List Tr) (lot : Int) : lv S lot = ws (fun a b => decide (bitI lot a = 1 ∧ bitI lot b = 0)) S := by
  rw [← fm_ws]; unfold lv; congr 1
  congr 1; funext t; unfold lvF; simp
theorem cm_ws (S : List Tr) (lot : Int) : cm S lot = ws (fun a b => decide (bitI lot a = 0 ∧ bitI lot b = 1)) S := by
  rw [← fm_ws]; unfold cm; congr 1
  congr 1; funext t; unfold cmF; simp
theorem lv_same {M S : List Tr} (h : ∀ c, ws c M = ws c S) : lv M = lv S := by funext lot; rw [lv_ws, lv_ws, h]
theorem cm_same {M S : List Tr} (h : ∀ c, ws c M = ws c S) : cm M = cm S := by funext lot; rw [cm_ws, cm_ws, h]
theorem bitI_nat (y a : Nat) : bitI (y : Int) (a : Int) = if y.testBit a = true then 1 else 0 := by
  unfold bitI
  rw [Nat.testBit_eq_decide_div_mod_eq]
  have e : ((y : Int) / 2 ^ (a : Int).toNat % 2) = ((y / 2 ^ a % 2 : Nat) : Int) := by simp
  rw [e]
  have h := Nat.mod_two_eq_zero_or_one (y / 2 ^ a)
  rcases h with h | h <;> simp [h]
theorem bit_compl (n : Nat) {x y : Int} (hx : 0 ≤ x) (hy : 0 ≤ y) (h : x + y = 2 ^ n - 1) {a : Int} (h0 : 0 ≤ a) (h1 : a < n) : bitI x a = 1 - bitI y a := by
  obtain ⟨x, rfl⟩ := Int.eq_ofNat_of_zero_le hx
  obtain ⟨y, rfl⟩ := Int.eq_ofNat_of_zero_le hy
  obtain ⟨a, rfl⟩ := Int.eq_ofNat_of_zero_le h0
  have e : x + y + 1 = 2 ^ n := by
    have : ((x + y + 1 : Nat) : Int) = ((2 ^ n : Nat) : Int) := by push_cast; omega
    exact_mod_cast this
  have ex : x = 2 ^ n - (y + 1) := by omega
  rw [bitI_nat, bitI_nat, ex, Nat.testBit_two_pow_sub_succ (by omega)]
  have : a < n := by omega
  by_cases q : y.testBit a = true <;> simp [q, this]
theorem lv_compl (n : Nat) {S : List Tr} (hS : ∀ t ∈ S, 0 ≤ t.1 ∧ t.1 < n ∧ 0 ≤ t.2.1 ∧ t.2.1 < n) {x y : Int} (hx : 0 ≤ x) (hy : 0 ≤ y) (h : x + y = 2 ^ n - 1) : lv S x = cm S y := by
  unfold lv cm
  congr 1
  refine fm_congr fun t ht => ?_
  obtain ⟨h1, h2, h3, h4⟩ := hS t ht
  unfold lvF cmF
  rw [bit_compl n hx hy h h1 h2, bit_compl n hx hy h h3 h4]
  rcases bitI_01 y t.1 with c1 | c1 <;> rcases bitI_01 y t.2.1 with c2 | c2 <;> simp [c1, c2]
theorem lots_compl (g m : Nat) {S : List Tr} (hS : ∀ t ∈ S, 0 ≤ t.1 ∧ t.1 < (g + m : Nat) ∧ 0 ≤ t.2.1 ∧ t.2.1 < (g + m : Nat)) {lot : Int} (h0 : 0 ≤ lot) (h1 : lot ≤ 2 ^ g - 1) :
    (lots g m (2 ^ g - 1 - lot)).map (lv S) = ((lots g m lot).map (cm S)).reverse ∧ (lots g m (2 ^ g - 1 - lot)).map (cm S) = ((lots g m lot).map (lv S)).reverse := by
  have key : ∀ p : Nat, p < 2 ^ m → (2 ^ g - 1 - lot + (p : Int) * 2 ^ g) + (lot + ((2 ^ m - 1 - p : Nat) : Int) * 2 ^ g) = 2 ^ (g + m) - 1 := fun p hp => by
    have e1 : ((2 ^ m - 1 - p : Nat) : Int) = 2 ^ m - 1 - (p : Int) := by
      have : ((2 ^ m : Nat) : Int) = 2 ^ m := by push_cast; rfl
      omega
    have e2 : (2 : Int) ^ (g + m) = 2 ^ m * 2 ^ g := by rw [Int.pow_add, Int.mul_comm]
    rw [e1, e2]
    generalize (2 : Int) ^ m = P
    generalize (2 : Int) ^ g = G
    rw [Int.sub_mul, Int.sub_mul]
    omega
  have nn : ∀ (z : Int) (p : Nat), 0 ≤ z → 0 ≤ z + (p : Int) * 2 ^ g := fun z p hz => Int.add_nonneg hz (Int.mul_nonneg (by omega) (Int.pow_nonneg (by decide)))
  constructor
  · refine List.ext_getElem (by simp [lots]) fun p h1' h2' => ?_
    have hp : p < 2 ^ m := by simpa [lots] using h1'
    simp only [lots, List.map_map, List.getElem_map, List.getElem_range, List.getElem_reverse, Function.comp, List.length_map, List.length_range]
    exact lv_compl (g + m) hS (nn _ _ (by omega)) (nn _ _ h0) (key p hp)
  · refine List.ext_getElem (by simp [lots]) fun p h1' h2' => ?_
    have hp : p < 2 ^ m := by simpa [lots] using h1'
    simp only [lots, List.map_map, List.getElem_map, List.getElem_range, List.getElem_reverse, Function.comp, List.length_map, List.length_range]
    exact (lv_compl (g + m) hS (nn _ _ h0) (nn _ _ (by omega)) (by have := key p hp; omega)).symm
theorem min_rev {l : List Int} {x : Int} (h : l.min? = some x) : l.reverse.min? = some x := by
  rw [List.min?_eq_some_iff] at h ⊢
  exact ⟨by simpa using h.1, fun b hb => h.2 b (by simpa using hb)⟩
theorem min_ex {l : List Int} (h : l ≠ []) : ∃ x, l.min? = some x := by
  cases e : l.min? with
  | some x => exact ⟨x, rfl⟩
  | none => exact absurd (List.min?_eq_none_iff.mp e) h
end MD

namespace MD
open PySem L2
theorem sum_map_add {α : Type} (f g : α → Int) : ∀ l : List α, (l.map fun x => f x + g x).sum = (l.map f).sum + (l.map g).sum
  | [] => by simp
  | x :: l => by simp [sum_map_add f g l]; omega
theorem sum_zero {α : Type} {f : α → Int} : ∀ {l : List α}, (∀ x ∈ l, f x = 0) → (l.map f).sum = 0
  | [], _ => by simp
  | x :: l, h => by
    have := sum_zero (l := l) fun y hy => h y (List.mem_cons_of_mem _ hy)
    simp [this, h x List.mem_cons_self]
theorem sum_ind (h : Int → Int) : ∀ (n : Nat) (a : Int), 0 ≤ a → a < n → ((List.range n).map fun (p : Nat) => if a = (p : Int) then h p else 0).sum = h a
  | 0, a, h0, h1 => by omega
  | n + 1, a, h0, h1 => by
    rw [List.range_succ, List.map_append, List.sum_append]
    by_cases q : a = (n : Int)
    · rw [sum_zero (fun x hx => by have := List.mem_range.mp hx; rw [if_neg (by omega)])]
      simp [q]
    · rw [sum_ind h n a h0 (by omega)]
      simp [q]
def hs (S : List Tr) (L : Int) (n : Nat) : Int := ((List.range n).map fun (p : Nat) => if bitI L p = 1 then outS S p - inS S p else 0).sum
theorem out_cons (t : Tr) (S : List Tr) (p : Int) : outS (t :: S) p = (if t.1 = p then t.2.2 else 0) + outS S p := by
  unfold outS; rw [List.filterMap_cons]
  by_cases q : t.1 = p <;> simp [q]
theorem in_cons (t : Tr) (S : List Tr) (p : Int) : inS (t :: S) p = (if t.2.1 = p then t.2.2 else 0) + inS S p := by
  unfold inS; rw [List.filterMap_cons]
  by_cases q : t.2.1 = p <;> simp [q]
theorem handshake (n : Nat) (L : Int) : ∀ {S : List Tr}, (∀ t ∈ S, 0 ≤ t.1 ∧ t.1 < n ∧ 0 ≤ t.2.1 ∧ t.2.1 < n) → lv S L - cm S L = hs S L n
  | [], _ => by
    have : hs [] L n = 0 := sum_zero fun p hp => by simp [outS, inS]
    rw [this]; rfl
  | t :: S, h => by
    have ih := handshake n L (S := S) fun u hu => h u (List.mem_cons_of_mem _ hu)
    obtain ⟨a0, a1, b0, b1⟩ := h t List.mem_cons_self
    have i1 := sum_ind (fun p => if bitI L p = 1 then t.2.2 else 0) n t.1 a0 a1
    have i2 := sum_ind (fun p => if bitI L p = 1 then -t.2.2 else 0) n t.2.1 b0 b1
    have e : hs (t :: S) L n = (((List.range n).map fun (p : Nat) => if t.1 = (p : Int) then (if bitI L p = 1 then t.2.2 else 0) else 0).sum + ((List.range n).map fun (p : Nat) => if t.2.1 = (p : Int) then (if bitI L p = 1 then -t.2.2 else 0) else 0).sum) + hs S L n := by
      unfold hs
      rw [← sum_map_add, ← sum_map_add]
      congr 1
      refine List.map_congr_left fun p _ => ?_
      rw [out_cons, in_cons]
      by_cases q1 : bitI L p = 1 <;> by_cases q2 : t.1 = (p : Int) <;> by_cases q3 : t.2.1 = (p : Int) <;> simp [q1, q2, q3] <;> omega
    rw [e, i1, i2, ← ih]
    unfold lv cm
    rw [List.filterMap_cons, List.filterMap_cons]
    unfold lvF cmF
    rcases bitI_01 L t.1 with c1 | c1 <;> rcases bitI_01 L t.2.1 with c2 | c2 <;> simp [c1, c2] <;> omega
theorem bit_low {g p q : Nat} (lot : Int) (hp : p < g) : bitI (lot + (q : Int) * 2 ^ g) p = bitI lot p := by
  unfold bitI
  have e : (2 : Int) ^ g = 2 * 2 ^ (g - p - 1) * 2 ^ p := by
    rw [Int.mul_assoc, ← Int.pow_add, Int.mul_comm, ← Int.pow_succ]
    congr 1; omega
  rw [Int.toNat_natCast, e, ← Int.mul_assoc, Int.add_mul_ediv_right _ _ (Int.ne_of_gt (Int.pow_pos (show (0 : Int) < 2 by decide)))]
  have e2 : (q : Int) * (2 * 2 ^ (g - p - 1)) = 2 * ((q : Int) * 2 ^ (g - p - 1)) := by
    rw [← Int.mul_assoc, Int.mul_comm (q : Int) 2, Int.mul_assoc]
  rw [e2]
  omega
theorem gap_const (g m : Nat) {S : List Tr} (hS : ∀ t ∈ S, 0 ≤ t.1 ∧ t.1 < (g + m : Nat) ∧ 0 ≤ t.2.1 ∧ t.2.1 < (g + m : Nat)) (hb : ∀ p : Nat, g ≤ p → p < g + m → outS S p = inS S p) (lot : Int) (q : Nat) :
    lv S (lot + (q : Int) * 2 ^ g) - cm S (lot + (q : Int) * 2 ^ g) = hs S lot g := by
  rw [handshake (g + m) _ hS]
  unfold hs
  rw [List.range_add, List.map_append, List.sum_append, List.map_map]
  rw [sum_zero (l := List.range m) (fun x hx => by
    have := List.mem_range.mp hx
    have e := hb (g + x) (by omega) (by omega)
    simp only [Function.comp]
    rw [e]; simp)]
  rw [Int.add_zero]
  congr 1
  refine List.map_congr_left fun p hp => ?_
  rw [bit_low lot (List.mem_range.mp hp)]
theorem pyL_ints : ∀ ns : List Int, pyL (ns.map D.int) = ns.map PyData.int
  | [] => rfl
  | n :: ns => by
    have := pyL_ints ns
    show (D.int n).py :: pyL (ns.map D.int) = _
    rw [this]; rfl
theorem plL_ints : ∀ ns : List Int, plL (ns.map D.int) = true
  | [] => rfl
  | n :: ns => by
    have := plL_ints ns
    show ((D.int n).pl && plL (ns.map D.int)) = true
    rw [this]; rfl
theorem lay_ints : ∀ ns : List Int, PyData.canLayAll0 (ns.map PyData.int) = true
  | [] => rfl
  | n :: ns => by
    have := lay_ints ns
    simp only [List.map_cons, PyData.canLayAll0, this]; rfl
theorem dep_ints : ∀ ns : List Int, PyData.depthAll (ns.map PyData.int) = 0
  | [] => rfl
  | n :: ns => by
    have := dep_ints ns
    simp only [List.map_cons, PyData.depthAll, this]; rfl
theorem dNe_self (ns : List Int) : dNe (.lst (ns.map D.int)) (.lst (ns.map D.int)) = .ok (.bl false) := by
  have p : (D.lst (ns.map D.int)).py = .list (ns.map PyData.int) := by
    show PyData.list (pyL (ns.map D.int)) = _
    rw [pyL_ints]
  have s : SeqAt.shaped (.list (ns.map PyData.int)) = true := by
    unfold SeqAt.shaped
    have h1 : PyData.canLay0 (.list (ns.map PyData.int)) = true := lay_ints ns
    have h2 : PyData.depth (.list (ns.map PyData.int)) = 1 := by
      show PyData.depthAll (ns.map PyData.int) + 1 = 1
      rw [dep_ints]
    rw [h1, h2]; rfl
  have q : PyData.eqv (.list (ns.map PyData.int)) (.list (ns.map PyData.int)) = true := SeqAt.eqv_refl _ (lay_ints ns)
  have pl : (D.lst (ns.map D.int)).pl = true := plL_ints ns
  have e : dEqB (.lst (ns.map D.int)) (.lst (ns.map D.int)) = R.when ((D.lst (ns.map D.int)).pl = true ∧ (D.lst (ns.map D.int)).pl = true ∧ SeqAt.shaped (D.lst (ns.map D.int)).py = true ∧ SeqAt.shaped (D.lst (ns.map D.int)).py = true) (.ok (PyData.eqv (D.lst (ns.map D.int)).py (D.lst (ns.map D.int)).py)) := rfl
  unfold dNe
  rw [e, when_pos ⟨pl, pl, by rw [p]; exact s, by rw [p]; exact s⟩, p, q]
  rfl
theorem fm_map {α β : Type} (f : α → β) : ∀ l : List α, (l.filterMap fun x => some (f x)) = l.map f
  | [] => rfl
  | x :: l => by rw [List.filterMap_cons, fm_map f l]; rfl
theorem fm_sum {α : Type} (c : α → Bool) (f : α → Int) : ∀ l : List α, ((l.filterMap fun p => if c p = true then some p else none).map f).sum = (l.map fun p => if c p = true then f p else 0).sum
  | [] => rfl
  | x :: l => by
    have ih := fm_sum c f l
    rw [List.filterMap_cons, List.map_cons, List.sum_cons, ← ih]
    by_cases q : c x = true <;> simp [q]
/-! the law's own test of a lot -/
theorem whole_i (i : Int) : m_law_whole [.int i] = .ok (.bl true) := rfl
theorem e_lot_holds (g m : Nat) (hg1 : 2 ≤ g) (hg2 : g ≤ 6) (hm : m ≤ 5) (ga inn nm : List D) (hn : nm.length = g + m) (S M : List Tr) (hS : Fit ((g + m : Nat) : Int) 1500000 S) (hl : S.length ≤ 100) (hM : Pl M) (hMl : M.length ≤ 100000) (hw : ∀ c, ws c M = ws c S)
    (lot : Int) (h0 : 0 < lot) (h1 : lot < 2 ^ g - 1) (ev : Bool) (hev : ev = true → ∀ p : Nat, g ≤ p → p < g + m → outS S p = inS S p) :
    m_law_lot_holds [netD g ga inn nm M, rawD g (g + m) S, .int lot, .bl ev] = .ok (.bl true) := by
  have hP : Pl S := fun t ht => by have := hS t ht; omega
  have hS' : ∀ t ∈ S, 0 ≤ t.1 ∧ t.1 < (g + m : Nat) ∧ 0 ≤ t.2.1 ∧ t.2.1 < (g + m : Nat) := fun t ht => by have := hS t ht; omega
  have hne : ∀ f : Int → Int, (lots g m lot).map f ≠ [] := fun f z => by
    have := congrArg List.length z
    simp [lots] at this
  obtain ⟨x, hx⟩ := min_ex (hne (lv S))
  obtain ⟨y, hy⟩ := min_ex (hne (cm S))
  obtain ⟨c1, c2⟩ := lots_compl g m hS' (Int.le_of_lt h0) (show lot ≤ 2 ^ g - 1 by omega)
  have ho := e_outs g m (by omega) (by omega) S hP (by omega) lot
  have hi := e_ins g m (by omega) (by omega) S hP (by omega) lot
  have o1 := e_outward g ga inn nm M m hg1 hg2 hm hn hM hMl lot h0 h1 x (by rw [lv_same hw]; exact hx)
  have i1 := e_inward g ga inn nm M m hg1 hg2 hm hn hM hMl lot h0 h1 y (by rw [cm_same hw]; exact hy)
  have o2 := e_outward g ga inn nm M m hg1 hg2 hm hn hM hMl (2 ^ g - 1 - lot) (by omega) (by omega) y (by rw [lv_same hw, c1]; exact min_rev hy)
  have i2 := e_inward g ga inn nm M m hg1 hg2 hm hn hM hMl (2 ^ g - 1 - lot) (by omega) (by omega) x (by rw [cm_same hw, c2]; exact min_rev hx)
  have mo : dMin (.lst (((lots g m lot).map (lv S)).map D.int)) = .ok (.int x) := by rw [dMin_l, hx]; rfl
  have mi : dMin (.lst (((lots g m lot).map (cm S)).map D.int)) = .ok (.int y) := by rw [dMin_l, hy]; rfl
  have hAl : ((lots g m lot).map (lv S)).length = 2 ^ m := by simp [lots]
  have hBl : ((lots g m lot).map (cm S)).length = 2 ^ m := by simp [lots]
  have hAt : ∀ k : Nat, k < 2 ^ m → ((lots g m lot).map (lv S))[k]? = some (lv S (lot + (k : Int) * 2 ^ g)) := fun k hk => by simp [lots, hk]
  have hBt : ∀ k : Nat, k < 2 ^ m → ((lots g m lot).map (cm S))[k]? = some (cm S (lot + (k : Int) * 2 ^ g)) := fun k hk => by simp [lots, hk]
  generalize hA : (lots g m lot).map (lv S) = A at *
  generalize hB : (lots g m lot).map (cm S) = B at *
  have hp2 : 2 ^ m ≤ 2 ^ 5 := Nat.pow_le_pow_right (by decide) hm
  have hp1 : 0 < 2 ^ m := Nat.pow_pos (by decide)
  have r0 : dIx (rawD g (g + m) S) (.int 0) = .ok (.int g) := rfl
  have ne2 : dNe (.lst [.int x, .int y]) (.lst [.int x, .int y]) = .ok (.bl false) := dNe_self [x, y]
  refine R.post_eq (fnM_post rfl ?_)
  simp [b_law_lot_holds, r0, ho, hi, o1, i1, whole_i, mo, mi, ne2, o2, i2]
  refine ⟨cpow1 (by omega) (by omega), fun he => ?_⟩
  have hb := hev he
  generalize hG : hs S lot g = G
  have gc : ∀ k : Nat, k < 2 ^ m → ∃ u v, A[k]? = some u ∧ B[k]? = some v ∧ u - v = G := fun k hk => ⟨_, _, hAt k hk, hBt k hk, by rw [← hG]; exact gap_const g m hS' hb lot k⟩
  have xy : x - y = G := by
    rw [List.min?_eq_some_iff] at hx hy
    obtain ⟨i, hi, ei⟩ := List.mem_iff_getElem.mp hx.1
    obtain ⟨j, hj, ej⟩ := List.mem_iff_getElem.mp hy.1
    obtain ⟨u1, v1, a1, b1, e1⟩ := gc i (by omega)
    obtain ⟨u2, v2, a2, b2, e2⟩ := gc j (by omega)
    have q1 : u1 = x := by rw [List.getElem?_eq_getElem hi] at a1; rw [← ei]; exact (Option.some.inj a1).symm
    have q2 : v2 = y := by rw [List.getElem?_eq_getElem hj] at b2; rw [← ej]; exact (Option.some.inj b2).symm
    have q3 := hx.2 u2 (List.mem_of_getElem? a2)
    have q4 := hy.2 v1 (List.mem_of_getElem? b1)
    omega
  refine post_lcM (fun k => some G) D.int (List.range (2 ^ m)) (fun (k : Nat) => D.int (k : Int)) (rng_len (n := 2 ^ m) ?_ (by omega)) (by simp [rngD]) (by simp; omega) (fun k hk => ⟨_, rfl, ?_⟩) ?_
  · simp [hAl]
  · obtain ⟨u, v, e1, e2, e3⟩ := gc k (List.mem_range.mp hk)
    simp [wipeE, e1, e2, e3]
  have eg : ((List.range (2 ^ m)).filterMap fun _ => some G) = List.replicate (2 ^ m) G := by
    rw [fm_map (fun _ => G)]
    simp [List.map_const']
  rw [eg]
  have g0 : dIx (.lst ((List.replicate (2 ^ m) G).map D.int)) (.int 0) = .ok (.int G) := by
    rw [dIx_l, atI_0, List.getElem?_map, List.getElem?_replicate, if_pos hp1]; rfl
  have gl : dLen (.lst ((List.replicate (2 ^ m) G).map D.int)) = .ok (.int ((2 ^ m : Nat) : Int)) := by rw [dLen_l]; simp
  have gm : dMul (.lst [.int G]) (.int ((2 ^ m : Nat) : Int)) = .ok (.lst ((List.replicate (2 ^ m) G).map D.int)) := by
    rw [dMul_li]
    rw [when_pos (by exact crep1 (by omega) (by omega)), Int.toNat_natCast, rep1]
  rw [g0, R.post_ok, gl, R.post_ok, gm, R.post_ok, dNe_self, R.post_ok, post_dB]
  refine ⟨rfl, ?_⟩
  refine post_lcM (fun (p : Nat) => if decide (bitI lot p = 1) = true then some p else none) (fun (p : Nat) => D.int (p : Int)) (List.range g) (fun (k : Nat) => D.int (k : Int)) (rng_len (n := g) ?_ (by omega)) (by simp [rngD]) (by simp; omega) (fun k hk => ⟨_, rfl, ?_⟩) ?_
  · simp [r0]
  · have hk2 := List.mem_range.mp hk
    simp [wipeE, e_bit lot (k : Int) (by omega) (by omega)]
    by_cases q : bitI lot k = 1 <;> simp [q]
  rw [R.post_ok]
  refine post_lcM (fun (p : Nat) => some (outS S p - inS S p)) D.int ((List.range g).filterMap fun (p : Nat) => if decide (bitI lot p = 1) = true then some p else none) (fun (k : Nat) => D.int (k : Int)) (seq_of (by simp)) rfl ?_ (fun k hk => ⟨_, rfl, ?_⟩) ?_
  · refine Nat.le_trans (List.length_filterMap_le _ _) ?_
    simp; omega
  · have r2 : dIx (rawD g (g + m) S) (.int 2) = .ok (.lst (S.map trL)) := rfl
    simp [wipeE, r2, e_out S (by omega), e_in S (by omega)]
  have es : (((List.range g).filterMap fun (p : Nat) => if decide (bitI lot p = 1) = true then some p else none).filterMap fun (p : Nat) => some (outS S p - inS S p)).sum = G := by
    rw [fm_map, fm_sum (fun p : Nat => decide (bitI lot p = 1)) (fun p : Nat => outS S p - inS S p), ← hG]
    have z : ((List.range g).map fun (p : Nat) => if decide (bitI lot p = 1) = true then outS S p - inS S p else 0) = (List.range g).map fun (p : Nat) => if bitI lot p = 1 then outS S p - inS S p else 0 := List.map_congr_left fun p _ => by by_cases q : bitI lot p = 1 <;> simp [q]
    rw [z]
    rfl
  rw [dSum_l, R.post_ok, es, dNe_ii, R.post_ok, post_dB]
  refine ⟨by simp, ?_⟩
  refine post_lcM (fun (p : Nat) => if A[p]? = some x then some p else none) (fun (p : Nat) => D.int (p : Int)) (List.range (2 ^ m)) (fun (k : Nat) => D.int (k : Int)) (rng_len (n := 2 ^ m) ?_ (by omega)) (by simp [rngD]) (by simp; omega) (fun k hk => ⟨_, rfl, ?_⟩) ?_
  · simp [hAl]
  · obtain ⟨u, v, e1, e2, e3⟩ := gc k (List.mem_range.mp hk)
    simp [wipeE, e1, mo]
    by_cases q : u = x <;> simp [q]
  refine post_lcM (fun (p : Nat) => if B[p]? = some y then some p else none) (fun (p : Nat) => D.int (p : Int)) (List.range (2 ^ m)) (fun (k : Nat) => D.int (k : Int)) (rng_len (n := 2 ^ m) ?_ (by omega)) (by simp [rngD]) (by simp; omega) (fun k hk => ⟨_, rfl, ?_⟩) ?_
  · simp [hBl]
  · obtain ⟨u, v, e1, e2, e3⟩ := gc k (List.mem_range.mp hk)
    simp [wipeE, e2, mi]
    by_cases q : v = y <;> simp [q]
  have ee : ((List.range (2 ^ m)).filterMap fun (p : Nat) => if A[p]? = some x then some p else none) = ((List.range (2 ^ m)).filterMap fun (p : Nat) => if B[p]? = some y then some p else none) := fm_congr fun k hk => by
    obtain ⟨u, v, e1, e2, e3⟩ := gc k (List.mem_range.mp hk)
    rw [e1, e2]
    have : u = x ↔ v = y := by omega
    by_cases q : u = x
    · simp [q, this.mp q]
    · have q' : ¬ v = y := fun z => q (this.mpr z)
      simp [q, q']
  rw [ee]
  have := dNe_self (((List.range (2 ^ m)).filterMap fun (p : Nat) => if B[p]? = some y then some p else none).map fun (p : Nat) => (p : Int))
  rw [List.map_map] at this
  have h2 : dNe (.lst (((List.range (2 ^ m)).filterMap fun (p : Nat) => if B[p]? = some y then some p else none).map fun (p : Nat) => D.int (p : Int))) (.lst (((List.range (2 ^ m)).filterMap fun (p : Nat) => if B[p]? = some y then some p else none).map fun (p : Nat) => D.int (p : Int))) = .ok (.bl false) := this
  rw [h2, R.post_ok, post_dB]
end MD

namespace MD
open PySem L2
theorem cut_take (ds : List D) (g : Nat) (h : g ≤ ds.length) : cutD ds none (some (g : Int)) = ds.take g := by
  unfold cutD
  rw [HT.sIx_nat]
  show (ds.drop 0).take (min g ds.length - 0) = _
  rw [List.drop_zero, Nat.sub_zero, Nat.min_eq_left h]
theorem cut_drop (ds : List D) (g : Nat) (h : g ≤ ds.length) : cutD ds (some (g : Int)) none = ds.drop g := by
  unfold cutD
  rw [HT.sIx_nat, Nat.min_eq_left h]
  show (ds.drop g).take (ds.length - g) = _
  rw [List.take_of_length_le (by simp)]
theorem main_law (ns : List Int) (hn : ns.length ≤ 63) : m_law [.scr (ns.map D.int)] = .ok (.bl true) := by
  refine R.post_eq (fnM_post rfl ?_)
  obtain ⟨_, hc15, c15, rfl⟩ := R.post_ex (e_cell ns hn 15 (by decide) (by decide))
  obtain ⟨_, hc16, c16, rfl⟩ := R.post_ex (e_cell ns hn 16 (by decide) (by decide))
  obtain ⟨_, hc17, c17, rfl⟩ := R.post_ex (e_cell ns hn 17 (by decide) (by decide))
  obtain ⟨_, hc18, c18, rfl⟩ := R.post_ex (e_cell ns hn 18 (by decide) (by decide))
  obtain ⟨_, hc19, c19, rfl⟩ := R.post_ex (e_cell ns hn 19 (by decide) (by decide))
  obtain ⟨_, hk, ks, rfl, hkl, hkb⟩ := R.post_ex (e_digits c15 [16, 3, 7] (by simp) (by simp))
  obtain ⟨k0, x0, x01, x02⟩ := hkb.at hkl 0 (by simp at hkl; omega)
  obtain ⟨k1, x1, x11, x12⟩ := hkb.at hkl 1 (by simp at hkl; omega)
  obtain ⟨k2, x2, x21, x22⟩ := hkb.at hkl 2 (by simp at hkl; omega)
  simp at x02 x12 x22
  have hk' : m_law_digits [.int c15, .lst [.int 16, .int 3, .int 7]] = .ok (.lst (ks.map D.int)) := hk
  obtain ⟨_, hr, g, m, S, rfl, hg1, hg2, hm, hSl, fS⟩ := R.post_ex (e_one_net ns hn (decide (k0 = 3)))
  unfold b_law
  refine post_cut3 (fun e => ∃ (S : List Tr), S.length ≤ 30 ∧ Fit ((g : Int) + m) 1500000 S ∧ e = [some (.scr (ns.map D.int)), some (.lst (ks.map D.int)), some (rawD g (g + m) S), none, none, none, none, none, none, none, none, none, none, none, none]) ?_ ?_
  · simp [hc15, hk', x0, x1, hr]
    split
    · refine R.post_mono (e_balanced g m hg1 hg2 hm S hSl (by simpa using fS)) ?_
      rintro _ ⟨S', rfl, h1, h2⟩
      exact ⟨S', h1, h2, rfl⟩
    · exact ⟨S, by omega, fun t ht => by have := fS t ht; push_cast at this; omega, rfl⟩
  rintro _ ⟨S, hSl, fS, rfl⟩
  have fS' : Fit ((g + m : Nat) : Int) 1500000 S := by push_cast; exact fS
  obtain ⟨_, hw, sp, xs, rfl, wlx⟩ := R.post_ex (e_words c16 (g + m) (by omega))
  obtain ⟨_, hp, P, rfl, hPl, pc⟩ := R.post_ex (e_pieces g (g + m) S c17 hSl (fun t ht => by have := fS t ht; omega))
  have hxl : xs.length = g + m := wlx.1
  have hxx : xs.take g ++ xs.drop g = xs := List.take_append_drop g xs
  have hVs : Vs ((xs.take g ++ xs.drop g).length : Nat) P := fun t ht => by
    obtain ⟨h1, s, hs, e1, e2⟩ := pc.ok t ht
    have := fS s hs
    rw [hxx, hxl]
    push_cast
    rw [e1, e2] at this
    omega
  obtain ⟨_, hmk, ga, inn, M, rfl, hMl, hMp, hMw⟩ := R.post_ex (e_make (xs.take g) (xs.drop g) P (by rw [hxx]; exact wlx.2.1) (by rw [hxx]; exact wl_nd wlx) (by rw [hxx]; omega) hVs hPl)
  rw [hxx, List.length_take, Nat.min_eq_left (by omega)] at hmk
  generalize hnm : (xs.map fun l => D.str (sL l)) = nm at hmk hw
  have hnl : nm.length = g + m := by rw [← hnm]; simp [hxl]
  have hPM : Pl M := fun t ht => by
    obtain ⟨e, he, e1, e2⟩ := hMp t ht
    have := hVs e he
    rw [hxx, hxl] at this
    push_cast at this
    rw [e1, e2] at this
    omega
  have hPS : Pl S := fun t ht => by have := fS t ht; omega
  have hw2 : ∀ c, ws c M = ws c S := fun c => (hMw c).trans (pc.sm c)
  have sl1 : dSl (.lst nm) none (some (g : Int)) = .ok (.lst ((xs.take g).map fun l => .str (sL l))) := by
    show R.ok (D.lst (cutD nm none (some (g : Int)))) = _
    rw [cut_take nm g (by omega), ← hnm, List.map_take]
  have sl2 : dSl (.lst nm) (some (g : Int)) none = .ok (.lst ((xs.drop g).map fun l => .str (sL l))) := by
    show R.ok (D.lst (cutD nm (some (g : Int)) none)) = _
    rw [cut_drop nm g (by omega), ← hnm, List.map_drop]
  let Ev : Option D → Option D → Option D → Option D → Option D → Option D → Option D → Option D → Env := fun o7 o8 o9 o10 o11 o12 o13 o14 => [some (.scr (ns.map D.int)), some (.lst (ks.map D.int)), some (rawD g (g + m) S), some (.int g), some (.int ((g + m : Nat) : Int)), some (.lst nm), some (netD g ga inn nm M), o7, o8, o9, o10, o11, o12, o13, o14]
  have r0 : dIx (rawD g (g + m) S) (.int 0) = .ok (.int g) := rfl
  have r1 : dIx (rawD g (g + m) S) (.int 1) = .ok (.int ((g + m : Nat) : Int)) := rfl
  have r2 : dIx (rawD g (g + m) S) (.int 2) = .ok (.lst (S.map trL)) := rfl
  refine post_cut3 (fun e => e = [some (.scr (ns.map D.int)), some (.lst (ks.map D.int)), some (rawD g (g + m) S), some (.int g), some (.int ((g + m : Nat) : Int)), some (.lst nm), none, none, none, none, none, none, none, none, none]) ?_ ?_
  · simp only [post_set, post_e2, post_var, post_c, post_call, post_aCons, post_aNil]
    refine ⟨_, rfl, ?_⟩
    rw [r0, R.post_ok]
    refine ⟨_, rfl, ?_⟩
    rw [r1, R.post_ok]
    refine ⟨_, rfl, ?_⟩
    rw [hc16, R.post_ok]
    refine ⟨_, rfl, ?_⟩
    rw [hw, R.post_ok]
    rfl
  rintro _ rfl
  refine post_cut1 (fun e => e = Ev none none none none none none none none) ?_ ?_
  · simp only [post_set, post_sl, post_oNone, post_oSome, post_var, post_c, post_call, post_aCons, post_aNil]
    refine ⟨_, rfl, _, rfl, _, rfl, ?_⟩
    rw [sl1, R.post_ok]
    refine ⟨_, rfl, _, rfl, _, rfl, ?_⟩
    rw [sl2, R.post_ok]
    refine ⟨_, rfl, _, rfl, ?_⟩
    rw [hc17, R.post_ok, hp, R.post_ok, hmk, R.post_ok]
    rfl
  rintro _ rfl
  refine post_cut1 (fun e => e = Ev (some (.bl true)) none none none none none none none) (by simp only [post_set, post_c]; rfl) ?_
  rintro _ rfl
  refine post_cut1 (fun e => ∃ (ev : Bool) (o8 : Option D), (ev = true → ∀ p : Nat, g ≤ p → p < g + m → outS S p = inS S p) ∧ e = Ev (some (.bl ev)) o8 none none none none none none) ?_ ?_
  · refine post_for (fun i e => ∃ (ev : Bool) (o8 : Option D), (ev = true → ∀ p : Nat, g ≤ p → p < g + i → outS S p = inS S p) ∧ e = Ev (some (.bl ev)) o8 none none none none none none) (ds := rngD g (((g + m : Nat) : Int) - g).toNat) (rng2_of (by simp [Ev]) (by simp [Ev]) (by omega) (by omega) (by omega) (by omega)) ⟨true, none, fun _ p h1 h2 => by omega, rfl⟩ ?_ ?_
    · rintro i d e hd ⟨ev, o8, hev, rfl⟩
      obtain ⟨hi, rfl⟩ := rngD_at hd
      refine ⟨_, rfl, ?_⟩
      simp only [lb_law_287, post_seq, post_nil, post_set, post_eAnd, post_var, post_e2, post_call, post_aCons, post_aNil, post_c]
      refine ⟨_, rfl, ?_⟩
      rw [post_dB]
      cases ev with
      | false => rw [if_neg (by simp)]; exact ⟨false, _, by simp, rfl⟩
      | true =>
        rw [if_pos rfl]
        refine ⟨_, rfl, ?_⟩
        rw [r2, R.post_ok]
        refine ⟨_, rfl, ?_⟩
        rw [e_out S (by omega), R.post_ok]
        refine ⟨_, rfl, ?_⟩
        rw [r2, R.post_ok]
        refine ⟨_, rfl, ?_⟩
        rw [e_in S (by omega), R.post_ok, dEq_ii, R.post_ok]
        refine ⟨_, _, fun hq p h1 h2 => ?_, rfl⟩
        by_cases q : p < g + i
        · exact hev rfl p h1 q
        · have : p = g + i := by omega
          subst this
          have := of_decide_eq_true hq
          push_cast
          exact this
    · rintro e ⟨ev, o8, hev, rfl⟩
      refine ⟨ev, o8, fun h p h1 h2 => hev h p h1 ?_, rfl⟩
      rw [rngD_len]; omega
  rintro _ ⟨ev, o8, hev, rfl⟩
  refine post_cut1 (fun e => ∃ o9 : Option D, e = Ev (some (.bl ev)) o8 o9 none none none none none) ?_ ?_
  · have h2g : (2 : Int) ^ 2 ≤ 2 ^ g := by exact_mod_cast Nat.pow_le_pow_right (by decide) hg1
    have h2g' : (2 : Int) ^ g ≤ 2 ^ 6 := by exact_mod_cast Nat.pow_le_pow_right (by decide) hg2
    refine post_for (fun i e => ∃ o9 : Option D, e = Ev (some (.bl ev)) o8 o9 none none none none none) (ds := rngD 1 ((2 : Int) ^ g - 1 - 1).toNat) (rng2_of (by simp) (by simp [Ev]; exact cpow1 (by omega) (by omega)) (by omega) (by omega) (by omega) (by omega)) ⟨none, rfl⟩ ?_ ?_
    · rintro i d e hd ⟨o9, rfl⟩
      obtain ⟨hi, rfl⟩ := rngD_at hd
      refine ⟨_, rfl, ?_⟩
      have hh := e_lot_holds g m hg1 hg2 hm ga inn nm hnl S M fS' (by omega) hPM (by omega) hw2 (1 + (i : Int)) (by omega) (by omega) ev hev
      simp [lb_law_289, Ev, hh]
    · rintro e ⟨o9, rfl⟩
      exact ⟨o9, rfl⟩
  rintro _ ⟨o9, rfl⟩
  have n11 : (2 : Int) ^ (g + m) ≤ 2 ^ 11 := by exact_mod_cast Nat.pow_le_pow_right (by decide) (by omega)
  have n2 : (2 : Int) ^ 2 ≤ 2 ^ (g + m) := by exact_mod_cast Nat.pow_le_pow_right (by decide) (by omega)
  have sh : dShl (.int 1) (.int ((g + m : Nat) : Int)) = .ok (.int (2 ^ (g + m))) := by
    rw [dShl_ii, when_pos (cpow1 (by omega) (by omega)), Int.toNat_natCast, Int.one_mul]
  have shg : dShl (.int 1) (.int (g : Int)) = .ok (.int (2 ^ g)) := by
    rw [dShl_ii, when_pos (cpow1 (by omega) (by omega)), Int.toNat_natCast, Int.one_mul]
  have ml : dMul (.lst [.int (2 ^ (g + m))]) (.int 10) = .ok (.lst ((List.replicate 10 ((2 : Int) ^ (g + m))).map D.int)) := by
    rw [dMul_li, when_pos (show CRep [D.int ((2 : Int) ^ (g + m))].length 10 from crep1 (by decide) (by decide)), ← rep1]; rfl
  have ds : ∀ c : Int, ∃ dr : List Int, m_law_digits [.int c, .lst ((List.replicate 10 ((2 : Int) ^ (g + m))).map D.int)] = .ok (.lst (dr.map D.int)) ∧ dr.length = 10 ∧ ∀ x ∈ dr, 0 ≤ x ∧ x < 2 ^ (g + m) := fun c => by
    obtain ⟨_, h, dr, rfl, h1, h2⟩ := R.post_ex (e_digits c (List.replicate 10 ((2 : Int) ^ (g + m))) (by simp) (fun s hs => by rw [(List.mem_replicate.mp hs).2]; omega))
    rw [List.length_replicate] at h1
    refine ⟨dr, h, h1, fun x hx => ?_⟩
    obtain ⟨j, hj, e⟩ := List.mem_iff_getElem.mp hx
    exact h2 j x _ (by rw [← e]; exact List.getElem?_eq_getElem hj) (by rw [List.getElem?_replicate, if_pos (by omega)])
  obtain ⟨d18, h18, l18, b18⟩ := ds c18
  obtain ⟨d19, h19, l19, b19⟩ := ds c19
  refine post_cut1 (fun e => ∃ dr : List Int, dr.length = 20 ∧ (∀ x ∈ dr, 0 ≤ x ∧ x < 2 ^ (g + m)) ∧ e = Ev (some (.bl ev)) o8 o9 (some (.lst (dr.map D.int))) none none none none) ?_ ?_
  · simp only [post_set, post_e2, post_call, post_aCons, post_aNil, post_var, post_c, post_lst]
    refine ⟨_, rfl, ?_⟩
    rw [hc18, R.post_ok]
    refine ⟨_, rfl, ?_⟩
    rw [sh, R.post_ok, ml, R.post_ok, h18, R.post_ok]
    refine ⟨_, rfl, ?_⟩
    rw [hc19, R.post_ok]
    refine ⟨_, rfl, ?_⟩
    rw [sh, R.post_ok, ml, R.post_ok, h19, R.post_ok, dAdd_ll, when_pos (by rw [size24]; simp; omega), R.post_ok]
    refine ⟨d18 ++ d19, by simp; omega, fun x hx => ?_, by rw [List.map_append]; rfl⟩
    rcases List.mem_append.mp hx with q | q
    · exact b18 x q
    · exact b19 x q
  rintro _ ⟨dr, hdr, hdb, rfl⟩
  refine post_cut1 (fun e => ∃ o9 o11 : Option D, e = Ev (some (.bl ev)) o8 o9 (some (.lst (dr.map D.int))) o11 none none none) ?_ ?_
  · have hit : iSeq (e2 dAdd (eVar 10) (eLst (aCons (eC (D.int 0)) (aCons (e2 dSub (e2 dShl (eC (D.int 1)) (eVar 4)) (eC (D.int 1))) aNil)))) (Ev (some (.bl ev)) o8 o9 (some (.lst (dr.map D.int))) none none none none) = .ok ((dr ++ [0, 2 ^ (g + m) - 1]).map D.int) := by
      refine seq_of ?_
      simp only [post_e2, post_var, post_c, post_lst, post_aCons, post_aNil]
      refine ⟨_, rfl, ?_⟩
      refine ⟨_, rfl, ?_⟩
      rw [sh, R.post_ok, dSub_ii, R.post_ok, dAdd_ll, when_pos (by rw [size24]; simp; omega), R.post_ok]
      rw [List.map_append]; rfl
    refine post_for (fun i e => ∃ o9 o11 : Option D, e = Ev (some (.bl ev)) o8 o9 (some (.lst (dr.map D.int))) o11 none none none) hit ⟨o9, none, rfl⟩ ?_ ?_
    · rintro i d e hd ⟨o9, o11, rfl⟩
      rw [List.getElem?_map] at hd
      cases hx : (dr ++ [0, 2 ^ (g + m) - 1])[i]? with
      | none => rw [hx] at hd; cases hd
      | some x =>
        rw [hx] at hd; cases hd
        have hb : 0 ≤ x ∧ x < 2 ^ (g + m) := by
          rcases List.mem_append.mp (List.mem_of_getElem? hx) with q | q
          · exact hdb x q
          · simp at q; omega
        have hlv := e_leaving' g ga inn nm M hPM (by omega) (by omega) x hb.1 (by rw [hnl]; exact hb.2)
        have hcm := e_coming' g ga inn nm M hPM (by omega) (by omega) x hb.1 (by rw [hnl]; exact hb.2)
        rw [lv_same hw2] at hlv
        rw [cm_same hw2] at hcm
        have nn : dNe (.lst [.int (lv S x), .int (cm S x)]) (.lst [.int (lv S x), .int (cm S x)]) = .ok (.bl false) := dNe_self [lv S x, cm S x]
        refine ⟨_, rfl, ?_⟩
        simp [lb_law_293, Ev, hlv, hcm, r2, e_leaving S hPS (by omega), e_coming S hPS (by omega), nn, whole_i]
    · rintro e ⟨o9, o11, rfl⟩
      exact ⟨o9, o11, rfl⟩
  rintro _ ⟨o9, o11, rfl⟩
  have dEs : ∀ z : Int, dEq (.lst [.int z]) (.lst [.int z]) = .ok (.bl true) := fun z => by
    have h := dNe_self [z]
    unfold dNe at h
    unfold dEq
    have h' : ((dEqB (.lst [.int z]) (.lst [.int z])).bind fun b => (R.ok (D.bl !b) : R D)) = .ok (.bl false) := h
    cases e : dEqB (.lst [.int z]) (.lst [.int z]) with
    | ok b => rw [e] at h'; cases b <;> simp_all
    | exc c fs => rw [e] at h'; cases h'
    | bad => rw [e] at h'; cases h'
  have dEstr : dEq (.lst [.str "1"]) (.lst [.str "1"]) = .ok (.bl true) := by
    have e : dEqB (.lst [.str "1"]) (.lst [.str "1"]) = R.when ((D.lst [.str "1"]).pl = true ∧ (D.lst [.str "1"]).pl = true ∧ SeqAt.shaped (D.lst [.str "1"]).py = true ∧ SeqAt.shaped (D.lst [.str "1"]).py = true) (.ok (PyData.eqv (D.lst [.str "1"]).py (D.lst [.str "1"]).py)) := rfl
    unfold dEq
    rw [e, when_pos ⟨rfl, rfl, by decide +kernel, by decide +kernel⟩, SeqAt.eqv_refl _ (by decide +kernel)]
    rfl
  have gn : (2 : Int) ^ g ≤ 2 ^ (g + m) := by exact_mod_cast Nat.pow_le_pow_right (by decide) (by omega)
  have g4 : (2 : Int) ^ 2 ≤ 2 ^ g := by exact_mod_cast Nat.pow_le_pow_right (by decide) hg1
  have big : ∀ z : Int, 2 ^ (g + m) ≤ z → m_check_places [netD g ga inn nm M, .int z] = .exc "BadLot" [("lot", .int z)] ∧ m_check_proper [netD g ga inn nm M, .int z] = .exc "BadLot" [("lot", .int z)] := fun z hz => by
    refine ⟨cp_exc2 g ga inn nm M z (by omega) (by omega) ?_, cq_exc2 g ga inn nm M (by omega) z (by omega) (by omega)⟩
    rw [hnl]
    have : 1 ≤ z / 2 ^ (g + m) := Int.le_ediv_of_mul_le (by omega) (by omega)
    omega
  have no : ∀ b : D, m_is_lot [b] = .ok (.bl false) → m_check_places [netD g ga inn nm M, b] = .exc "BadLot" [("lot", b)] ∧ m_check_proper [netD g ga inn nm M, b] = .exc "BadLot" [("lot", b)] := fun b h => ⟨cp_exc1 g ga inn nm M h, cq_exc1 g ga inn nm M h⟩
  obtain ⟨bad, hbad, hb1, hb2, hb3⟩ : ∃ bad : D, atI [D.int (2 ^ (g + m)), .int (2 ^ (g + m) + 1), .int (-1), .bl true, .non, .str "1", .int (-4)] k2 = some bad ∧ m_check_places [netD g ga inn nm M, bad] = .exc "BadLot" [("lot", bad)] ∧ m_check_proper [netD g ga inn nm M, bad] = .exc "BadLot" [("lot", bad)] ∧ dEq (.lst [bad]) (.lst [bad]) = .ok (.bl true) := by
    have : k2 = 0 ∨ k2 = 1 ∨ k2 = 2 ∨ k2 = 3 ∨ k2 = 4 ∨ k2 = 5 ∨ k2 = 6 := by omega
    rcases this with rfl | rfl | rfl | rfl | rfl | rfl | rfl
    · exact ⟨_, rfl, (big _ (by omega)).1, (big _ (by omega)).2, dEs _⟩
    · exact ⟨_, rfl, (big _ (by omega)).1, (big _ (by omega)).2, dEs _⟩
    · exact ⟨_, rfl, (no _ (e_is_lot_i (-1))).1, (no _ (e_is_lot_i (-1))).2, dEs _⟩
    · exact ⟨_, rfl, (no _ rfl).1, (no _ rfl).2, rfl⟩
    · exact ⟨_, rfl, (no _ rfl).1, (no _ rfl).2, rfl⟩
    · exact ⟨_, rfl, (no _ rfl).1, (no _ rfl).2, dEstr⟩
    · exact ⟨_, rfl, (no _ (e_is_lot_i (-4))).1, (no _ (e_is_lot_i (-4))).2, dEs _⟩
  refine post_cut1 (fun e => e = Ev (some (.bl ev)) o8 o9 (some (.lst (dr.map D.int))) o11 (some bad) none none) ?_ ?_
  · simp only [post_set, post_e2, post_e1, post_var, post_c, post_lst, post_aCons, post_aNil]
    refine ⟨_, rfl, ?_⟩
    rw [sh, R.post_ok]
    refine ⟨_, rfl, ?_⟩
    rw [sh, R.post_ok, dAdd_ii, R.post_ok, dNeg_i, R.post_ok, dNeg_i, R.post_ok]
    refine ⟨_, rfl, ?_⟩
    have k2' : dIx (.lst (ks.map D.int)) (.int 2) = .ok (.int k2) := by rw [dIx_l, atI_2, List.getElem?_map, x2]; rfl
    rw [k2', R.post_ok, dIx_l, hbad]
    exact .ok rfl
  rintro _ rfl
  have r4 : ∀ w : D, w ∈ [D.int 0, .int (2 ^ g - 1), .int (2 ^ g), bad] → ∀ a : Int, a = 2 ∨ a = 3 → m_law_refused [netD g ga inn nm M, w, .int a] = .ok (.bl true) := fun w hw a ha => by
    have hc : m_check_proper [netD g ga inn nm M, w] = .exc "BadLot" [("lot", w)] ∧ dEq (.lst [w]) (.lst [w]) = .ok (.bl true) := by
      simp only [List.mem_cons, List.not_mem_nil, or_false] at hw
      rcases hw with rfl | rfl | rfl | rfl
      · exact ⟨cq_exc2 g ga inn nm M (by omega) 0 (by omega) (by omega), dEs _⟩
      · exact ⟨cq_exc2 g ga inn nm M (by omega) _ (by omega) (by omega), dEs _⟩
      · exact ⟨cq_exc2 g ga inn nm M (by omega) _ (by omega) (by omega), dEs _⟩
      · exact ⟨hb2, hb3⟩
    refine refused_of g ga inn nm M a hc.2 ?_
    rcases ha with rfl | rfl
    · exact .inr (.inr (.inl ⟨rfl, x_outward g ga inn nm M hc.1⟩))
    · exact .inr (.inr (.inr ⟨rfl, x_inward g ga inn nm M hc.1⟩))
  refine post_cut1 (fun e => e = Ev (some (.bl ev)) o8 o9 (some (.lst (dr.map D.int))) o11 (some bad) (some (.lst [D.int 0, .int (2 ^ g - 1), .int (2 ^ g), bad])) none) ?_ ?_
  · simp only [post_set, post_e2, post_e1, post_var, post_c, post_lst, post_aCons, post_aNil]
    refine ⟨_, rfl, ?_⟩
    rw [shg, R.post_ok, dSub_ii, R.post_ok]
    refine ⟨_, rfl, ?_⟩
    rw [shg, R.post_ok]
    exact ⟨_, rfl, rfl⟩
  rintro _ rfl
  refine post_cut1 (fun e => ∃ o9 o14, e = Ev (some (.bl ev)) o8 o9 (some (.lst (dr.map D.int))) o11 (some bad) (some (.lst [D.int 0, .int (2 ^ g - 1), .int (2 ^ g), bad])) o14) ?_ ?_
  · refine post_for (fun i e => ∃ o9 o14, e = Ev (some (.bl ev)) o8 o9 (some (.lst (dr.map D.int))) o11 (some bad) (some (.lst [D.int 0, .int (2 ^ g - 1), .int (2 ^ g), bad])) o14) (ds := rngD 0 4) (rng_len (by simp) (by decide)) ⟨o9, none, rfl⟩ ?_ ?_
    · rintro i d e hd ⟨o9, o14, rfl⟩
      obtain ⟨hi, rfl⟩ := rngD_at hd
      refine ⟨_, rfl, ?_⟩
      have e0 : (0 : Int) + (i : Int) = (i : Int) := by omega
      rw [e0]
      have hr : m_law_refused [netD g ga inn nm M, bad, .int (i : Int)] = .ok (.bl true) := by
        refine refused_of g ga inn nm M (i : Int) hb3 ?_
        have : i = 0 ∨ i = 1 ∨ i = 2 ∨ i = 3 := by omega
        rcases this with rfl | rfl | rfl | rfl
        · exact .inl ⟨rfl, x_leaving g ga inn nm M hb1⟩
        · exact .inr (.inl ⟨rfl, x_coming g ga inn nm M hb1⟩)
        · exact .inr (.inr (.inl ⟨rfl, x_outward g ga inn nm M hb2⟩))
        · exact .inr (.inr (.inr ⟨rfl, x_inward g ga inn nm M hb2⟩))
      simp [lb_law_299, Ev, hr]
      intro h1
      refine post_lcM (fun w : D => (none : Option D)) id [D.int 0, .int (2 ^ g - 1), .int (2 ^ g), bad] id (seq_of (by simp)) rfl (by simp) (fun w hw => ⟨_, rfl, ?_⟩) ?_
      · have := r4 w hw (i : Int) (by omega)
        simp [wipeE, this]
      · simp
    · rintro e ⟨o9, o14, rfl⟩
      exact ⟨o9, o14, rfl⟩
  rintro _ ⟨o9, o14, rfl⟩
  have hne : (lots g m 1).map (lv S) ≠ [] := fun z => by
    have := congrArg List.length z
    simp [lots] at this
  obtain ⟨x, hx⟩ := min_ex hne
  have ho := e_outs g m (by omega) (by omega) S hPS (by omega) 1
  have hw1 := e_outward g ga inn nm M m hg1 hg2 hm hnl hPM (by omega) 1 (by decide) (by omega) x (by rw [lv_same hw2]; exact hx)
  have mo : dMin (.lst (((lots g m 1).map (lv S)).map D.int)) = .ok (.int x) := by rw [dMin_l, hx]; rfl
  simp only [post_seq, post_ret, post_e2, post_e1, post_call, post_aCons, post_aNil, post_var, post_c]
  refine ⟨_, rfl, ?_⟩
  rw [hw1, R.post_ok]
  refine ⟨_, rfl, ?_⟩
  rw [ho, R.post_ok, mo, R.post_ok, dEq_ii, R.post_ok, decide_eq_true rfl]
end MD

open PySem PySem.W PyProof.Rows in
set_option maxRecDepth 100000 in
set_option maxHeartbeats 0 in
theorem PySem.Challenge.cw_fullsides_k66_whole_one_way_worths_holds : PySem.Challenge.rw_fullsides_k66_whole_one_way_worths.Holds := by
  w_on; o_law; k_head; (case hw => w_witness2)
  k_fill
  refine MD.law_end (l := PySem.Challenge.rw_fullsides_k66_whole_one_way_worths) (k := 9) (x := "script") (mf := MD.m_law) rfl rfl ⟨rfl, by decide, by decide⟩ (fun w h Y => PySem.W.kIn_of Y) ?F MD.main_law
  case F =>
    intro w mg fa h KX G hmg
    refine' MD.all_mk KX G ?CL ?A_is_name ?A_check_names ?A_is_whole ?A_is_sequence ?A_are_whole ?A_is_lot ?A_is_street ?A_gate_lot ?A_check_proper ?A_has ?A_sub_lots ?A_lanes_leaving ?A_lanes_coming ?A_merged_one_way ?A_law_whole ?A_law_cell ?A_law_digits ?A_law_words ?A_law_bit ?A_law_ways_one ?A_law_out ?A_law_in ?A_law_one_net ?A_law_balanced ?A_law_pieces_one ?A_law_leaving ?A_law_coming ?A_law_outs ?A_law_ins ?A_check_places ?A_leaving ?A_coming ?A_inner_lot ?A_least_outward ?A_outward ?A_inward ?A_law_refused ?A_law_lot_holds ?b_bool ?b_int ?b_isinstance ?b_len ?b_list ?b_min ?b_range ?b_sorted ?b_str ?b_sum ?b_tuple ?c_LETTERS ?c_SIGNS ?c_LONGEST ?FL
    case CL =>
      refine' ⟨⟨_, _, _, _, _, _, _, MD.xc_mk (x := "BadLot") KX G ?xBadLotaC ?xBadLotxL ?xBadLotbv ?xBadLotsa ?xBadLotex ?xBadLotty ?xBadLotkC ?xBadLotga ?xBadLotgg ?xBadLothd ?xBadLotha ?xBadLothn ?xBadLotht ?xBadLothm, MD.mt_mk (st := MD.s_BadLot_init) (qual := "BadLot.__init__") (ps := ["self", "lot"]) ?iBadLota ?iBadLoti ?iBadLott ?iBadLotl ?iBadLotc ?iBadLotk (fun _ _ _ _ _ _ us hl => match us, hl with | [_, _], _ => rfl), ?nBadLotlot, MD.kit_of ?kBadLotTownErrora ?kBadLotTownErrorb ?kBadLotTownErrorc ?kBadLotTownErrord, MD.kit_of ?kBadLotUnbalanceda ?kBadLotUnbalancedb ?kBadLotUnbalancedc ?kBadLotUnbalancedd, PySem.W.exm_ref ?eBadLotBadLota ?eBadLotBadLotb ?eBadLotBadLotc ?eBadLotBadLotd, MD.xc_mk (x := "BadName") KX G ?xBadNameaC ?xBadNamexL ?xBadNamebv ?xBadNamesa ?xBadNameex ?xBadNamety ?xBadNamekC ?xBadNamega ?xBadNamegg ?xBadNamehd ?xBadNameha ?xBadNamehn ?xBadNameht ?xBadNamehm, MD.mt_mk (st := MD.s_BadName_init) (qual := "BadName.__init__") (ps := ["self", "name"]) ?iBadNamea ?iBadNamei ?iBadNamet ?iBadNamel ?iBadNamec ?iBadNamek (fun _ _ _ _ _ _ us hl => match us, hl with | [_, _], _ => rfl), ?nBadNamename, MD.kit_of ?kBadNameTownErrora ?kBadNameTownErrorb ?kBadNameTownErrorc ?kBadNameTownErrord, MD.kit_of ?kBadNameUnbalanceda ?kBadNameUnbalancedb ?kBadNameUnbalancedc ?kBadNameUnbalancedd, PySem.W.exm_ref ?eBadNameBadLota ?eBadNameBadLotb ?eBadNameBadLotc ?eBadNameBadLotd, MD.xc_mk (x := "BadStreet") KX G ?xBadStreetaC ?xBadStreetxL ?xBadStreetbv ?xBadStreetsa ?xBadStreetex ?xBadStreetty ?xBadStreetkC ?xBadStreetga ?xBadStreetgg ?xBadStreethd ?xBadStreetha ?xBadStreethn ?xBadStreetht ?xBadStreethm, MD.mt_mk (st := MD.s_BadStreet_init) (qual := "BadStreet.__init__") (ps := ["self", "index"]) ?iBadStreeta ?iBadStreeti ?iBadStreett ?iBadStreetl ?iBadStreetc ?iBadStreetk (fun _ _ _ _ _ _ us hl => match us, hl with | [_, _], _ => rfl), ?nBadStreetindex, MD.kit_of ?kBadStreetTownErrora ?kBadStreetTownErrorb ?kBadStreetTownErrorc ?kBadStreetTownErrord, MD.kit_of ?kBadStreetUnbalanceda ?kBadStreetUnbalancedb ?kBadStreetUnbalancedc ?kBadStreetUnbalancedd, PySem.W.exm_ref ?eBadStreetBadLota ?eBadStreetBadLotb ?eBadStreetBadLotc ?eBadStreetBadLotd, MD.xc_mk (x := "DoubleName") KX G ?xDoubleNameaC ?xDoubleNamexL ?xDoubleNamebv ?xDoubleNamesa ?xDoubleNameex ?xDoubleNamety ?xDoubleNamekC ?xDoubleNamega ?xDoubleNamegg ?xDoubleNamehd ?xDoubleNameha ?xDoubleNamehn ?xDoubleNameht ?xDoubleNamehm, MD.mt_mk (st := MD.s_DoubleName_init) (qual := "DoubleName.__init__") (ps := ["self", "name"]) ?iDoubleNamea ?iDoubleNamei ?iDoubleNamet ?iDoubleNamel ?iDoubleNamec ?iDoubleNamek (fun _ _ _ _ _ _ us hl => match us, hl with | [_, _], _ => rfl), ?nDoubleNamename, MD.kit_of ?kDoubleNameTownErrora ?kDoubleNameTownErrorb ?kDoubleNameTownErrorc ?kDoubleNameTownErrord, MD.kit_of ?kDoubleNameUnbalanceda ?kDoubleNameUnbalancedb ?kDoubleNameUnbalancedc ?kDoubleNameUnbalancedd, PySem.W.exm_ref ?eDoubleNameBadLota ?eDoubleNameBadLotb ?eDoubleNameBadLotc ?eDoubleNameBadLotd, MD.mg_c KX G ?xTownErroraC, MD.mg_c KX G ?xUnbalancedaC, MD.mg_c KX G ?oOneWayNetaC, ⟨?oOneWayNetpg, ?oOneWayNethd, ?oOneWayNetpo, ?oOneWayNetsa⟩, ?oOneWayNetmk, ?oOneWayNetkc, MD.mt_mk (st := MD.s_OneWayNet_init) (qual := "OneWayNet.__init__") (ps := ["self", "gates", "inner", "streets"]) ?iOneWayNeta ?iOneWayNeti ?iOneWayNett ?iOneWayNetl ?iOneWayNetc ?iOneWayNetk (fun _ _ _ _ _ _ us hl => match us, hl with | [_, _, _, _], _ => rfl), MD.mt_mk (st := MD.s_OneWayNet_len) (qual := "OneWayNet.__len__") (ps := ["self"]) ?jOneWayNeta ?jOneWayNeti ?jOneWayNett ?jOneWayNetl ?jOneWayNetc ?jOneWayNetk (fun _ _ _ _ _ _ us hl => match us, hl with | [_], _ => rfl), ?nOneWayNetmany, ?nOneWayNetgates, ?nOneWayNetinner, ?nOneWayNetnames, ?nOneWayNetstreets⟩⟩
      (case xBadLotaC => k_is)
      (case xBadNameaC => k_is)
      (case xBadStreetaC => k_is)
      (case xDoubleNameaC => k_is)
      (case xTownErroraC => k_is)
      (case xUnbalancedaC => k_is)
      (case oOneWayNetaC => k_is)
      (case xBadLotxL => k_is)
      (case xBadLotbv => decide +kernel)
      (case xBadLotsa => k_is)
      (case xBadLotex => k_is)
      (case xBadLotty => k_is)
      (case xBadLotkC => k_is)
      (case xBadLotga => k_is)
      (case xBadLotgg => k_is)
      (case xBadLothd => k_is)
      (case xBadLotha => k_is)
      (case xBadLothn => k_is)
      (case xBadLotht => k_is)
      (case xBadLothm => k_is)
      (case iBadLota => k_is)
      (case iBadLoti => k_is)
      (case iBadLott => k_is)
      (case iBadLotl => k_is)
      (case iBadLotc => k_is)
      (case iBadLotk => k_is)
      (case nBadLotlot => k_is)
      (case kBadLotTownErrora => first | rfl | k_is)
      (case kBadLotTownErrorb => first | rfl | k_is)
      (case kBadLotTownErrorc => first | rfl | k_is)
      (case kBadLotTownErrord => first | exact .inr rfl | exact .inl (by decide))
      (case kBadLotUnbalanceda => first | rfl | k_is)
      (case kBadLotUnbalancedb => first | rfl | k_is)
      (case kBadLotUnbalancedc => first | rfl | k_is)
      (case kBadLotUnbalancedd => first | exact .inr rfl | exact .inl (by decide))
      (case eBadLotBadLota => first | rfl | k_is)
      (case eBadLotBadLotb => first | rfl | k_is)
      (case eBadLotBadLotc => first | rfl | k_is)
      (case eBadLotBadLotd => first | rfl | k_is)
      (case xBadNamexL => k_is)
      (case xBadNamebv => decide +kernel)
      (case xBadNamesa => k_is)
      (case xBadNameex => k_is)
      (case xBadNamety => k_is)
      (case xBadNamekC => k_is)
      (case xBadNamega => k_is)
      (case xBadNamegg => k_is)
      (case xBadNamehd => k_is)
      (case xBadNameha => k_is)
      (case xBadNamehn => k_is)
      (case xBadNameht => k_is)
      (case xBadNamehm => k_is)
      (case iBadNamea => k_is)
      (case iBadNamei => k_is)
      (case iBadNamet => k_is)
      (case iBadNamel => k_is)
      (case iBadNamec => k_is)
      (case iBadNamek => k_is)
      (case nBadNamename => k_is)
      (case kBadNameTownErrora => first | rfl | k_is)
      (case kBadNameTownErrorb => first | rfl | k_is)
      (case kBadNameTownErrorc => first | rfl | k_is)
      (case kBadNameTownErrord => first | exact .inr rfl | exact .inl (by decide))
      (case kBadNameUnbalanceda => first | rfl | k_is)
      (case kBadNameUnbalancedb => first | rfl | k_is)
      (case kBadNameUnbalancedc => first | rfl | k_is)
      (case kBadNameUnbalancedd => first | exact .inr rfl | exact .inl (by decide))
      (case eBadNameBadLota => first | rfl | k_is)
      (case eBadNameBadLotb => first | rfl | k_is)
      (case eBadNameBadLotc => first | rfl | k_is)
      (case eBadNameBadLotd => first | rfl | k_is)
      (case xBadStreetxL => k_is)
      (case xBadStreetbv => decide +kernel)
      (case xBadStreetsa => k_is)
      (case xBadStreetex => k_is)
      (case xBadStreetty => k_is)
      (case xBadStreetkC => k_is)
      (case xBadStreetga => k_is)
      (case xBadStreetgg => k_is)
      (case xBadStreethd => k_is)
      (case xBadStreetha => k_is)
      (case xBadStreethn => k_is)
      (case xBadStreetht => k_is)
      (case xBadStreethm => k_is)
      (case iBadStreeta => k_is)
      (case iBadStreeti => k_is)
      (case iBadStreett => k_is)
      (case iBadStreetl => k_is)
      (case iBadStreetc => k_is)
      (case iBadStreetk => k_is)
      (case nBadStreetindex => k_is)
      (case kBadStreetTownErrora => first | rfl | k_is)
      (case kBadStreetTownErrorb => first | rfl | k_is)
      (case kBadStreetTownErrorc => first | rfl | k_is)
      (case kBadStreetTownErrord => first | exact .inr rfl | exact .inl (by decide))
      (case kBadStreetUnbalanceda => first | rfl | k_is)
      (case kBadStreetUnbalancedb => first | rfl | k_is)
      (case kBadStreetUnbalancedc => first | rfl | k_is)
      (case kBadStreetUnbalancedd => first | exact .inr rfl | exact .inl (by decide))
      (case eBadStreetBadLota => first | rfl | k_is)
      (case eBadStreetBadLotb => first | rfl | k_is)
      (case eBadStreetBadLotc => first | rfl | k_is)
      (case eBadStreetBadLotd => first | rfl | k_is)
      (case xDoubleNamexL => k_is)
      (case xDoubleNamebv => decide +kernel)
      (case xDoubleNamesa => k_is)
      (case xDoubleNameex => k_is)
      (case xDoubleNamety => k_is)
      (case xDoubleNamekC => k_is)
      (case xDoubleNamega => k_is)
      (case xDoubleNamegg => k_is)
      (case xDoubleNamehd => k_is)
      (case xDoubleNameha => k_is)
      (case xDoubleNamehn => k_is)
      (case xDoubleNameht => k_is)
      (case xDoubleNamehm => k_is)
      (case iDoubleNamea => k_is)
      (case iDoubleNamei => k_is)
      (case iDoubleNamet => k_is)
      (case iDoubleNamel => k_is)
      (case iDoubleNamec => k_is)
      (case iDoubleNamek => k_is)
      (case nDoubleNamename => k_is)
      (case kDoubleNameTownErrora => first | rfl | k_is)
      (case kDoubleNameTownErrorb => first | rfl | k_is)
      (case kDoubleNameTownErrorc => first | rfl | k_is)
      (case kDoubleNameTownErrord => first | exact .inr rfl | exact .inl (by decide))
      (case kDoubleNameUnbalanceda => first | rfl | k_is)
      (case kDoubleNameUnbalancedb => first | rfl | k_is)
      (case kDoubleNameUnbalancedc => first | rfl | k_is)
      (case kDoubleNameUnbalancedd => first | exact .inr rfl | exact .inl (by decide))
      (case eDoubleNameBadLota => first | rfl | k_is)
      (case eDoubleNameBadLotb => first | rfl | k_is)
      (case eDoubleNameBadLotc => first | rfl | k_is)
      (case eDoubleNameBadLotd => first | rfl | k_is)
      (case oOneWayNetpg => k_is)
      (case oOneWayNethd => k_is)
      (case oOneWayNetpo => k_is)
      (case oOneWayNetsa => k_is)
      (case oOneWayNetmk => k_is)
      (case oOneWayNetkc => k_is)
      (case iOneWayNeta => k_is)
      (case iOneWayNeti => k_is)
      (case iOneWayNett => k_is)
      (case iOneWayNetl => k_is)
      (case iOneWayNetc => k_is)
      (case iOneWayNetk => k_is)
      (case jOneWayNeta => k_is)
      (case jOneWayNeti => k_is)
      (case jOneWayNett => k_is)
      (case jOneWayNetl => k_is)
      (case jOneWayNetc => k_is)
      (case jOneWayNetk => k_is)
      (case nOneWayNetmany => k_is)
      (case nOneWayNetgates => k_is)
      (case nOneWayNetinner => k_is)
      (case nOneWayNetnames => k_is)
      (case nOneWayNetstreets => k_is)
    case A_is_name =>
      refine' MD.at_mk KX G ?a ?l ?c ?k (fun _ _ _ _ _ _ us hl => match us, hl with | [_], _ => rfl)
      (case a => k_is); (case l => k_is); (case c => k_is); (case k => k_is)
    case A_check_names =>
      refine' MD.at_mk KX G ?a ?l ?c ?k (fun _ _ _ _ _ _ us hl => match us, hl with | [_], _ => rfl)
      (case a => k_is); (case l => k_is); (case c => k_is); (case k => k_is)
    case A_is_whole =>
      refine' MD.at_mk KX G ?a ?l ?c ?k (fun _ _ _ _ _ _ us hl => match us, hl with | [_], _ => rfl)
      (case a => k_is); (case l => k_is); (case c => k_is); (case k => k_is)
    case A_is_sequence =>
      refine' MD.at_mk KX G ?a ?l ?c ?k (fun _ _ _ _ _ _ us hl => match us, hl with | [_], _ => rfl)
      (case a => k_is); (case l => k_is); (case c => k_is); (case k => k_is)
    case A_are_whole =>
      refine' MD.at_mk KX G ?a ?l ?c ?k (fun _ _ _ _ _ _ us hl => match us, hl with | [_], _ => rfl)
      (case a => k_is); (case l => k_is); (case c => k_is); (case k => k_is)
    case A_is_lot =>
      refine' MD.at_mk KX G ?a ?l ?c ?k (fun _ _ _ _ _ _ us hl => match us, hl with | [_], _ => rfl)
      (case a => k_is); (case l => k_is); (case c => k_is); (case k => k_is)
    case A_is_street =>
      refine' MD.at_mk KX G ?a ?l ?c ?k (fun _ _ _ _ _ _ us hl => match us, hl with | [_, _], _ => rfl)
      (case a => k_is); (case l => k_is); (case c => k_is); (case k => k_is)
    case A_gate_lot =>
      refine' MD.at_mk KX G ?a ?l ?c ?k (fun _ _ _ _ _ _ us hl => match us, hl with | [_], _ => rfl)
      (case a => k_is); (case l => k_is); (case c => k_is); (case k => k_is)
    case A_check_proper =>
      refine' MD.at_mk KX G ?a ?l ?c ?k (fun _ _ _ _ _ _ us hl => match us, hl with | [_, _], _ => rfl)
      (case a => k_is); (case l => k_is); (case c => k_is); (case k => k_is)
    case A_has =>
      refine' MD.at_mk KX G ?a ?l ?c ?k (fun _ _ _ _ _ _ us hl => match us, hl with | [_, _], _ => rfl)
      (case a => k_is); (case l => k_is); (case c => k_is); (case k => k_is)
    case A_sub_lots =>
      refine' MD.at_mk KX G ?a ?l ?c ?k (fun _ _ _ _ _ _ us hl => match us, hl with | [_], _ => rfl)
      (case a => k_is); (case l => k_is); (case c => k_is); (case k => k_is)
    case A_lanes_leaving =>
      refine' MD.at_mk KX G ?a ?l ?c ?k (fun _ _ _ _ _ _ us hl => match us, hl with | [_, _], _ => rfl)
      (case a => k_is); (case l => k_is); (case c => k_is); (case k => k_is)
    case A_lanes_coming =>
      refine' MD.at_mk KX G ?a ?l ?c ?k (fun _ _ _ _ _ _ us hl => match us, hl with | [_, _], _ => rfl)
      (case a => k_is); (case l => k_is); (case c => k_is); (case k => k_is)
    case A_merged_one_way =>
      refine' MD.at_mk KX G ?a ?l ?c ?k (fun _ _ _ _ _ _ us hl => match us, hl with | [_, _], _ => rfl)
      (case a => k_is); (case l => k_is); (case c => k_is); (case k => k_is)
    case A_law_whole =>
      refine' MD.at_mk KX G ?a ?l ?c ?k (fun _ _ _ _ _ _ us hl => match us, hl with | [_], _ => rfl)
      (case a => k_is); (case l => k_is); (case c => k_is); (case k => k_is)
    case A_law_cell =>
      refine' MD.at_mk KX G ?a ?l ?c ?k (fun _ _ _ _ _ _ us hl => match us, hl with | [_, _], _ => rfl)
      (case a => k_is); (case l => k_is); (case c => k_is); (case k => k_is)
    case A_law_digits =>
      refine' MD.at_mk KX G ?a ?l ?c ?k (fun _ _ _ _ _ _ us hl => match us, hl with | [_, _], _ => rfl)
      (case a => k_is); (case l => k_is); (case c => k_is); (case k => k_is)
    case A_law_words =>
      refine' MD.at_mk KX G ?a ?l ?c ?k (fun _ _ _ _ _ _ us hl => match us, hl with | [_, _], _ => rfl)
      (case a => k_is); (case l => k_is); (case c => k_is); (case k => k_is)
    case A_law_bit =>
      refine' MD.at_mk KX G ?a ?l ?c ?k (fun _ _ _ _ _ _ us hl => match us, hl with | [_, _], _ => rfl)
      (case a => k_is); (case l => k_is); (case c => k_is); (case k => k_is)
    case A_law_ways_one =>
      refine' MD.at_mk KX G ?a ?l ?c ?k (fun _ _ _ _ _ _ us hl => match us, hl with | [_], _ => rfl)
      (case a => k_is); (case l => k_is); (case c => k_is); (case k => k_is)
    case A_law_out =>
      refine' MD.at_mk KX G ?a ?l ?c ?k (fun _ _ _ _ _ _ us hl => match us, hl with | [_, _], _ => rfl)
      (case a => k_is); (case l => k_is); (case c => k_is); (case k => k_is)
    case A_law_in =>
      refine' MD.at_mk KX G ?a ?l ?c ?k (fun _ _ _ _ _ _ us hl => match us, hl with | [_, _], _ => rfl)
      (case a => k_is); (case l => k_is); (case c => k_is); (case k => k_is)
    case A_law_one_net =>
      refine' MD.at_mk KX G ?a ?l ?c ?k (fun _ _ _ _ _ _ us hl => match us, hl with | [_, _, _], _ => rfl)
      (case a => k_is); (case l => k_is); (case c => k_is); (case k => k_is)
    case A_law_balanced =>
      refine' MD.at_mk KX G ?a ?l ?c ?k (fun _ _ _ _ _ _ us hl => match us, hl with | [_], _ => rfl)
      (case a => k_is); (case l => k_is); (case c => k_is); (case k => k_is)
    case A_law_pieces_one =>
      refine' MD.at_mk KX G ?a ?l ?c ?k (fun _ _ _ _ _ _ us hl => match us, hl with | [_, _], _ => rfl)
      (case a => k_is); (case l => k_is); (case c => k_is); (case k => k_is)
    case A_law_leaving =>
      refine' MD.at_mk KX G ?a ?l ?c ?k (fun _ _ _ _ _ _ us hl => match us, hl with | [_, _], _ => rfl)
      (case a => k_is); (case l => k_is); (case c => k_is); (case k => k_is)
    case A_law_coming =>
      refine' MD.at_mk KX G ?a ?l ?c ?k (fun _ _ _ _ _ _ us hl => match us, hl with | [_, _], _ => rfl)
      (case a => k_is); (case l => k_is); (case c => k_is); (case k => k_is)
    case A_law_outs =>
      refine' MD.at_mk KX G ?a ?l ?c ?k (fun _ _ _ _ _ _ us hl => match us, hl with | [_, _], _ => rfl)
      (case a => k_is); (case l => k_is); (case c => k_is); (case k => k_is)
    case A_law_ins =>
      refine' MD.at_mk KX G ?a ?l ?c ?k (fun _ _ _ _ _ _ us hl => match us, hl with | [_, _], _ => rfl)
      (case a => k_is); (case l => k_is); (case c => k_is); (case k => k_is)
    case A_check_places =>
      refine' MD.at_mk KX G ?a ?l ?c ?k (fun _ _ _ _ _ _ us hl => match us, hl with | [_, _], _ => rfl)
      (case a => k_is); (case l => k_is); (case c => k_is); (case k => k_is)
    case A_leaving =>
      refine' MD.at_mk KX G ?a ?l ?c ?k (fun _ _ _ _ _ _ us hl => match us, hl with | [_, _], _ => rfl)
      (case a => k_is); (case l => k_is); (case c => k_is); (case k => k_is)
    case A_coming =>
      refine' MD.at_mk KX G ?a ?l ?c ?k (fun _ _ _ _ _ _ us hl => match us, hl with | [_, _], _ => rfl)
      (case a => k_is); (case l => k_is); (case c => k_is); (case k => k_is)
    case A_inner_lot =>
      refine' MD.at_mk KX G ?a ?l ?c ?k (fun _ _ _ _ _ _ us hl => match us, hl with | [_], _ => rfl)
      (case a => k_is); (case l => k_is); (case c => k_is); (case k => k_is)
    case A_least_outward =>
      refine' MD.at_mk KX G ?a ?l ?c ?k (fun _ _ _ _ _ _ us hl => match us, hl with | [_, _], _ => rfl)
      (case a => k_is); (case l => k_is); (case c => k_is); (case k => k_is)
    case A_outward =>
      refine' MD.at_mk KX G ?a ?l ?c ?k (fun _ _ _ _ _ _ us hl => match us, hl with | [_, _], _ => rfl)
      (case a => k_is); (case l => k_is); (case c => k_is); (case k => k_is)
    case A_inward =>
      refine' MD.at_mk KX G ?a ?l ?c ?k (fun _ _ _ _ _ _ us hl => match us, hl with | [_, _], _ => rfl)
      (case a => k_is); (case l => k_is); (case c => k_is); (case k => k_is)
    case A_law_refused =>
      refine' MD.at_mk KX G ?a ?l ?c ?k (fun _ _ _ _ _ _ us hl => match us, hl with | [_, _, _], _ => rfl)
      (case a => k_is); (case l => k_is); (case c => k_is); (case k => k_is)
    case A_law_lot_holds =>
      refine' MD.at_mk KX G ?a ?l ?c ?k (fun _ _ _ _ _ _ us hl => match us, hl with | [_, _, _, _], _ => rfl)
      (case a => k_is); (case l => k_is); (case c => k_is); (case k => k_is)
    (case b_bool => k_is)
    (case b_int => k_is)
    (case b_isinstance => k_is)
    (case b_len => k_is)
    (case b_list => k_is)
    (case b_min => k_is)
    (case b_range => k_is)
    (case b_sorted => k_is)
    (case b_str => k_is)
    (case b_sum => k_is)
    (case b_tuple => k_is)
    case c_LETTERS =>
      refine' MD.con_str KX G ?a
      (case a => k_is)
    case c_SIGNS =>
      refine' MD.con_str KX G ?a
      (case a => k_is)
    case c_LONGEST =>
      refine' MD.con_int KX G ?a
      (case a => k_is)
    case FL =>
      refine' MD.law_at KX G hmg ?a ?l ?c ?k (fun _ _ _ _ _ _ u => rfl)
      (case a => k_is); (case l => k_is); (case c => k_is); (case k => k_is)

