import PyProof.Rows.All
import Wide.All
import OpenK.AllK
import Wide.FinOn
import HandS.ForMost
import HandS.ForExc
import HandS.TupAny
import HandS.Deep
import HandS.TupMul
import HandS.TupLe
import HandS.CallSlots
import HandS.ExcOwn
import HandS.SortInts
import KE.SortData
import HandS.WordsDict
import KE.GoesEnum
import HandS.Zip
import HandS.Small
import HandS.Strs
import KE.DataMinMax
import KE.BitLaws
import HandS.TupSets
import HandS.Iter
import PySem.Challenge.RW_callsheets_k14_costs_of_days
set_option Elab.async false
set_option linter.all false
set_option maxRecDepth 100000
set_option maxHeartbeats 4000000
/-! A denotational layer over HandS: data D, a store of what may change, what an expression gives. -/
namespace Dn
open PySem PySem.Spec PyProof.Rows L2

/-- data: what never changes stands as itself, what may change stands at a place of the store -/
inductive D where
  | non | bl (b : Bool) | int (i : Int) | str (x : Str) | tup (ds : List D) | lst (ds : List D) | frz (ds : List D) | loc (n : Nat)
  deriving Inhabited
/-- what may change -/
inductive Ob where
  | lst (ds : List D) | dct (kvs : List (Key × D)) | dtt (kvs : List (List Key × D)) | ins (c : Str) (fs : List (Str × D))
abbrev Store := List (Option Ob)
abbrev Vars := List (Option D)
/-- an exception: its class, its fields -/
structure Exn where
  c : Str
  fs : List (Str × D)

/-! ### what stands for data -/
def Ex (H H' : Hp) : Prop := ∀ a o, H a = some o → H' a = some o
theorem Ex.refl (H : Hp) : Ex H H := fun _ _ h => h
theorem Ex.trans {H H1 H2 : Hp} (a : Ex H H1) (b : Ex H1 H2) : Ex H H2 := fun x o h => b x o (a x o h)
theorem Ex.new {H : Hp} {p : Addr} {o : HO} (h : H p = none) : Ex H (upd H p o) := fun a u e => by
  rw [upd_ne (ne_of_none e h)]
  exact e
theorem Ex.free {H H' : Hp} (e : Ex H H') {p : Addr} (h : H' p = none) : H p = none := by
  cases h1 : H p with
  | none => rfl
  | some o =>
    rw [e p o h1] at h
    cases h
/-- what H does not have may change behind it -/
theorem Ex.mut {H H' : Hp} {p : Addr} {o : HO} (e : Ex H H') (h : H p = none) : Ex H (upd H' p o) := fun a u ha => by
  rw [upd_ne (ne_of_none ha h)]
  exact e a u ha
theorem Ex.rd {H H' : Hp} {a : Addr} {u : HO} (e : Ex H H') (h : Rd H a u) : Rd H' a u := by
  rcases h with h | ⟨o, h⟩
  · exact Or.inl (e a _ h)
  · exact Or.inr ⟨o, e a _ h⟩
theorem Ex.sqt {K : PySem.W.Frag} {H H' : Hp} {a : Addr} {xs : List V} (e : Ex H H') (h : SqT K H a xs) : SqT K H' a xs := by
  rcases h with h | h
  · exact Or.inl (e.rd h)
  · exact Or.inr h
theorem Ex.sql {K : PySem.W.Frag} {H H' : Hp} {a : Addr} {xs : List V} (e : Ex H H') (h : SqL K H a xs) : SqL K H' a xs := by
  rcases h with h | h
  · exact Or.inl (e.rd h)
  · exact Or.inr h

section
variable (K : PySem.W.Frag) (μ : List Addr) (G : Hp)
mutual
def Rep : D → V → Prop
  | .non, v => v = .non
  | .bl b, v => v = .bl b
  | .int i, v => v = .int i
  | .str x, v => v = .str x
  | .tup ds, v => ∃ a vs, v = .ref a ∧ SqT K G a vs ∧ Reps ds vs
  | .lst ds, v => ∃ a vs, v = .ref a ∧ G a = some (.lst vs) ∧ Reps ds vs
  | .frz ds, v => ∃ a vs, v = .ref a ∧ SqL K G a vs ∧ Reps ds vs
  | .loc n, v => ∃ a, v = .ref a ∧ μ[n]? = some a
def Reps : List D → List V → Prop
  | [], vs => vs = []
  | d :: ds, vs => ∃ v r, vs = v :: r ∧ Rep d v ∧ Reps ds r
end
end
/-- later: more places, more that is known -/
structure Fut (μ : List Addr) (G : Hp) (μ' : List Addr) (G' : Hp) : Prop where
  pl : ∃ l, μ' = μ ++ l
  ex : Ex G G'
theorem Fut.refl (μ : List Addr) (G : Hp) : Fut μ G μ G := ⟨⟨[], by simp⟩, Ex.refl G⟩
theorem Fut.trans {μ μ1 μ2 : List Addr} {G G1 G2 : Hp} (a : Fut μ G μ1 G1) (b : Fut μ1 G1 μ2 G2) : Fut μ G μ2 G2 := by
  obtain ⟨⟨l, rfl⟩, ea⟩ := a
  obtain ⟨⟨k, rfl⟩, eb⟩ := b
  exact ⟨⟨l ++ k, by simp⟩, ea.trans eb⟩
theorem Fut.at {μ μ' : List Addr} {G G' : Hp} (f : Fut μ G μ' G') {n : Nat} {a : Addr} (h : μ[n]? = some a) : μ'[n]? = some a := by
  obtain ⟨⟨l, rfl⟩, _⟩ := f
  rw [List.getElem?_append_left (List.getElem?_eq_some_iff.mp h).1]
  exact h
theorem Fut.know {μ : List Addr} {G G' : Hp} (e : Ex G G') : Fut μ G μ G' := ⟨⟨[], by simp⟩, e⟩

section
variable {K : PySem.W.Frag} {μ μ' : List Addr} {G G' : Hp}
mutual
theorem Rep.fut (f : Fut μ G μ' G') : ∀ {d : D} {v : V}, Rep K μ G d v → Rep K μ' G' d v
  | .non, _, h => by simpa [Rep] using h
  | .bl _, _, h => by simpa [Rep] using h
  | .int _, _, h => by simpa [Rep] using h
  | .str _, _, h => by simpa [Rep] using h
  | .tup ds, v, h => by
    unfold Rep at h ⊢
    obtain ⟨a, vs, e, s, r⟩ := h
    exact ⟨a, vs, e, f.ex.sqt s, Reps.fut f r⟩
  | .lst ds, v, h => by
    unfold Rep at h ⊢
    obtain ⟨a, vs, e, s, r⟩ := h
    exact ⟨a, vs, e, f.ex a _ s, Reps.fut f r⟩
  | .frz ds, v, h => by
    unfold Rep at h ⊢
    obtain ⟨a, vs, e, s, r⟩ := h
    exact ⟨a, vs, e, f.ex.sql s, Reps.fut f r⟩
  | .loc n, v, h => by
    unfold Rep at h ⊢
    obtain ⟨a, e, s⟩ := h
    exact ⟨a, e, f.at s⟩
theorem Reps.fut (f : Fut μ G μ' G') : ∀ {ds : List D} {vs : List V}, Reps K μ G ds vs → Reps K μ' G' ds vs
  | [], _, h => by simpa [Reps] using h
  | d :: ds, vs, h => by
    unfold Reps at h ⊢
    obtain ⟨v, r, e, h1, h2⟩ := h
    exact ⟨v, r, e, Rep.fut f h1, Reps.fut f h2⟩
end
theorem rep_non {v : V} (h : Rep K μ G .non v) : v = .non := by simpa [Rep] using h
theorem rep_bl {b : Bool} {v : V} (h : Rep K μ G (.bl b) v) : v = .bl b := by simpa [Rep] using h
theorem rep_int {i : Int} {v : V} (h : Rep K μ G (.int i) v) : v = .int i := by simpa [Rep] using h
theorem rep_str {x : Str} {v : V} (h : Rep K μ G (.str x) v) : v = .str x := by simpa [Rep] using h
theorem rep_tup {ds : List D} {v : V} (h : Rep K μ G (.tup ds) v) : ∃ a vs, v = .ref a ∧ SqT K G a vs ∧ Reps K μ G ds vs := by unfold Rep at h; exact h
theorem rep_lst {ds : List D} {v : V} (h : Rep K μ G (.lst ds) v) : ∃ a vs, v = .ref a ∧ G a = some (.lst vs) ∧ Reps K μ G ds vs := by unfold Rep at h; exact h
theorem rep_frz {ds : List D} {v : V} (h : Rep K μ G (.frz ds) v) : ∃ a vs, v = .ref a ∧ SqL K G a vs ∧ Reps K μ G ds vs := by unfold Rep at h; exact h
theorem rep_loc {n : Nat} {v : V} (h : Rep K μ G (.loc n) v) : ∃ a, v = .ref a ∧ μ[n]? = some a := by unfold Rep at h; exact h
theorem Rep.non : Rep K μ G .non .non := by simp [Rep]
theorem Rep.bl {b : Bool} : Rep K μ G (.bl b) (.bl b) := by simp [Rep]
theorem Rep.int {i : Int} : Rep K μ G (.int i) (.int i) := by simp [Rep]
theorem Rep.str {x : Str} : Rep K μ G (.str x) (.str x) := by simp [Rep]
theorem Rep.tup {ds : List D} {a : Addr} {vs : List V} (s : SqT K G a vs) (r : Reps K μ G ds vs) : Rep K μ G (.tup ds) (.ref a) := by
  unfold Rep
  exact ⟨a, vs, rfl, s, r⟩
theorem Rep.lst {ds : List D} {a : Addr} {vs : List V} (s : G a = some (.lst vs)) (r : Reps K μ G ds vs) : Rep K μ G (.lst ds) (.ref a) := by
  unfold Rep
  exact ⟨a, vs, rfl, s, r⟩
theorem Rep.frz {ds : List D} {a : Addr} {vs : List V} (s : SqL K G a vs) (r : Reps K μ G ds vs) : Rep K μ G (.frz ds) (.ref a) := by
  unfold Rep
  exact ⟨a, vs, rfl, s, r⟩
theorem Rep.loc {n : Nat} {a : Addr} (h : μ[n]? = some a) : Rep K μ G (.loc n) (.ref a) := by
  unfold Rep
  exact ⟨a, rfl, h⟩
theorem Reps.nil : Reps K μ G [] [] := by simp [Reps]
theorem Reps.cons {d : D} {ds : List D} {v : V} {vs : List V} (h : Rep K μ G d v) (t : Reps K μ G ds vs) : Reps K μ G (d :: ds) (v :: vs) := by
  unfold Reps
  exact ⟨v, vs, rfl, h, t⟩
theorem reps_nil {vs : List V} (h : Reps K μ G [] vs) : vs = [] := by simpa [Reps] using h
theorem reps_cons {d : D} {ds : List D} {vs : List V} (h : Reps K μ G (d :: ds) vs) : ∃ v r, vs = v :: r ∧ Rep K μ G d v ∧ Reps K μ G ds r := by unfold Reps at h; exact h
theorem Reps.length : ∀ {ds : List D} {vs : List V}, Reps K μ G ds vs → vs.length = ds.length
  | [], _, h => by rw [reps_nil h]; rfl
  | d :: ds, vs, h => by
    obtain ⟨v, r, rfl, _, t⟩ := reps_cons h
    rw [List.length_cons, List.length_cons, Reps.length t]
theorem Reps.get : ∀ {ds : List D} {vs : List V} {i : Nat} {d : D}, Reps K μ G ds vs → ds[i]? = some d → ∃ v, vs[i]? = some v ∧ Rep K μ G d v
  | [], _, i, d, _, e => by simp at e
  | x :: ds, vs, 0, d, h, e => by
    obtain ⟨v, r, rfl, hv, _⟩ := reps_cons h
    have e' : x = d := by simpa using e
    subst e'
    exact ⟨v, rfl, hv⟩
  | x :: ds, vs, i + 1, d, h, e => by
    obtain ⟨v, r, rfl, _, t⟩ := reps_cons h
    obtain ⟨w, hw, rw'⟩ := Reps.get (i := i) (d := d) t (by simpa using e)
    exact ⟨w, by simpa using hw, rw'⟩
theorem Reps.append : ∀ {ds es : List D} {vs ws : List V}, Reps K μ G ds vs → Reps K μ G es ws → Reps K μ G (ds ++ es) (vs ++ ws)
  | [], es, vs, ws, h, k => by rw [reps_nil h]; exact k
  | d :: ds, es, vs, ws, h, k => by
    obtain ⟨v, r, rfl, hv, t⟩ := reps_cons h
    exact .cons hv (Reps.append t k)
theorem Reps.set {d : D} {v : V} (hd : Rep K μ G d v) : ∀ {ds : List D} {vs : List V} (i : Nat), Reps K μ G ds vs → Reps K μ G (ds.set i d) (vs.set i v)
  | [], vs, i, h => by rw [reps_nil h]; exact .nil
  | x :: ds, vs, 0, h => by
    obtain ⟨v', r, rfl, _, t⟩ := reps_cons h
    exact .cons hd t
  | x :: ds, vs, i + 1, h => by
    obtain ⟨v', r, rfl, hx, t⟩ := reps_cons h
    exact .cons hx (Reps.set hd i t)
theorem Reps.take : ∀ {ds : List D} {vs : List V} (n : Nat), Reps K μ G ds vs → Reps K μ G (ds.take n) (vs.take n)
  | _, _, 0, _ => by simp [Reps]
  | [], vs, n + 1, h => by rw [reps_nil h]; exact .nil
  | x :: ds, vs, n + 1, h => by
    obtain ⟨v', r, rfl, hx, t⟩ := reps_cons h
    exact .cons hx (Reps.take n t)
theorem Reps.drop : ∀ {ds : List D} {vs : List V} (n : Nat), Reps K μ G ds vs → Reps K μ G (ds.drop n) (vs.drop n)
  | _, _, 0, h => h
  | [], vs, n + 1, h => by rw [reps_nil h]; exact .nil
  | x :: ds, vs, n + 1, h => by
    obtain ⟨v', r, rfl, hx, t⟩ := reps_cons h
    exact Reps.drop n t
theorem Reps.eraseIdx : ∀ {ds : List D} {vs : List V} (n : Nat), Reps K μ G ds vs → Reps K μ G (ds.eraseIdx n) (vs.eraseIdx n)
  | [], vs, n, h => by rw [reps_nil h]; exact .nil
  | x :: ds, vs, 0, h => by
    obtain ⟨v', r, rfl, hx, t⟩ := reps_cons h
    exact t
  | x :: ds, vs, n + 1, h => by
    obtain ⟨v', r, rfl, hx, t⟩ := reps_cons h
    exact .cons hx (Reps.eraseIdx n t)
theorem Reps.reverse : ∀ {ds : List D} {vs : List V}, Reps K μ G ds vs → Reps K μ G ds.reverse vs.reverse
  | [], vs, h => by rw [reps_nil h]; exact .nil
  | x :: ds, vs, h => by
    obtain ⟨v', r, rfl, hx, t⟩ := reps_cons h
    rw [List.reverse_cons, List.reverse_cons]
    exact (Reps.reverse t).append (.cons hx .nil)
theorem Reps.dropLast {ds : List D} {vs : List V} (h : Reps K μ G ds vs) : Reps K μ G ds.dropLast vs.dropLast := by
  rw [List.dropLast_eq_take, List.dropLast_eq_take, h.length]
  exact h.take _
theorem reps_ints : ∀ {ns : List Int} {vs : List V}, Reps K μ G (ns.map D.int) vs → vs = ns.map V.int
  | [], vs, h => reps_nil h
  | n :: ns, vs, h => by
    obtain ⟨v', r, rfl, hx, t⟩ := reps_cons h
    rw [rep_int hx, reps_ints t]
    rfl
theorem reps_bls : ∀ {bs : List Bool} {vs : List V}, Reps K μ G (bs.map D.bl) vs → vs = bs.map V.bl
  | [], vs, h => reps_nil h
  | n :: ns, vs, h => by
    obtain ⟨v', r, rfl, hx, t⟩ := reps_cons h
    rw [rep_bl hx, reps_bls t]
    rfl
theorem reps_strs : ∀ {ns : List Str} {vs : List V}, Reps K μ G (ns.map D.str) vs → vs = ns.map V.str
  | [], vs, h => reps_nil h
  | n :: ns, vs, h => by
    obtain ⟨v', r, rfl, hx, t⟩ := reps_cons h
    rw [rep_str hx, reps_strs t]
    rfl
theorem Reps.ints : ∀ {ns : List Int}, Reps K μ G (ns.map D.int) (ns.map V.int)
  | [] => .nil
  | _ :: _ => .cons .int Reps.ints
theorem Reps.strs : ∀ {ns : List Str}, Reps K μ G (ns.map D.str) (ns.map V.str)
  | [] => .nil
  | _ :: _ => .cons .str Reps.strs
end

/-! ### the store -/
/-- a key of a dict with int and text keys -/
def keyD : Key → D
  | .inl i => .int i
  | .inr x => .str x
def keyT (ks : List Key) : D := .tup (ks.map keyD)
section
variable (K : PySem.W.Frag) (mg : Str → Option Value) (μ : List Addr) (G : Hp)
/-- the pairs of a dict -/
def RepKV {κ : Type} : List (κ × D) → List (κ × V) → Prop
  | [], kvs => kvs = []
  | (k, d) :: r, kvs => ∃ v s, kvs = (k, v) :: s ∧ Rep K μ G d v ∧ RepKV r s
/-- attributes, fields -/
def RepF : List (Str × D) → List (Str × V) → Prop
  | [], fs => fs = []
  | (f, d) :: r, fs => ∃ v s, fs = (f, v) :: s ∧ Rep K μ G d v ∧ RepF r s
/-- what stands at an address for what may change -/
def RepO : Ob → HO → Prop
  | .lst ds, o => ∃ vs, o = .lst vs ∧ Reps K μ G ds vs
  | .dct kvs, o => ∃ ps, o = .dK ps ∧ RepKV K μ G kvs ps
  | .dtt kvs, o => ∃ ps, o = .dT ps ∧ RepKV K μ G kvs ps
  | .ins c fs, o => ∃ C dx gs, o = .ins C dx gs ∧ mg c = some (.ref C) ∧ RepF K μ G fs gs
/-- an exception behind the code that raised it -/
def RepX (e : Exn) (cls : Value) (dd : Option Addr) : Prop := ∃ C, cls = .ref C ∧ mg e.c = some (.ref C) ∧
  match dd with
  | some d => ∃ gs, G d = some (.xd gs) ∧ RepF K μ G e.fs gs
  | none => e.fs = []
/-- what is known of the heap: G never changes, F is somebody else's for now, the store's places -/
structure Kn (F : Hp) (st : Store) (H : Hp) : Prop where
  ex : Ex G H
  fr : Ex F H
  sep : ∀ a o, F a = some o → G a = none
  len : μ.length = st.length
  inj : μ.Nodup
  cell : ∀ (n : Nat) (ob : Ob), st[n]? = some (some ob) → ∃ a o, μ[n]? = some a ∧ G a = none ∧ F a = none ∧ H a = some o ∧ RepO K mg μ G ob o
  there : ∀ a ∈ μ, H a ≠ none
  out : ∀ a ∈ μ, F a = none
/-- the names' values -/
structure RepE (vs : Vars) (σ : L2.St) : Prop where
  len : vs.length = σ.length
  get : ∀ (i : Nat) (d : D), vs[i]? = some (some d) → ∃ v, σ[i]? = some (some v) ∧ Rep K μ G d v
end
section
variable {K : PySem.W.Frag} {mg : Str → Option Value} {μ μ' : List Addr} {G G' : Hp}
theorem RepKV.fut {κ : Type} (f : Fut μ G μ' G') : ∀ {l : List (κ × D)} {ps : List (κ × V)}, RepKV K μ G l ps → RepKV K μ' G' l ps
  | [], _, h => h
  | (k, d) :: r, ps, h => by
    obtain ⟨v, s, e, hv, t⟩ := h
    exact ⟨v, s, e, hv.fut f, RepKV.fut f t⟩
theorem RepF.fut (f : Fut μ G μ' G') : ∀ {l : List (Str × D)} {ps : List (Str × V)}, RepF K μ G l ps → RepF K μ' G' l ps
  | [], _, h => h
  | (k, d) :: r, ps, h => by
    obtain ⟨v, s, e, hv, t⟩ := h
    exact ⟨v, s, e, hv.fut f, RepF.fut f t⟩
theorem RepO.fut (f : Fut μ G μ' G') {ob : Ob} {o : HO} (h : RepO K mg μ G ob o) : RepO K mg μ' G' ob o := by
  cases ob with
  | lst ds =>
    obtain ⟨vs, e, r⟩ := h
    exact ⟨vs, e, r.fut f⟩
  | dct kvs =>
    obtain ⟨vs, e, r⟩ := h
    exact ⟨vs, e, r.fut f⟩
  | dtt kvs =>
    obtain ⟨vs, e, r⟩ := h
    exact ⟨vs, e, r.fut f⟩
  | ins c fs =>
    obtain ⟨C, dx, gs, e, m, r⟩ := h
    exact ⟨C, dx, gs, e, m, r.fut f⟩
theorem RepX.fut (f : Fut μ G μ' G') {e : Exn} {cls : Value} {dd : Option Addr} (h : RepX K mg μ G e cls dd) : RepX K mg μ' G' e cls dd := by
  obtain ⟨C, e1, e2, h⟩ := h
  refine ⟨C, e1, e2, ?_⟩
  cases dd with
  | none => exact h
  | some d =>
    obtain ⟨gs, g, r⟩ := h
    exact ⟨gs, f.ex d _ g, r.fut f⟩
theorem RepE.fut (f : Fut μ G μ' G') {vs : Vars} {σ : L2.St} (h : RepE K μ G vs σ) : RepE K μ' G' vs σ :=
  ⟨h.len, fun i d e => let ⟨v, hv, r⟩ := h.get i d e; ⟨v, hv, r.fut f⟩⟩
theorem RepE.set {vs : Vars} {σ : L2.St} (h : RepE K μ G vs σ) {d : D} {v : V} (r : Rep K μ G d v) (i : Nat) : RepE K μ G (vs.set i (some d)) (σ.set i (some v)) := by
  refine ⟨by rw [List.length_set, List.length_set, h.len], fun j e hj => ?_⟩
  by_cases hij : i = j
  · subst hij
    by_cases hl : i < vs.length
    · rw [List.getElem?_set_self hl] at hj
      have : d = e := by simpa using hj
      subst this
      exact ⟨v, List.getElem?_set_self (by rw [← h.len]; exact hl), r⟩
    · rw [List.getElem?_eq_none (by simpa using hl)] at hj
      cases hj
  · rw [List.getElem?_set_ne hij] at hj
    rw [List.getElem?_set_ne hij]
    exact h.get j e hj
/-- a name's value forgotten -/
theorem RepE.drop {vs : Vars} {σ : L2.St} (h : RepE K μ G vs σ) (i : Nat) : RepE K μ G (vs.set i none) σ := by
  refine ⟨by rw [List.length_set, h.len], fun j e hj => ?_⟩
  by_cases hij : i = j
  · subst hij
    by_cases hl : i < vs.length
    · rw [List.getElem?_set_self hl] at hj
      cases hj
    · rw [List.getElem?_eq_none (by simpa using hl)] at hj
      cases hj
  · rw [List.getElem?_set_ne hij] at hj
    exact h.get j e hj
/-- a new thing that is known for ever -/
theorem Kn.learn {F : Hp} {st : Store} {H : Hp} (k : Kn K mg μ G F st H) {p : Addr} {o : HO} (hp : H p = none) : Kn K mg μ (upd G p o) F st (upd H p o) := by
  have gp : G p = none := k.ex.free hp
  have fp : F p = none := k.fr.free hp
  have f : Fut μ G μ (upd G p o) := .know (.new gp)
  refine ⟨fun a u e => ?_, fun a u e => ?_, fun a u e => ?_, k.len, k.inj, fun n ob e => ?_, fun a ha => ?_, k.out⟩
  · by_cases h : a = p
    · subst h; rw [upd_same] at e ⊢; exact e
    · rw [upd_ne h] at e ⊢; exact k.ex a u e
  · rw [upd_ne (ne_of_none e fp)]
    exact k.fr a u e
  · rw [upd_ne (ne_of_none e fp)]
    exact k.sep a u e
  · obtain ⟨a, u, h1, h2, h3, h4, h5⟩ := k.cell n ob e
    have hne : a ≠ p := ne_of_none h4 hp
    exact ⟨a, u, h1, by rw [upd_ne hne]; exact h2, h3, by rw [upd_ne hne]; exact h4, h5.fut f⟩
  · by_cases h : a = p
    · subst h; rw [upd_same]; intro z; cases z
    · rw [upd_ne h]; exact k.there a ha
/-- a new thing that may change -/
theorem Kn.alloc {F : Hp} {st : Store} {H : Hp} (k : Kn K mg μ G F st H) {p : Addr} {o : HO} {ob : Ob} (hp : H p = none) (r : RepO K mg μ G ob o) :
    Kn K mg (μ ++ [p]) G F (st ++ [some ob]) (upd H p o) := by
  have gp : G p = none := k.ex.free hp
  have fp : F p = none := k.fr.free hp
  have f : Fut μ G (μ ++ [p]) G := ⟨⟨[p], rfl⟩, .refl G⟩
  have hm : p ∉ μ := fun h => k.there p h hp
  refine ⟨k.ex.mut gp, k.fr.mut fp, k.sep, by simp [k.len], List.nodup_append.mpr ⟨k.inj, by simp, fun a ha b hb => ?_⟩, fun n ob' e => ?_, fun a ha => ?_, fun a ha => ?_⟩
  · have : b = p := by simpa using hb
    subst this
    intro z
    subst z
    exact hm ha
  · by_cases hn : n < st.length
    · rw [List.getElem?_append_left hn] at e
      obtain ⟨a, u, h1, h2, h3, h4, h5⟩ := k.cell n ob' e
      have hne : a ≠ p := ne_of_none h4 hp
      exact ⟨a, u, f.at h1, h2, h3, by rw [upd_ne hne]; exact h4, h5.fut f⟩
    · have hn' : n = st.length := by
        have := (List.getElem?_eq_some_iff.mp e).1
        rw [List.length_append] at this
        simp at this
        omega
      subst hn'
      rw [List.getElem?_append_right (Nat.le_refl _), Nat.sub_self] at e
      have e' : ob = ob' := by simpa using e
      subst e'
      exact ⟨p, o, by rw [← k.len, List.getElem?_append_right (Nat.le_refl _), Nat.sub_self]; rfl, gp, fp, upd_same, r.fut f⟩
  · by_cases h : a = p
    · subst h; rw [upd_same]; intro z; cases z
    · rw [upd_ne h]
      rcases List.mem_append.mp ha with h1 | h1
      · exact k.there a h1
      · exact absurd (by simpa using h1) h
  · rcases List.mem_append.mp ha with h1 | h1
    · exact k.out a h1
    · have : a = p := by simpa using h1
      rw [this]
      exact fp
/-- what may change is changed -/
theorem Kn.write {F : Hp} {st : Store} {H : Hp} (k : Kn K mg μ G F st H) {n : Nat} {ob ob' : Ob} {o : HO} {a : Addr} (hn : st[n]? = some (some ob)) (ha : μ[n]? = some a) (r : RepO K mg μ G ob' o) :
    Kn K mg μ G F (st.set n (some ob')) (upd H a o) := by
  obtain ⟨a', u, h1, h2, h3, h4, h5⟩ := k.cell n ob hn
  rw [ha] at h1
  cases h1
  have nl : n < st.length := (List.getElem?_eq_some_iff.mp hn).1
  refine ⟨k.ex.mut h2, k.fr.mut h3, k.sep, by simp [k.len], k.inj, fun m ob2 e => ?_, fun b hb => ?_, k.out⟩
  · by_cases hm : n = m
    · subst hm
      rw [List.getElem?_set_self nl] at e
      have e' : ob' = ob2 := by simpa using e
      subst e'
      exact ⟨a, o, ha, h2, h3, upd_same, r⟩
    · rw [List.getElem?_set_ne hm] at e
      obtain ⟨b, u', g1, g2, g3, g4, g5⟩ := k.cell m ob2 e
      have hne : b ≠ a := by
        intro z
        subst z
        exact hm (L2.nd_ix k.inj ha g1)
      exact ⟨b, u', g1, g2, g3, by rw [upd_ne hne]; exact g4, g5⟩
  · by_cases h : b = a
    · subst h; rw [upd_same]; intro z; cases z
    · rw [upd_ne h]; exact k.there b hb
/-- a new thing that matters no longer -/
theorem Kn.junk {F : Hp} {st : Store} {H : Hp} (k : Kn K mg μ G F st H) {p : Addr} {o : HO} (hp : H p = none) : Kn K mg μ G F st (upd H p o) := by
  have gp : G p = none := k.ex.free hp
  have fp : F p = none := k.fr.free hp
  refine ⟨k.ex.mut gp, k.fr.mut fp, k.sep, k.len, k.inj, fun n ob e => ?_, fun a ha => ?_, k.out⟩
  · obtain ⟨a, u, h1, h2, h3, h4, h5⟩ := k.cell n ob e
    exact ⟨a, u, h1, h2, h3, by rw [upd_ne (ne_of_none h4 hp)]; exact h4, h5⟩
  · by_cases h : a = p
    · subst h; rw [upd_same]; intro z; cases z
    · rw [upd_ne h]; exact k.there a ha
end

/-! ### what an expression gives -/
inductive Re (α : Type) where
  | bad
  | ok (a : α) (st : Store)
  | exc (e : Exn) (st : Store)
/-- what the simplifier leaves alone: a function behind it stays as it is -/
abbrev Lk {α : Sort _} (_ : α) : Type := Unit
def Re.bind {α β : Type} (r : Re α) (k : α → Store → Re β) (_ : Lk k := Unit.unit) : Re β := match r with
  | .bad => .bad
  | .ok a st => k a st
  | .exc e st => .exc e st
abbrev EM := Vars → Store → Re D
abbrev EMs := Vars → Store → Re (List D)

section
variable (K : PySem.W.Frag) (mg : Str → Option Value) (W : WX)
def Done {α : Type} (σ : L2.St) (μ : List Addr) (G F : Hp) (r : Re α) (P : List Addr → Hp → α → Store → Hp → Prop) : Prop := match r with
  | .bad => False
  | .ok a st => ∀ μ' G' H', Fut μ G μ' G' → Kn K mg μ' G' F st H' → P μ' G' a st H'
  | .exc e st => ∀ μ' G' H' cls dd, Fut μ G μ' G' → Kn K mg μ' G' F st H' → RepX K mg μ' G' e cls dd → W cls dd σ H'
def tE (m : EM) : TE := fun σ H Q => ∃ vs st μ G F, RepE K μ G vs σ ∧ Kn K mg μ G F st H ∧ Done K mg W σ μ G F (m vs st) fun μ' G' d _ H' => ∀ v, Rep K μ' G' d v → Q v H'
def tT (m : EM) : TT := fun σ H Q => ∃ vs st μ G F, RepE K μ G vs σ ∧ Kn K mg μ G F st H ∧ Done K mg W σ μ G F (m vs st) fun _ _ d _ H' => ∃ b, d = .bl b ∧ Q b H'
def tA (m : EMs) : TA := fun σ H Q => ∃ vs st μ G F, RepE K μ G vs σ ∧ Kn K mg μ G F st H ∧ Done K mg W σ μ G F (m vs st) fun μ' G' ds _ H' => ∀ ws, Reps K μ' G' ds ws → Q ws H'
end
section
variable {K : PySem.W.Frag} {mg : Str → Option Value} {W : WX} {α β : Type} {σ : L2.St} {μ μ' : List Addr} {G G' F : Hp}
theorem Done.mono {r : Re α} {P P' : List Addr → Hp → α → Store → Hp → Prop} (h : Done K mg W σ μ G F r P)
    (k : ∀ μ' G' a st H', Fut μ G μ' G' → Kn K mg μ' G' F st H' → P μ' G' a st H' → P' μ' G' a st H') : Done K mg W σ μ G F r P' := by
  cases r with
  | bad => exact h
  | ok a st => exact fun μ' G' H' f kn => k μ' G' a st H' f kn (h μ' G' H' f kn)
  | exc e st => exact h
theorem Done.fut {r : Re α} {P : List Addr → Hp → α → Store → Hp → Prop} (f : Fut μ G μ' G') (h : Done K mg W σ μ G F r P) : Done K mg W σ μ' G' F r P := by
  cases r with
  | bad => exact h
  | ok a st => exact fun μ2 G2 H2 f2 kn => h μ2 G2 H2 (f.trans f2) kn
  | exc e st => exact fun μ2 G2 H2 cls dd f2 kn x => h μ2 G2 H2 cls dd (f.trans f2) kn x
theorem Done.bind {r : Re α} {k : α → Store → Re β} {P : List Addr → Hp → β → Store → Hp → Prop} (h : Done K mg W σ μ G F (r.bind k) P) :
    Done K mg W σ μ G F r fun μ' G' a st _ => Done K mg W σ μ' G' F (k a st) P := by
  cases r with
  | bad => exact h
  | ok a st => exact fun μ' G' H' f kn => Done.fut f h
  | exc e st => exact h
end

/-! ### weaker readings -/
section
variable {X : Cx} {e : Expr} {es : List Expr}
theorem _root_.L2.PE.of {t t' : TE} (h : PE X e t) (k : ∀ σ H Q, t' σ H Q → t σ H Q) : PE X e t' := ⟨fun pins s σ H Q I q => h.run pins s σ H Q I (k σ H Q q)⟩
theorem _root_.L2.PT.of {t t' : TT} (h : PT X e t) (k : ∀ σ H Q, t' σ H Q → t σ H Q) : PT X e t' := ⟨fun pins s σ H Q I q => h.run pins s σ H Q I (k σ H Q q)⟩
theorem _root_.L2.PW.of {t t' : TT} (h : PW X e t) (k : ∀ σ H Q, t' σ H Q → t σ H Q) : PW X e t' := ⟨fun wh pins s σ H Q I q => h.run wh pins s σ H Q I (k σ H Q q)⟩
theorem _root_.L2.PA.of {t t' : TA} (h : PA X es t) (k : ∀ σ H Q, t' σ H Q → t σ H Q) : PA X es t' := ⟨fun pos pins s σ H Q I q => h.run pos pins s σ H Q I (k σ H Q q)⟩
theorem _root_.L2.PS.of {s : Stmt} {t t' : TS} (h : PS X s t) (k : ∀ D σ H, t' D σ H → t D σ H) : PS X s t' := ⟨fun pins s σ H D I q => h.run pins s σ H D I (k D σ H q)⟩
theorem _root_.L2.PSs.of {s : List Stmt} {t t' : TS} (h : PSs X s t) (k : ∀ D σ H, t' D σ H → t D σ H) : PSs X s t' := ⟨fun pins s σ H D I q => h.run pins s σ H D I (k D σ H q)⟩
end
end Dn
namespace Dn
open PySem PySem.Spec PyProof.Rows L2

/-! ### operations on data -/
abbrev room (n : Nat) : Prop := n ≤ 1000000
theorem room_line {n : Nat} (h : room n) : n ≤ sizeLine := Nat.le_trans h (by decide)
theorem room_lt {n : Nat} (h : room n) : n < sizeLine := Nat.lt_of_le_of_lt h (by decide)
def cell (st : Store) (n : Nat) : Option Ob := (st[n]?).join
def lstAt (st : Store) (n : Nat) : Option (List D) := match cell st n with
  | some (.lst ds) => some ds
  | _ => none
def seqOf (st : Store) : D → Option (List D)
  | .tup ds => some ds
  | .lst ds => some ds
  | .frz ds => some ds
  | .loc n => lstAt st n
  | _ => none
def lstOf (st : Store) : D → Option (List D)
  | .lst ds => some ds
  | .loc n => lstAt st n
  | _ => none
theorem lstAt_cell {st : Store} {n : Nat} {ds : List D} (h : lstAt st n = some ds) : cell st n = some (.lst ds) := by
  unfold lstAt at h
  split at h
  · rename_i e
    rw [e]
    injection h with h
    rw [h]
  · cases h
theorem cell_some {st : Store} {n : Nat} {ob : Ob} (h : cell st n = some ob) : st[n]? = some (some ob) := by
  unfold cell at h
  cases e : st[n]? with
  | none => rw [e] at h; cases h
  | some o =>
    rw [e] at h
    have h' : o = some ob := h
    rw [h']
section
variable {K : PySem.W.Frag} {mg : Str → Option Value} {W : WX} {σ : L2.St} {μ : List Addr} {G F : Hp} {st : Store} {H : Hp} {d : D} {ds : List D} {v : V} {vs : List V} {Q : VK}
theorem lstOf_rep (k : Kn K mg μ G F st H) (r : Rep K μ G d v) (e : lstOf st d = some ds) : ∃ a vs, v = .ref a ∧ H a = some (.lst vs) ∧ Reps K μ G ds vs := by
  cases d with
  | lst xs =>
    obtain ⟨a, vs, rfl, g, q⟩ := rep_lst r
    have : xs = ds := by simpa [lstOf] using e
    subst this
    exact ⟨a, vs, rfl, k.ex a _ g, q⟩
  | loc n =>
    obtain ⟨a, rfl, ha⟩ := rep_loc r
    obtain ⟨a', o, h1, _, _, h4, vs, rfl, q⟩ := k.cell n _ (cell_some (lstAt_cell e))
    rw [ha] at h1
    cases h1
    exact ⟨a, vs, rfl, h4, q⟩
  | _ => cases e
theorem seqOf_rep (k : Kn K mg μ G F st H) (r : Rep K μ G d v) (e : seqOf st d = some ds) : ∃ a vs, v = .ref a ∧ (SqL K H a vs ∨ SqT K H a vs) ∧ Reps K μ G ds vs := by
  cases d with
  | tup xs =>
    obtain ⟨a, vs, rfl, g, q⟩ := rep_tup r
    have : xs = ds := by simpa [seqOf] using e
    subst this
    exact ⟨a, vs, rfl, .inr (k.ex.sqt g), q⟩
  | lst xs =>
    obtain ⟨a, vs, h1, h2, h3⟩ := lstOf_rep (ds := ds) k r e
    exact ⟨a, vs, h1, .inl (.of h2), h3⟩
  | frz xs =>
    obtain ⟨a, vs, rfl, g, q⟩ := rep_frz r
    have : xs = ds := by simpa [seqOf] using e
    subst this
    exact ⟨a, vs, rfl, .inl (k.ex.sql g), q⟩
  | loc n =>
    obtain ⟨a, vs, h1, h2, h3⟩ := lstOf_rep (ds := ds) k r e
    exact ⟨a, vs, h1, .inl (.of h2), h3⟩
  | _ => cases e
/-- what a value-level answer asks -/
abbrev Fin (K : PySem.W.Frag) (Q : VK) : List Addr → Hp → D → Store → Hp → Prop := fun μ' G' d _ H' => ∀ z, Rep K μ' G' d z → Q z H'
theorem Done.here {α : Type} {a : α} {P : List Addr → Hp → α → Store → Hp → Prop} (k : Kn K mg μ G F st H) (h : Done K mg W σ μ G F (.ok a st) P) : P μ G a st H := h μ G H (.refl μ G) k
theorem fin_here {z : V} (k : Kn K mg μ G F st H) (h : Done K mg W σ μ G F (.ok d st) (Fin K Q)) (r : Rep K μ G d z) : Q z H := h μ G H (.refl μ G) k z r
/-- a new list: by value, or at a place -/
def mkNew (b : Bool) (ds : List D) (st : Store) : Re D := match b with
  | true => .ok (.loc st.length) (st ++ [some (.lst ds)])
  | false => .ok (.lst ds) st
theorem new_list {b : Bool} (k : Kn K mg μ G F st H) (r : Reps K μ G ds vs) (h : Done K mg W σ μ G F (mkNew b ds st) (Fin K Q)) : ∀ p, H p = none → Q (.ref p) (upd H p (.lst vs)) := fun p hp => by
  cases b with
  | true =>
    refine h (μ ++ [p]) G _ ⟨⟨[p], rfl⟩, .refl G⟩ (k.alloc hp ⟨vs, rfl, r⟩) _ (.loc ?_)
    rw [← k.len, List.getElem?_append_right (Nat.le_refl _), Nat.sub_self]
    rfl
  | false =>
    have f : Fut μ G μ (upd G p (.lst vs)) := .know (.new (k.ex.free hp))
    exact h μ _ _ f (k.learn hp) _ (.lst upd_same (r.fut f))
theorem new_tup (k : Kn K mg μ G F st H) (r : Reps K μ G ds vs) (h : Done K mg W σ μ G F (.ok (.tup ds) st) (Fin K Q)) : ∀ p, H p = none → Q (.ref p) (upd H p (.tup vs)) := fun p hp => by
  have f : Fut μ G μ (upd G p (.tup vs)) := .know (.new (k.ex.free hp))
  exact h μ _ _ f (k.learn hp) _ (.tup (.of upd_same) (r.fut f))
end

/-! ### data as PyData -/
mutual
def pd : D → PyData
  | .non => .none
  | .bl b => .bool b
  | .int i => .int i
  | .str x => .str x
  | .tup ds => .tuple (pds ds)
  | .lst ds => .list (pds ds)
  | .frz _ => .none
  | .loc _ => .none
def pds : List D → List PyData
  | [] => []
  | d :: ds => pd d :: pds ds
end
/-- of bounded depth, without places -/
def okd : Nat → D → Bool
  | _, .non => true
  | _, .bl _ => true
  | _, .int _ => true
  | _, .str x => PyData.strOk x
  | 0, _ => false
  | n + 1, .tup ds => ds.all (okd n)
  | n + 1, .lst ds => ds.all (okd n)
  | _, .frz _ => false
  | _, .loc _ => false
theorem pds_map : ∀ ds : List D, pds ds = ds.map pd
  | [] => rfl
  | d :: ds => by rw [pds, pds_map ds]; rfl
theorem okd_shape : ∀ (n : Nat) (d : D), okd n d = true → (pd d).canLay0 = true ∧ (pd d).depth ≤ n := by
  have all : ∀ (n : Nat), (∀ d : D, okd n d = true → (pd d).canLay0 = true ∧ (pd d).depth ≤ n) → ∀ ds : List D, ds.all (okd n) = true → PyData.canLayAll0 (pds ds) = true ∧ PyData.depthAll (pds ds) ≤ n := by
    intro n ih ds
    induction ds with
    | nil => intro _; simp [pds, PyData.canLayAll0, PyData.depthAll]
    | cons d ds ih2 =>
      intro h
      rw [List.all_cons, Bool.and_eq_true] at h
      obtain ⟨h1, h2⟩ := ih d h.1
      obtain ⟨g1, g2⟩ := ih2 h.2
      rw [pds, PyData.canLayAll0, PyData.depthAll, h1, g1]
      exact ⟨rfl, by omega⟩
  intro n
  induction n with
  | zero =>
    intro d h
    cases d <;> simp_all [okd, pd, PyData.canLay0, PyData.depth]
  | succ n ih =>
    intro d h
    cases d with
    | tup ds =>
      have := all n ih ds (by simpa [okd] using h)
      simp only [pd, PyData.canLay0, PyData.depth]
      exact ⟨this.1, by omega⟩
    | lst ds =>
      have := all n ih ds (by simpa [okd] using h)
      simp only [pd, PyData.canLay0, PyData.depth]
      exact ⟨this.1, by omega⟩
    | _ => simp_all [okd, pd, PyData.canLay0, PyData.depth]
theorem okd_shaped {d : D} (h : okd 60 d = true) : SeqAt.shaped (pd d) = true := by
  obtain ⟨h1, h2⟩ := okd_shape 60 d h
  unfold SeqAt.shaped
  rw [h1, decide_eq_true (by omega)]
  rfl
section
variable {K : PySem.W.Frag} {μ : List Addr} {G H : Hp}
theorem rep_dp (e : Ex G H) : ∀ (n : Nat) (d : D) (v : V), okd n d = true → Rep K μ G d v → Dp K H v (pd d) := by
  have all : ∀ (n : Nat), (∀ (d : D) (v : V), okd n d = true → Rep K μ G d v → Dp K H v (pd d)) → ∀ (ds : List D) (vs : List V), ds.all (okd n) = true → Reps K μ G ds vs → DpAll K H vs (pds ds) := by
    intro n ih ds
    induction ds with
    | nil =>
      intro vs _ r
      rw [reps_nil r]
      exact .nil
    | cons d ds ih2 =>
      intro vs h r
      rw [List.all_cons, Bool.and_eq_true] at h
      obtain ⟨v, t, rfl, hv, ht⟩ := reps_cons r
      exact .cons (ih d v h.1 hv) (ih2 t h.2 ht)
  intro n
  induction n with
  | zero =>
    intro d v h r
    cases d with
    | non => rw [rep_non r]; exact .non
    | bl b => rw [rep_bl r]; exact .bl b
    | int i => rw [rep_int r]; exact .int i
    | str x => rw [rep_str r]; exact .str x
    | _ => simp [okd] at h
  | succ n ih =>
    intro d v h r
    cases d with
    | non => rw [rep_non r]; exact .non
    | bl b => rw [rep_bl r]; exact .bl b
    | int i => rw [rep_int r]; exact .int i
    | str x => rw [rep_str r]; exact .str x
    | tup ds =>
      obtain ⟨a, vs, rfl, s, q⟩ := rep_tup r
      exact .tup (e.sqt s) (all n ih ds vs (by simpa [okd] using h) q)
    | lst ds =>
      obtain ⟨a, vs, rfl, s, q⟩ := rep_lst r
      exact .lst (.of (e a _ s)) (all n ih ds vs (by simpa [okd] using h) q)
    | frz _ => simp [okd] at h
    | loc _ => simp [okd] at h
end
/-- a list at a place stands for its items -/
def resD (st : Store) : D → D
  | .loc n => match lstAt st n with
    | some ds => .lst ds
    | none => .loc n
  | d => d
def eqvD (x y : D) : Bool := PyData.eqv (pd x) (pd y)
section
variable {K : PySem.W.Frag} {mg : Str → Option Value} {μ : List Addr} {G F : Hp} {st : Store} {H : Hp} {d : D} {v : V}
theorem res_dp (k : Kn K mg μ G F st H) (r : Rep K μ G d v) (h : okd 60 (resD st d) = true) : Dp K H v (pd (resD st d)) := by
  cases d with
  | loc n =>
    cases hc : lstAt st n with
    | none =>
      have e : resD st (.loc n) = .loc n := by simp only [resD, hc]
      rw [e] at h
      simp [okd] at h
    | some ds =>
      have e : resD st (.loc n) = .lst ds := by simp only [resD, hc]
      rw [e] at h ⊢
      obtain ⟨a, vs, rfl, h2, h3⟩ := lstOf_rep (ds := ds) k r hc
      refine .lst (.of h2) ?_
      have h' : ds.all (okd 59) = true := by simpa [okd] using h
      clear e h hc r h2
      induction ds generalizing vs with
      | nil => rw [reps_nil h3]; exact .nil
      | cons d ds ih =>
        obtain ⟨v, t, rfl, hv, ht⟩ := reps_cons h3
        rw [List.all_cons, Bool.and_eq_true] at h'
        exact .cons (rep_dp k.ex 59 d v h'.1 hv) (ih t ht h'.2)
  | _ => exact rep_dp k.ex 60 _ v h r
end

/-! ### operators on data -/
def addD (b : Bool) (x y : D) (st : Store) : Re D := match x, y with
  | .int i, .int j => .ok (.int (i + j)) st
  | .str s, .str t => if room (s.length + t.length) then .ok (.str (s ++ t)) st else .bad
  | .tup u, .tup w => if room (u.length + w.length) then .ok (.tup (u ++ w)) st else .bad
  | x, y => match lstOf st x, lstOf st y with
    | some u, some w => if room (u.length + w.length) then mkNew b (u ++ w) st else .bad
    | _, _ => .bad
def subD (x y : D) (st : Store) : Re D := match x, y with
  | .int i, .int j => .ok (.int (i - j)) st
  | _, _ => .bad
def mulD (b : Bool) (x y : D) (st : Store) : Re D := match x, y with
  | .int i, .int j => if (-(2 ^ 64) < i ∧ i < 2 ^ 64) ∨ (-(2 ^ 64) < j ∧ j < 2 ^ 64) then .ok (.int (i * j)) st else .bad
  | .tup u, .int k => if u ≠ [] ∧ 2 ≤ k ∧ k ≤ 1000 ∧ u.length ≤ 1000 then .ok (.tup (List.replicate k.toNat u).flatten) st else .bad
  | x, .int k => match lstOf st x with
    | some u => if -(2 ^ 63) ≤ k ∧ k < 2 ^ 63 ∧ room (u.length * k.toNat) then mkNew b (List.replicate k.toNat u).flatten st else .bad
    | _ => .bad
  | _, _ => .bad
def fdivD (x y : D) (st : Store) : Re D := match x, y with
  | .int i, .int j => if 0 < j ∧ j < 1073741824 then .ok (.int (i / j)) st else .bad
  | _, _ => .bad
def modD (x y : D) (st : Store) : Re D := match x, y with
  | .int i, .int j => if 0 < j then .ok (.int (i % j)) st else .bad
  | _, _ => .bad
def powD (x y : D) (st : Store) : Re D := match x, y with
  | .int i, .int j => if 0 ≤ j ∧ j ≤ 1000000 ∧ i.natAbs < 2 ^ 64 then .ok (.int (i ^ j.toNat)) st else .bad
  | _, _ => .bad
def shlD (x y : D) (st : Store) : Re D := match x, y with
  | .int i, .int j => if 0 ≤ j ∧ j ≤ 1000000 ∧ i.natAbs < 2 ^ 64 then .ok (.int (i * 2 ^ j.toNat)) st else .bad
  | _, _ => .bad
def shrD (x y : D) (st : Store) : Re D := match x, y with
  | .int i, .int j => if 0 ≤ j then .ok (.int (i / 2 ^ j.toNat)) st else .bad
  | _, _ => .bad
def andD (x y : D) (st : Store) : Re D := match x, y with
  | .int i, .int j => .ok (.int (Builtin.bitAnd i j)) st
  | _, _ => .bad
/-- == by data -/
def eqB (st : Store) (x y : D) : Option Bool := match x, y with
  | .non, .non => some true
  | .int i, .int j => some (decide (i = j))
  | .bl i, .bl j => some (decide (i = j))
  | .str i, .str j => some (decide (i = j))
  | x, y => if okd 60 (resD st x) && okd 60 (resD st y) then some (eqvD (resD st x) (resD st y)) else none
def eqD (x y : D) (st : Store) : Re D := match eqB st x y with
  | some b => .ok (.bl b) st
  | none => .bad
def neD (x y : D) (st : Store) : Re D := match eqB st x y with
  | some b => .ok (.bl !b) st
  | none => .bad
def ltD (x y : D) (st : Store) : Re D := match x, y with
  | .int i, .int j => .ok (.bl (decide (i < j))) st
  | .str i, .str j => .ok (.bl (decide (i.cps.toList < j.cps.toList))) st
  | _, _ => .bad
def leD (x y : D) (st : Store) : Re D := match x, y with
  | .int i, .int j => .ok (.bl (decide (i ≤ j))) st
  | _, _ => .bad
def gtD (x y : D) (st : Store) : Re D := match x, y with
  | .int i, .int j => .ok (.bl (decide (j < i))) st
  | _, _ => .bad
def geD (x y : D) (st : Store) : Re D := match x, y with
  | .int i, .int j => .ok (.bl (decide (j ≤ i))) st
  | _, _ => .bad
def isNon : D → Bool
  | .non => true
  | _ => false
def isD (x y : D) (st : Store) : Re D := match x, y with
  | .bl i, .bl j => .ok (.bl (decide (i = j))) st
  | x, .non => .ok (.bl (isNon x)) st
  | _, _ => .bad
def isnotD (x y : D) (st : Store) : Re D := match x, y with
  | .bl i, .bl j => .ok (.bl (!decide (i = j))) st
  | x, .non => .ok (.bl (!isNon x)) st
  | _, _ => .bad
def flatD : D → Bool
  | .non | .bl _ | .int _ | .str _ => true
  | _ => false
def inB (st : Store) (x y : D) : Option Bool := match x, y with
  | .str c, .str z => match c.cps.toList with
    | [s] => some (decide (s ∈ z.cps.toList))
    | _ => none
  | x, y => match seqOf st y with
    | some ds => if flatD x && ds.all flatD then some (ds.any fun z => eqvD z x)
      else if okd 60 x && ds.all (okd 59) then some (ds.any fun z => eqvD z x) else none
    | none => none
def inD (x y : D) (st : Store) : Re D := match inB st x y with
  | some b => .ok (.bl b) st
  | none => .bad
def ninD (x y : D) (st : Store) : Re D := match inB st x y with
  | some b => .ok (.bl !b) st
  | none => .bad
def ixD (x y : D) (st : Store) : Re D := match x, y with
  | .str z, .int i => if room z.length then (match atI z.cps.toList i with | some c => .ok (.str ⟨#[c]⟩) st | none => .bad) else .bad
  | x, .int i => match seqOf st x with
    | some ds => (match atI ds i with | some d => .ok d st | none => .bad)
    | none => .bad
  | _, _ => .bad
def negD (x : D) (st : Store) : Re D := match x with
  | .int i => .ok (.int (-i)) st
  | _ => .bad
def truthB (st : Store) : D → Option Bool
  | .non => some false
  | .bl b => some b
  | .int i => some (i != 0)
  | .str z => if room z.length then some ((z.length : Int) != 0) else none
  | .tup ds => some (!ds.isEmpty)
  | .lst ds => some (!ds.isEmpty)
  | .frz ds => some (!ds.isEmpty)
  | .loc n => match cell st n with
    | some (.lst ds) => some (!ds.isEmpty)
    | some (.dct kvs) => some (!kvs.isEmpty)
    | _ => none
/-- a slice -/
def cutD (ds : List D) (lo hi : Option Int) : List D := (ds.drop (HT.sIx ds.length 0 lo)).take (HT.sIx ds.length ds.length hi - HT.sIx ds.length 0 lo)
def sliceD (b : Bool) (x : D) (lo hi : Option Int) (st : Store) : Re D := match x with
  | .tup ds => .ok (.tup (cutD ds lo hi)) st
  | .str z => .bad
  | x => match lstOf st x with
    | some ds => mkNew b (cutD ds lo hi) st
    | none => .bad

/-! ### they are what the operators do -/
section
variable (K : PySem.W.Frag) (mg : Str → Option Value)
def S2 (f : D → D → Store → Re D) (r : R2) : Prop := ∀ (W : WX) (σ : L2.St) (μ : List Addr) (G F : Hp) (st : Store) (H : Hp) (x y : D) (v w : V) (Q : VK), Kn K mg μ G F st H → Rep K μ G x v → Rep K μ G y w →
  Done K mg W σ μ G F (f x y st) (Fin K Q) → r v w H Q
def S1 (f : D → Store → Re D) (r : V → Hp → VK → Prop) : Prop := ∀ (W : WX) (σ : L2.St) (μ : List Addr) (G F : Hp) (st : Store) (H : Hp) (x : D) (v : V) (Q : VK), Kn K mg μ G F st H → Rep K μ G x v →
  Done K mg W σ μ G F (f x st) (Fin K Q) → r v H Q
def SN (f : List D → Store → Re D) (r : List V → Hp → VK → Prop) : Prop := ∀ (W : WX) (σ : L2.St) (μ : List Addr) (G F : Hp) (st : Store) (H : Hp) (xs : List D) (vs : List V) (Q : VK), Kn K mg μ G F st H → Reps K μ G xs vs →
  Done K mg W σ μ G F (f xs st) (Fin K Q) → r vs H Q
end
section
variable {X : Cx} {K : PySem.W.Frag} {mg : Str → Option Value}
/-- by lists alone -/
theorem lists2 {f : List D → List D → Store → Re D} {st : Store} {x y : D} {W : WX} {σ : L2.St} {μ : List Addr} {G F : Hp} {P : List Addr → Hp → D → Store → Hp → Prop}
    (h : Done K mg W σ μ G F (match lstOf st x, lstOf st y with | some u, some w => f u w st | _, _ => .bad) P) : ∃ u w, lstOf st x = some u ∧ lstOf st y = some w ∧ Done K mg W σ μ G F (f u w st) P := by
  cases e1 : lstOf st x with
  | none => rw [e1] at h; exact h.elim
  | some u =>
    cases e2 : lstOf st y with
    | none => rw [e1, e2] at h; exact h.elim
    | some w =>
      rw [e1, e2] at h
      exact ⟨u, w, rfl, rfl, h⟩
abbrev rAddA (K : PySem.W.Frag) : R2 := fun x y H Q => (rI0 fun i j => .int (i + j)) x y H Q ∨ ((∃ i j, x = .str i ∧ y = .str j ∧ i.length + j.length ≤ sizeLine ∧ Q (.str (i ++ j)) H) ∨ (rCat x y H Q ∨ rCatA K x y H Q))
theorem or_add : OpR X (binaryOp .Add) (rAddA X.K) := op_add.or (op_add_str.or (op_cat.or op_catA))
theorem ite_done {c : Prop} [Decidable c] {r : Re D} {W : WX} {σ : L2.St} {μ : List Addr} {G F : Hp} {P : List Addr → Hp → D → Store → Hp → Prop} (h : Done K mg W σ μ G F (if c then r else .bad) P) : c ∧ Done K mg W σ μ G F r P := by
  by_cases hc : c
  · rw [if_pos hc] at h; exact ⟨hc, h⟩
  · rw [if_neg hc] at h; exact h.elim
theorem s_add (b : Bool) : S2 K mg (addD b) (rAddA K) := by
  intro W σ μ G F st H x y v w Q k rx ry h
  have lists : (Done K mg W σ μ G F (match lstOf st x, lstOf st y with | some u, some w => if room (u.length + w.length) then mkNew b (u ++ w) st else .bad | _, _ => .bad) (Fin K Q)) → rAddA K v w H Q := by
    intro h
    obtain ⟨u, w', e1, e2, h⟩ := lists2 (f := fun u w st => if room (u.length + w.length) then mkNew b (u ++ w) st else .bad) h
    obtain ⟨hr, h⟩ := ite_done h
    obtain ⟨a, us, rfl, ha, ru⟩ := lstOf_rep k rx e1
    obtain ⟨c, ws, rfl, hc, rw'⟩ := lstOf_rep k ry e2
    refine .inr (.inr (.inl ⟨a, c, us, ws, rfl, rfl, ha, hc, ?_, new_list k (ru.append rw') h⟩))
    rw [ru.length, rw'.length]
    exact room_line hr
  unfold addD at h
  split at h
  · rw [rep_int rx, rep_int ry]
    exact .inl ⟨_, _, rfl, rfl, fin_here k h .int⟩
  · obtain ⟨hr, h⟩ := ite_done h
    rw [rep_str rx, rep_str ry]
    exact .inr (.inl ⟨_, _, rfl, rfl, room_line hr, fin_here k h .str⟩)
  · rename_i us ws
    obtain ⟨hr, h⟩ := ite_done h
    obtain ⟨a, vs, rfl, ha, ru⟩ := rep_tup rx
    obtain ⟨c, zs, rfl, hc, rz⟩ := rep_tup ry
    refine .inr (.inr (.inr ⟨a, c, vs, zs, rfl, rfl, k.ex.sqt ha, k.ex.sqt hc, by rw [ru.length, rz.length]; exact room_line hr, fun e => ?_, fun _ e => ?_, fun _ _ => new_tup k (ru.append rz) h⟩))
    · subst e
      have : us = [] := by
        have := ru.length
        simpa using this.symm
      subst this
      exact fin_here k h ry
    · subst e
      have : ws = [] := by
        have := rz.length
        simpa using this.symm
      subst this
      rw [List.append_nil] at h
      exact fin_here k h rx
  · exact lists h
theorem s_sub : S2 K mg subD (rI0 fun i j => .int (i - j)) := by
  intro W σ μ G F st H x y v w Q k rx ry h
  unfold subD at h
  split at h
  · rw [rep_int rx, rep_int ry]
    exact ⟨_, _, rfl, rfl, fin_here k h .int⟩
  · exact h.elim
abbrev rMulA (K : PySem.W.Frag) : R2 := fun x y H Q => (rI CMul fun i j => .int (i * j)) x y H Q ∨ (rRep x y H Q ∨ rRepT K x y H Q)
theorem or_mul : OpR X (binaryOp .Mult) (rMulA X.K) := op_mul.or (op_rep.or op_repT)
theorem Reps.rep {μ : List Addr} {G : Hp} {ds : List D} {vs : List V} (h : Reps K μ G ds vs) : ∀ n : Nat, Reps K μ G (List.replicate n ds).flatten (List.replicate n vs).flatten
  | 0 => .nil
  | n + 1 => by
    rw [List.replicate_succ, List.replicate_succ, List.flatten_cons, List.flatten_cons]
    exact h.append (Reps.rep h n)
theorem s_mul (b : Bool) : S2 K mg (mulD b) (rMulA K) := by
  intro W σ μ G F st H x y v w Q k rx ry h
  unfold mulD at h
  split at h
  · obtain ⟨hr, h⟩ := ite_done h
    rw [rep_int rx, rep_int ry]
    exact .inl ⟨_, _, rfl, rfl, hr, fin_here k h .int⟩
  · obtain ⟨⟨h1, h2, h3, h4⟩, h⟩ := ite_done h
    obtain ⟨a, vs, rfl, ha, ru⟩ := rep_tup rx
    rw [rep_int ry]
    refine .inr (.inr ⟨a, _, vs, rfl, rfl, k.ex.sqt ha, fun e => ?_, h2, h3, by rw [ru.length]; exact h4, new_tup k (ru.rep _) h⟩)
    subst e
    exact h1 (by simpa using ru.length.symm)
  · split at h
    · rename_i us e
      obtain ⟨⟨h1, h2, h3⟩, h⟩ := ite_done h
      obtain ⟨a, vs, rfl, ha, ru⟩ := lstOf_rep k rx e
      rw [rep_int ry]
      exact .inr (.inl ⟨a, _, vs, rfl, rfl, ha, h1, h2, by rw [ru.length]; exact room_line h3, new_list k (ru.rep _) h⟩)
    · exact h.elim
  · exact h.elim
theorem s_int {f : D → D → Store → Re D} {C : Int → Int → Prop} {g : Int → Int → V} (hf : ∀ W σ μ G F st x y P, Done K mg W σ μ G F (f x y st) P → ∃ i j, x = .int i ∧ y = .int j ∧ C i j ∧ ∃ d, (∀ μ G, Rep K μ G d (g i j)) ∧ Done K mg W σ μ G F (.ok d st) P) : S2 K mg f (rI C g) := by
  intro W σ μ G F st H x y v w Q k rx ry h
  obtain ⟨i, j, rfl, rfl, hc, d, hd, h⟩ := hf _ _ _ _ _ _ _ _ _ h
  rw [rep_int rx, rep_int ry]
  exact ⟨i, j, rfl, rfl, hc, fin_here k h (hd _ _)⟩
theorem s_int0 {f : D → D → Store → Re D} {g : Int → Int → V} (hf : ∀ W σ μ G F st x y P, Done K mg W σ μ G F (f x y st) P → ∃ i j, x = .int i ∧ y = .int j ∧ ∃ d, (∀ μ G, Rep K μ G d (g i j)) ∧ Done K mg W σ μ G F (.ok d st) P) : S2 K mg f (rI0 g) := by
  intro W σ μ G F st H x y v w Q k rx ry h
  obtain ⟨i, j, rfl, rfl, d, hd, h⟩ := hf _ _ _ _ _ _ _ _ _ h
  rw [rep_int rx, rep_int ry]
  exact ⟨i, j, rfl, rfl, fin_here k h (hd _ _)⟩
theorem s_fdiv : S2 K mg fdivD (rI CDiv fun i j => .int (i / j)) := s_int fun W σ μ G F st x y P h => by
  unfold fdivD at h
  split at h
  · obtain ⟨hr, h⟩ := ite_done h
    exact ⟨_, _, rfl, rfl, hr, _, fun _ _ => .int, h⟩
  · exact h.elim
theorem s_mod : S2 K mg modD (rI (fun _ j => 0 < j) fun i j => .int (i % j)) := s_int fun W σ μ G F st x y P h => by
  unfold modD at h
  split at h
  · obtain ⟨hr, h⟩ := ite_done h
    exact ⟨_, _, rfl, rfl, hr, _, fun _ _ => .int, h⟩
  · exact h.elim
theorem s_pow : S2 K mg powD (rI CPow fun i j => .int (i ^ j.toNat)) := s_int fun W σ μ G F st x y P h => by
  unfold powD at h
  split at h
  · obtain ⟨hr, h⟩ := ite_done h
    exact ⟨_, _, rfl, rfl, hr, _, fun _ _ => .int, h⟩
  · exact h.elim
theorem s_shl : S2 K mg shlD (rI CPow fun i j => .int (i * 2 ^ j.toNat)) := s_int fun W σ μ G F st x y P h => by
  unfold shlD at h
  split at h
  · obtain ⟨hr, h⟩ := ite_done h
    exact ⟨_, _, rfl, rfl, hr, _, fun _ _ => .int, h⟩
  · exact h.elim
theorem s_shr : S2 K mg shrD (rI (fun _ j => 0 ≤ j) fun i j => .int (i / 2 ^ j.toNat)) := s_int fun W σ μ G F st x y P h => by
  unfold shrD at h
  split at h
  · obtain ⟨hr, h⟩ := ite_done h
    exact ⟨_, _, rfl, rfl, hr, _, fun _ _ => .int, h⟩
  · exact h.elim
theorem s_and : S2 K mg andD (rI0 fun i j => .int (Builtin.bitAnd i j)) := s_int0 fun W σ μ G F st x y P h => by
  unfold andD at h
  split at h
  · exact ⟨_, _, rfl, rfl, _, fun _ _ => .int, h⟩
  · exact h.elim
theorem s_le : S2 K mg leD (rI0 fun i j => .bl (decide (i ≤ j))) := s_int0 fun W σ μ G F st x y P h => by
  unfold leD at h
  split at h
  · exact ⟨_, _, rfl, rfl, _, fun _ _ => .bl, h⟩
  · exact h.elim
theorem s_gt : S2 K mg gtD (rI0 fun i j => .bl (decide (j < i))) := s_int0 fun W σ μ G F st x y P h => by
  unfold gtD at h
  split at h
  · exact ⟨_, _, rfl, rfl, _, fun _ _ => .bl, h⟩
  · exact h.elim
theorem s_ge : S2 K mg geD (rI0 fun i j => .bl (decide (j ≤ i))) := s_int0 fun W σ μ G F st x y P h => by
  unfold geD at h
  split at h
  · exact ⟨_, _, rfl, rfl, _, fun _ _ => .bl, h⟩
  · exact h.elim
abbrev rLtA : R2 := fun x y H Q => (rI0 fun i j => .bl (decide (i < j))) x y H Q ∨ (∃ i j, x = .str i ∧ y = .str j ∧ Q (.bl (decide (i.cps.toList < j.cps.toList))) H)
theorem or_lt : OpR X (compareOp .Lt) rLtA := op_lt.or op_lt_str
theorem s_lt : S2 K mg ltD rLtA := by
  intro W σ μ G F st H x y v w Q k rx ry h
  unfold ltD at h
  split at h
  · rw [rep_int rx, rep_int ry]
    exact .inl ⟨_, _, rfl, rfl, fin_here k h .bl⟩
  · rw [rep_str rx, rep_str ry]
    exact .inr ⟨_, _, rfl, rfl, fin_here k h .bl⟩
  · exact h.elim
abbrev rEqA (K : PySem.W.Frag) : R2 := fun x y H Q => rEq x y H Q ∨ rEqD K x y H Q
abbrev rNeA (K : PySem.W.Frag) : R2 := fun x y H Q => rNe x y H Q ∨ rNeD K x y H Q
theorem or_eq (hu : X.A.units + 64 < cLine) : OpR X (compareOp .Eq) (rEqA X.K) := op_eq.or (op_eqD hu)
theorem or_ne (hu : X.A.units + 64 < cLine) : OpR X (compareOp .NotEq) (rNeA X.K) := op_ne.or (op_neD hu)
theorem eqB_dp {μ : List Addr} {G F : Hp} {st : Store} {H : Hp} {x y : D} {v w : V} {b : Bool} (k : Kn K mg μ G F st H) (rx : Rep K μ G x v) (ry : Rep K μ G y w) (h : eqB st x y = some b) :
    (scal v w = true ∧ decide (v = w) = b) ∨ ∃ d e, Dp K H v d ∧ Dp K H w e ∧ SeqAt.shaped d = true ∧ SeqAt.shaped e = true ∧ PyData.eqv d e = b := by
  unfold eqB at h
  split at h
  · rw [rep_non rx, rep_non ry]
    injection h with h
    subst h
    exact .inl ⟨rfl, rfl⟩
  · rw [rep_int rx, rep_int ry]
    injection h with h
    subst h
    exact .inl ⟨rfl, by simp⟩
  · rw [rep_bl rx, rep_bl ry]
    injection h with h
    subst h
    exact .inl ⟨rfl, by simp⟩
  · rw [rep_str rx, rep_str ry]
    injection h with h
    subst h
    exact .inl ⟨rfl, by simp⟩
  · split at h
    · rename_i hc
      rw [Bool.and_eq_true] at hc
      injection h with h
      subst h
      exact .inr ⟨_, _, res_dp k rx hc.1, res_dp k ry hc.2, okd_shaped hc.1, okd_shaped hc.2, rfl⟩
    · cases h
theorem s_eq : S2 K mg eqD (rEqA K) := by
  intro W σ μ G F st H x y v w Q k rx ry h
  unfold eqD at h
  split at h
  · rename_i b e
    have q : Q (.bl b) H := fin_here k h .bl
    rcases eqB_dp k rx ry e with ⟨h1, h2⟩ | ⟨d, e, h1, h2, h3, h4, h5⟩
    · exact .inl ⟨h1, by rw [h2]; exact q⟩
    · exact .inr ⟨d, e, h1, h2, h3, h4, by rw [h5]; exact q⟩
  · exact h.elim
theorem s_ne : S2 K mg neD (rNeA K) := by
  intro W σ μ G F st H x y v w Q k rx ry h
  unfold neD at h
  split at h
  · rename_i b e
    have q : Q (.bl !b) H := fin_here k h .bl
    rcases eqB_dp k rx ry e with ⟨h1, h2⟩ | ⟨d, e, h1, h2, h3, h4, h5⟩
    · exact .inl ⟨h1, by rw [h2]; exact q⟩
    · exact .inr ⟨d, e, h1, h2, h3, h4, by rw [h5]; exact q⟩
  · exact h.elim
abbrev rIsA : R2 := fun x y H Q => (∃ a b, x = .bl a ∧ y = .bl b ∧ Q (.bl (decide (a = b))) H) ∨ (y = .non ∧ Q (.bl (decide (x = .non))) H)
abbrev rIsnotA : R2 := fun x y H Q => (∃ a b, x = .bl a ∧ y = .bl b ∧ Q (.bl (!decide (a = b))) H) ∨ (y = .non ∧ Q (.bl (!decide (x = .non))) H)
theorem or_is : OpR X (compareOp .Is) rIsA := op_is_bl.or op_isN
theorem or_isnot : OpR X (compareOp .IsNot) rIsnotA := op_isnot_bl.or op_notN
theorem rep_isnon {μ : List Addr} {G : Hp} {x : D} {v : V} (r : Rep K μ G x v) : decide (v = .non) = isNon x := by
  cases x with
  | non => rw [rep_non r]; rfl
  | bl b => rw [rep_bl r]; rfl
  | int b => rw [rep_int r]; rfl
  | str b => rw [rep_str r]; rfl
  | tup b => obtain ⟨a, vs, rfl, _⟩ := rep_tup r; rfl
  | lst b => obtain ⟨a, vs, rfl, _⟩ := rep_lst r; rfl
  | frz b => obtain ⟨a, vs, rfl, _⟩ := rep_frz r; rfl
  | loc b => obtain ⟨a, rfl, _⟩ := rep_loc r; rfl
theorem s_is : S2 K mg isD rIsA := by
  intro W σ μ G F st H x y v w Q k rx ry h
  unfold isD at h
  split at h
  · rw [rep_bl rx, rep_bl ry]
    exact .inl ⟨_, _, rfl, rfl, fin_here k h .bl⟩
  · refine .inr ⟨rep_non ry, ?_⟩
    rw [rep_isnon rx]
    exact fin_here k h .bl
  · exact h.elim
theorem s_isnot : S2 K mg isnotD rIsnotA := by
  intro W σ μ G F st H x y v w Q k rx ry h
  unfold isnotD at h
  split at h
  · rw [rep_bl rx, rep_bl ry]
    exact .inl ⟨_, _, rfl, rfl, fin_here k h .bl⟩
  · refine .inr ⟨rep_non ry, ?_⟩
    rw [rep_isnon rx]
    exact fin_here k h .bl
  · exact h.elim

/-! ### in, subscripts, truth, slices -/
/-- x in a list or tuple of data of any depth -/
def rInA (K : PySem.W.Frag) (neg : Bool) : R2 := fun x y H Q => ∃ d ds, Dp K H x d ∧ (Dp K H y (.list ds) ∨ Dp K H y (.tuple ds)) ∧ SeqAt.shaped d = true ∧ SeqAt.shaped (.list ds) = true ∧ Q (.bl (if neg then !ds.any fun z => PyData.eqv z d else ds.any fun z => PyData.eqv z d)) H
theorem op_inA (hu : X.A.units + 65 < cLine) : OpR X (compareOp .In) (rInA X.K false) := by
  intro pins s σ H x y v u Q I rx ry h
  obtain ⟨d, ds, hd, he, sd, se, q⟩ := h
  obtain ⟨as, r1⟩ := Dp.reads I d x v hd rx
  rcases he with he | he
  · obtain ⟨bs, r2⟩ := Dp.reads I (.list ds) y u he ry
    exact SeqAt.in_list_reads r2 r1 (SeqAt.canLay_of_shaped se) (SeqAt.canLay_of_shaped sd) (room_in_shaped sd hu) ⟨.bl _, H, I, rfl, q⟩
  · obtain ⟨bs, r2⟩ := Dp.reads I (.tuple ds) y u he ry
    exact SeqAt.in_tuple_reads r2 r1 (SeqAt.canLay_of_shaped (show SeqAt.shaped (.tuple ds) = true from se)) (SeqAt.canLay_of_shaped sd) (room_in_shaped sd hu) ⟨.bl _, H, I, rfl, q⟩
theorem op_notInA (hu : X.A.units + 65 < cLine) : OpR X (compareOp .NotIn) (rInA X.K true) := by
  intro pins s σ H x y v u Q I rx ry h
  obtain ⟨d, ds, hd, he, sd, se, q⟩ := h
  obtain ⟨as, r1⟩ := Dp.reads I d x v hd rx
  rcases he with he | he
  · obtain ⟨bs, r2⟩ := Dp.reads I (.list ds) y u he ry
    exact SeqAt.notIn_list_reads r2 r1 (SeqAt.canLay_of_shaped se) (SeqAt.canLay_of_shaped sd) (room_in_shaped sd hu) ⟨.bl _, H, I, rfl, q⟩
  · obtain ⟨bs, r2⟩ := Dp.reads I (.tuple ds) y u he ry
    exact SeqAt.notIn_tuple_reads r2 r1 (SeqAt.canLay_of_shaped (show SeqAt.shaped (.tuple ds) = true from se)) (SeqAt.canLay_of_shaped sd) (room_in_shaped sd hu) ⟨.bl _, H, I, rfl, q⟩
def rSgn (neg : Bool) : R2 := fun x y H Q => ∃ (c : Nat) (z : Str), x = .str ⟨#[c]⟩ ∧ y = .str z ∧ Q (.bl (if neg then !decide (c ∈ z.cps.toList) else decide (c ∈ z.cps.toList))) H
abbrev rInB (K : PySem.W.Frag) (neg : Bool) : R2 := fun x y H Q => rSgn neg x y H Q ∨ (rIn K neg x y H Q ∨ rInA K neg x y H Q)
theorem or_in (hu : X.A.units + 65 < cLine) : OpR X (compareOp .In) (rInB X.K false) := OpR.or (r := rSgn false) op_in_sign (op_in_seq.or (op_inA hu))
theorem or_nin (hu : X.A.units + 65 < cLine) : OpR X (compareOp .NotIn) (rInB X.K true) := OpR.or (r := rSgn true) op_notIn_sign (op_notIn_seq.or (op_notInA hu))
theorem flat_rep {μ : List Addr} {G : Hp} {x : D} {v : V} (r : Rep K μ G x v) (f : flatD x = true) : flatV v = true := by
  cases x with
  | non => rw [rep_non r]; rfl
  | bl b => rw [rep_bl r]; rfl
  | int b => rw [rep_int r]; rfl
  | str b => rw [rep_str r]; rfl
  | _ => cases f
theorem flats_rep {μ : List Addr} {G : Hp} : ∀ {xs : List D} {vs : List V}, Reps K μ G xs vs → xs.all flatD = true → vs.all flatV = true
  | [], vs, r, _ => by rw [reps_nil r]; rfl
  | x :: xs, vs, r, f => by
    obtain ⟨v, t, rfl, hv, ht⟩ := reps_cons r
    rw [List.all_cons, Bool.and_eq_true] at f
    rw [List.all_cons, flat_rep hv f.1, flats_rep ht f.2]
    rfl
theorem eqV_rep {μ : List Addr} {G : Hp} {x y : D} {v w : V} (rx : Rep K μ G x v) (ry : Rep K μ G y w) (fx : flatD x = true) (fy : flatD y = true) : eqV v w = eqvD x y := by
  cases x <;> cases y <;> first
    | exact absurd fx Bool.false_ne_true
    | exact absurd fy Bool.false_ne_true
    | (simp only [Rep] at rx ry; subst rx; subst ry; simp [eqV, eqvD, pd, PyData.eqv])
theorem any_rep {μ : List Addr} {G : Hp} {x : D} {v : V} (rx : Rep K μ G x v) (fx : flatD x = true) : ∀ {ys : List D} {ws : List V}, Reps K μ G ys ws → ys.all flatD = true → inV v ws = ys.any fun z => eqvD z x
  | [], ws, r, _ => by rw [reps_nil r]; rfl
  | y :: ys, ws, r, f => by
    obtain ⟨w, t, rfl, hw, ht⟩ := reps_cons r
    rw [List.all_cons, Bool.and_eq_true] at f
    have ih := any_rep rx fx ht f.2
    unfold inV at ih ⊢
    rw [List.any_cons, List.any_cons, ih, eqV_rep hw rx f.1 fx]
theorem any_pds {x : D} : ∀ ys : List D, ((pds ys).any fun z => PyData.eqv z (pd x)) = ys.any fun z => eqvD z x
  | [] => rfl
  | y :: ys => by rw [pds, List.any_cons, List.any_cons, any_pds ys]; rfl
theorem reps_dps {μ : List Addr} {G H : Hp} (e : Ex G H) (n : Nat) : ∀ (ds : List D) (vs : List V), ds.all (okd n) = true → Reps K μ G ds vs → DpAll K H vs (pds ds)
  | [], vs, _, r => by rw [reps_nil r]; exact .nil
  | d :: ds, vs, h, r => by
    obtain ⟨v, t, rfl, hv, ht⟩ := reps_cons r
    rw [List.all_cons, Bool.and_eq_true] at h
    exact .cons (rep_dp e n d v h.1 hv) (reps_dps e n ds t h.2 ht)
theorem inB_rep {neg : Bool} {μ : List Addr} {G F : Hp} {st : Store} {H : Hp} {x y : D} {v w : V} {b : Bool} {Q : VK} (k : Kn K mg μ G F st H) (rx : Rep K μ G x v) (ry : Rep K μ G y w) (h : inB st x y = some b)
    (q : Q (.bl (if neg then !b else b)) H) : rInB K neg v w H Q := by
  have main : ∀ ds, seqOf st y = some ds → (if flatD x && ds.all flatD then some (ds.any fun z => eqvD z x) else if okd 60 x && ds.all (okd 59) then some (ds.any fun z => eqvD z x) else none) = some b → rInB K neg v w H Q := by
    intro ds e h
    obtain ⟨a, vs, rfl, hs, rs⟩ := seqOf_rep k ry e
    split at h
    · rename_i hc
      rw [Bool.and_eq_true] at hc
      injection h with h
      refine .inr (.inl ⟨a, vs, rfl, hs, flat_rep rx hc.1, flats_rep rs hc.2, ?_⟩)
      rw [any_rep rx hc.1 rs hc.2, h]
      exact q
    · split at h
      · rename_i hc
        rw [Bool.and_eq_true] at hc
        injection h with h
        refine .inr (.inr ⟨pd x, pds ds, rep_dp k.ex 60 _ _ hc.1 rx, ?_, okd_shaped hc.1, okd_shaped (d := .lst ds) (by simpa [okd] using hc.2), ?_⟩)
        · rcases hs with hs | hs
          · exact .inl (.lst hs (reps_dps k.ex 59 ds vs hc.2 rs))
          · exact .inr (.tup hs (reps_dps k.ex 59 ds vs hc.2 rs))
        · rw [any_pds, h]
          exact q
      · cases h
  unfold inB at h
  split at h
  · split at h
    · rename_i s e
      injection h with h
      subst h
      rw [rep_str rx, rep_str ry]
      refine .inl ⟨s, _, ?_, rfl, q⟩
      rename_i c _ _
      have : c = ⟨#[s]⟩ := by
        cases c with
        | mk cps =>
          have e' : cps.toList = [s] := e
          have : cps = #[s] := by
            apply Array.toList_inj.mp
            exact e'
          rw [this]
      rw [this]
    · cases h
  · split at h
    · rename_i e
      exact main _ e h
    · cases h
theorem s_in : S2 K mg inD (rInB K false) := by
  intro W σ μ G F st H x y v w Q k rx ry h
  unfold inD at h
  split at h
  · rename_i b e
    exact inB_rep (neg := false) k rx ry e (fin_here k h .bl)
  · exact h.elim
theorem s_nin : S2 K mg ninD (rInB K true) := by
  intro W σ μ G F st H x y v w Q k rx ry h
  unfold ninD at h
  split at h
  · rename_i b e
    exact inB_rep (neg := true) k rx ry e (fin_here k h .bl)
  · exact h.elim
theorem atI_rep {μ : List Addr} {G : Hp} {ds : List D} {vs : List V} {i : Int} {d : D} (r : Reps K μ G ds vs) (h : atI ds i = some d) : ∃ v, atI vs i = some v ∧ Rep K μ G d v := by
  unfold atI at h ⊢
  rw [r.length]
  cases e : ixN ds.length i with
  | none => rw [e] at h; cases h
  | some j =>
    rw [e] at h
    exact r.get h
theorem s_ix : S2 K mg ixD (rIx K) := by
  intro W σ μ G F st H x y v w Q k rx ry h
  unfold ixD at h
  split at h
  · obtain ⟨hr, h⟩ := ite_done h
    split at h
    · rename_i c e
      rw [rep_str rx, rep_int ry]
      exact .inr (.inr ⟨_, _, c, rfl, rfl, room_line hr, e, fin_here k h .str⟩)
    · exact h.elim
  · split at h
    · rename_i ds e
      split at h
      · rename_i d e2
        obtain ⟨a, vs, rfl, hs, rs⟩ := seqOf_rep k rx e
        obtain ⟨z, e3, rz⟩ := atI_rep rs e2
        rw [rep_int ry]
        have q := fin_here k h rz
        rcases hs with hs | hs
        · exact .inl ⟨a, vs, _, z, rfl, rfl, hs, e3, q⟩
        · exact .inr (.inl ⟨a, vs, _, z, rfl, rfl, hs, e3, q⟩)
      · exact h.elim
    · exact h.elim
  · exact h.elim
theorem s_neg : S1 K mg negD (rU fun i => .int (-i)) := by
  intro W σ μ G F st H x v Q k rx h
  unfold negD at h
  split at h
  · rw [rep_int rx]
    exact ⟨_, rfl, fin_here k h .int⟩
  · exact h.elim
theorem isEmpty_reps {μ : List Addr} {G : Hp} {ds : List D} {vs : List V} (r : Reps K μ G ds vs) : vs.isEmpty = ds.isEmpty := by
  have := r.length
  cases ds <;> cases vs <;> simp_all
theorem truth_rep {μ : List Addr} {G F : Hp} {st : Store} {H : Hp} {x : D} {v : V} {b : Bool} (k : Kn K mg μ G F st H) (r : Rep K μ G x v) (h : truthB st x = some b) : TruV K v H b := by
  cases x with
  | non => rw [rep_non r]; injection h with h; exact h.symm
  | bl c => rw [rep_bl r]; injection h with h; exact h.symm
  | int c => rw [rep_int r]; injection h with h; exact h.symm
  | str z =>
    rw [rep_str r]
    by_cases hr : room z.length
    · have h' : some ((z.length : Int) != 0) = some b := by
        rw [← h]
        simp only [truthB, if_pos hr]
      injection h' with h'
      exact ⟨room_line hr, h'.symm⟩
    · have h' : none = some b := by
        rw [← h]
        simp only [truthB, if_neg hr]
      cases h'
  | tup ds =>
    obtain ⟨a, vs, rfl, hs, rs⟩ := rep_tup r
    injection h with h
    exact .inr (.inl ⟨vs, k.ex.sqt hs, by rw [isEmpty_reps rs]; exact h.symm⟩)
  | lst ds =>
    obtain ⟨a, vs, rfl, hs, rs⟩ := rep_lst r
    injection h with h
    exact .inl ⟨vs, .of (k.ex _ _ hs), by rw [isEmpty_reps rs]; exact h.symm⟩
  | frz ds =>
    obtain ⟨a, vs, rfl, hs, rs⟩ := rep_frz r
    injection h with h
    exact .inl ⟨vs, k.ex.sql hs, by rw [isEmpty_reps rs]; exact h.symm⟩
  | loc n =>
    obtain ⟨a, rfl, ha⟩ := rep_loc r
    simp only [truthB] at h
    split at h
    · rename_i ds e
      obtain ⟨a', o, h1, _, _, h4, vs, rfl, q⟩ := k.cell n _ (cell_some e)
      rw [ha] at h1
      cases h1
      injection h with h
      exact .inl ⟨vs, .of h4, by rw [isEmpty_reps q]; exact h.symm⟩
    · rename_i kvs e
      obtain ⟨a', o, h1, _, _, h4, ps, rfl, q⟩ := k.cell n _ (cell_some e)
      rw [ha] at h1
      cases h1
      injection h with h
      refine .inr (.inr ⟨ps, h4, ?_⟩)
      cases kvs with
      | nil =>
        have : ps = [] := q
        rw [this]
        exact h.symm
      | cons p r =>
        obtain ⟨k, d⟩ := p
        obtain ⟨_, s, rfl, _⟩ := q
        exact h.symm
    · cases h
theorem Reps.cut {μ : List Addr} {G : Hp} {ds : List D} {vs : List V} (r : Reps K μ G ds vs) (lo hi : Option Int) : Reps K μ G (cutD ds lo hi) (cutV vs lo hi) := by
  unfold cutD cutV
  rw [r.length]
  exact (r.drop _).take _
end
end Dn
namespace Dn
open PySem PySem.Spec PyProof.Rows L2

abbrev ME (X : Cx) (W : WX) (e : Expr) (m : EM) : Prop := PE X e (tE X.K X.mg W m)
abbrev MT (X : Cx) (W : WX) (e : Expr) (m : EM) : Prop := PT X e (tT X.K X.mg W m)
abbrev MW (X : Cx) (W : WX) (e : Expr) (m : EM) : Prop := PW X e (tT X.K X.mg W m)
abbrev MA (X : Cx) (W : WX) (es : List Expr) (m : EMs) : Prop := PA X es (tA X.K X.mg W m)

/-! ### terms -/
def getV (vs : Vars) (i : Nat) : Option D := (vs[i]?).join
def eV (i : Nat) : EM := fun vs st => match getV vs i with
  | some d => .ok d st
  | none => .bad
def eC (d : D) : EM := fun _ st => .ok d st
def e1 (f : D → Store → Re D) (a : EM) : EM := fun vs st => (a vs st).bind fun x st => f x st
def e2 (f : D → D → Store → Re D) (a b : EM) : EM := fun vs st => (a vs st).bind fun x st => (b vs st).bind fun y st => f x y st
def onB (d : D) (t f : Re D) : Re D := match d with
  | .bl true => t
  | .bl false => f
  | _ => .bad
def eAnd (a b : EM) : EM := fun vs st => (a vs st).bind fun x st => onB x (b vs st) (.ok (.bl false) st)
def eOr (a b : EM) : EM := fun vs st => (a vs st).bind fun x st => onB x (.ok (.bl true) st) (b vs st)
def eNot (a : EM) : EM := fun vs st => (a vs st).bind fun x st => onB x (.ok (.bl false) st) (.ok (.bl true) st)
def eIf (c a b : EM) : EM := fun vs st => (c vs st).bind fun x st => onB x (a vs st) (b vs st)
def eTru (a : EM) : EM := fun vs st => (a vs st).bind fun x st => match truthB st x with
  | some b => .ok (.bl b) st
  | none => .bad
def aNil : EMs := fun _ st => .ok [] st
def aCons (a : EM) (r : EMs) : EMs := fun vs st => (a vs st).bind fun x st => (r vs st).bind fun xs st => .ok (x :: xs) st
def eTup (as : EMs) : EM := fun vs st => (as vs st).bind fun xs st => if room xs.length then .ok (.tup xs) st else .bad
def eLst (b : Bool) (as : EMs) : EM := fun vs st => (as vs st).bind fun xs st => if room xs.length then mkNew b xs st else .bad
def eN (f : List D → Store → Re D) (as : EMs) : EM := fun vs st => (as vs st).bind fun xs st => f xs st
def eChain (f g : D → D → Store → Re D) (a b c : EM) : EM := fun vs st => (a vs st).bind fun x st => (b vs st).bind fun y st => (f x y st).bind fun z st => onB z ((c vs st).bind fun w st => g y w st) (.ok (.bl false) st)
def oNone : Vars → Store → Re (Option Int) := fun _ st => .ok none st
def oSome (a : EM) : Vars → Store → Re (Option Int) := fun vs st => (a vs st).bind fun x st => match x with
  | .int i => .ok (some i) st
  | _ => .bad
def eSl (b : Bool) (a : EM) (lo hi : Vars → Store → Re (Option Int)) : EM := fun vs st => (a vs st).bind fun x st => (lo vs st).bind fun l st => (hi vs st).bind fun h st => sliceD b x l h st
/-- a def as a function -/
abbrev FnD := List D → Store → Re D

section
variable {K : PySem.W.Frag} {mg : Str → Option Value} {W : WX} {σ : L2.St} {μ : List Addr} {G F : Hp} {H : Hp} {Q : VK}
end

/-! ### the rules -/
section
variable {X : Cx} {W : WX} {e a b c : Expr} {es : List Expr} {ma mb mc : EM} {ms : EMs} {pos : Pos}
theorem m_var (i : Nat) {x : Str} (hN : X.N[i]? = some x := by rfl) (hv : Vis X.env.scope x := by first | exact Or.inl rfl | exact Or.inr (Or.inl rfl) | exact Or.inr (Or.inr rfl)) (hd : (x == ("__debug__" : Str)) = false := by decide)
    (hcd : (x == ("__classdict__" : Str)) = false := by decide) : ME X W (.Name x pos) (eV i) := (pe_var hN hv hd hcd).of fun σ H Q h => by
  obtain ⟨vs, st, μ, G, F, re, k, h⟩ := h
  unfold eV getV at h
  cases hv : vs[i]? with
  | none => rw [hv] at h; exact h.elim
  | some o =>
    cases o with
    | none => rw [hv] at h; exact h.elim
    | some d =>
      rw [hv] at h
      obtain ⟨v, e, r⟩ := re.get i d hv
      exact ⟨v, e, fin_here k h r⟩
theorem const_of {d : D} {v : V} (h : PE X e (tC v)) (r : ∀ μ G, Rep X.K μ G d v) : ME X W e (eC d) := h.of fun σ H Q h => by
  obtain ⟨vs, st, μ, G, F, re, k, h⟩ := h
  exact fin_here k h (r μ G)
theorem m_int {i : Int} {j : Nat} : ME X W (.Constant (.int i) j pos) (eC (.int i)) := const_of pe_int fun _ _ => .int
theorem m_bl {i : Bool} {j : Nat} : ME X W (.Constant (.bool i) j pos) (eC (.bl i)) := const_of pe_bl fun _ _ => .bl
theorem m_non {j : Nat} : ME X W (.Constant .none j pos) (eC .non) := const_of pe_non fun _ _ => .non
theorem m_str {i : Str} {j : Nat} : ME X W (.Constant (.str i) j pos) (eC (.str i)) := const_of pe_str fun _ _ => .str
/-- a module's constant -/
structure Cst (K : PySem.W.Frag) (mg : Str → Option Value) (x : Str) (d : D) : Prop where
  ex : ∃ u v, mg x = some u ∧ RelV v u ∧ ∀ μ G, Rep K μ G d v
theorem m_glob {x : Str} {d : D} (c : Cst X.K X.mg x d) (hg : Gl X x := by rfl) (hd : (x == ("__debug__" : Str)) = false := by decide) : ME X W (.Name x pos) (eC d) := by
  obtain ⟨u, v, h1, h2, h3⟩ := c.ex
  exact const_of (pe_glob hg h1 h2 hd) h3
/-- two operands in a row -/
theorem two_of {r : R2} {f : D → D → Store → Re D} (hs : S2 X.K X.mg f r) (ha : ME X W a ma) (hb : ME X W b mb) (σ : L2.St) (H : Hp) (Q : VK) (h : tE X.K X.mg W (e2 f ma mb) σ H Q) :
    tOp r (tE X.K X.mg W ma) (tE X.K X.mg W mb) σ H Q := by
  obtain ⟨vs, st, μ, G, F, re, k, h⟩ := h
  refine ⟨vs, st, μ, G, F, re, k, (Done.bind h).mono fun μ1 G1 x st1 H1 f1 k1 h1 v rv => ?_⟩
  refine ⟨vs, st1, μ1, G1, F, re.fut f1, k1, (Done.bind h1).mono fun μ2 G2 y st2 H2 f2 k2 h2 w rw' => ?_⟩
  exact hs W σ μ2 G2 F st2 H2 x y v w Q k2 (rv.fut f2) rw' h2
theorem tT_tE {m : EM} {σ : L2.St} {H : Hp} {Q : Bool → Hp → Prop} (h : tT X.K X.mg W m σ H Q) : tE X.K X.mg W m σ H fun x H' => ∃ k, x = .bl k ∧ Q k H' := by
  obtain ⟨vs, st, μ, G, F, re, k, h⟩ := h
  refine ⟨vs, st, μ, G, F, re, k, h.mono fun μ1 G1 x st1 H1 f1 k1 h1 v rv => ?_⟩
  obtain ⟨b, rfl, q⟩ := h1
  exact ⟨b, rep_bl rv, q⟩
theorem m_op {op : Operator} {r : R2} {f : D → D → Store → Re D} (ho : OpR X (binaryOp op) r) (hs : S2 X.K X.mg f r) (ha : ME X W a ma) (hb : ME X W b mb) : ME X W (.BinOp a op b pos) (e2 f ma mb) := (pe_op ho ha hb).of (two_of hs ha hb)
theorem m_un {op : UnaryOp} {r : V → Hp → VK → Prop} {f : D → Store → Re D} (ho : UnR X (unaryOp op) r) (hs : S1 X.K X.mg f r) (ha : ME X W a ma) : ME X W (.UnaryOp op a pos) (e1 f ma) := (pe_un ho ha).of fun σ H Q h => by
  obtain ⟨vs, st, μ, G, F, re, k, h⟩ := h
  exact ⟨vs, st, μ, G, F, re, k, (Done.bind h).mono fun μ1 G1 x st1 H1 f1 k1 h1 v rv => hs W σ μ1 G1 F st1 H1 x v Q k1 rv h1⟩
theorem m_cmp {op : CmpOp} {r : R2} {f : D → D → Store → Re D} (ho : OpR X (compareOp op) r) (hs : S2 X.K X.mg f r) (ha : ME X W a ma) (hb : ME X W b mb) (hm : behindInMarks op b = false := by first | exact nomark _ | rfl) : ME X W (.Compare a [op] [b] pos) (e2 f ma mb) :=
  (pe_cmpR ho ha hb hm).of (two_of hs ha hb)
theorem t_cmp {op : CmpOp} {r : R2} {f : D → D → Store → Re D} (ho : OpR X (compareOp op) r) (hs : S2 X.K X.mg f r) (ha : ME X W a ma) (hb : ME X W b mb) (hm : behindInMarks op b = false := by first | exact nomark _ | rfl) : MT X W (.Compare a [op] [b] pos) (e2 f ma mb) :=
  (pt_cmpR ho ha hb hm).of fun σ H Q h => two_of hs ha hb σ H _ (tT_tE h)
theorem onB_done {α : Type} {d : D} {r s : Re D} {σ : L2.St} {μ : List Addr} {G F : Hp} {P : List Addr → Hp → D → Store → Hp → Prop} (h : Done X.K X.mg W σ μ G F (onB d r s) P) :
    ∃ k, d = .bl k ∧ Done X.K X.mg W σ μ G F (if k = true then r else s) P := by
  cases d with
  | bl k =>
    refine ⟨k, rfl, ?_⟩
    cases k <;> exact h
  | _ => exact h.elim
theorem chain_of {r r' : R2} {f g : D → D → Store → Re D} (hs : S2 X.K X.mg f r) (hs' : S2 X.K X.mg g r') (ha : ME X W a ma) (hb : ME X W b mb) (hc : ME X W c mc) (σ : L2.St) (H : Hp) (Q : VK) (h : tE X.K X.mg W (eChain f g ma mb mc) σ H Q) :
    tChain r r' (tE X.K X.mg W ma) (tE X.K X.mg W mb) (tE X.K X.mg W mc) σ H Q := by
  obtain ⟨vs, st, μ, G, F, re, k, h⟩ := h
  refine ⟨vs, st, μ, G, F, re, k, (Done.bind h).mono fun μ1 G1 x st1 H1 f1 k1 h1 v rv => ?_⟩
  refine ⟨vs, st1, μ1, G1, F, re.fut f1, k1, (Done.bind h1).mono fun μ2 G2 y st2 H2 f2 k2 h2 w rw' => ?_⟩
  refine hs W σ μ2 G2 F st2 H2 x y v w _ k2 (rv.fut f2) rw' ((Done.bind h2).mono fun μ3 G3 z st3 H3 f3 k3 h3 z' rz => ?_)
  obtain ⟨kk, rfl, h3⟩ := onB_done (α := Unit) h3
  refine ⟨kk, rep_bl rz, ?_⟩
  cases kk with
  | true =>
    rw [if_pos rfl]
    have h3' : Done X.K X.mg W σ μ3 G3 F ((mc vs st3).bind fun w st => g y w st) (Fin X.K Q) := h3
    refine ⟨vs, st3, μ3, G3, F, ((re.fut f1).fut f2).fut f3, k3, (Done.bind h3').mono fun μ4 G4 u st4 H4 f4 k4 h4 u' ru => ?_⟩
    exact hs' W σ μ4 G4 F st4 H4 y u w u' Q k4 ((rw'.fut f3).fut f4) ru h4
  | false =>
    rw [if_neg Bool.false_ne_true]
    exact fin_here k3 h3 .bl
theorem m_chain {op op' : CmpOp} {r r' : R2} {f g : D → D → Store → Re D} (ho : OpR X (compareOp op) r) (hs : S2 X.K X.mg f r) (ho' : OpR X (compareOp op') r') (hs' : S2 X.K X.mg g r') (ha : ME X W a ma) (hb : ME X W b mb) (hc : ME X W c mc)
    (hm : lastMarks [op, op'] [b, c] = false := by with_unfolding_all rfl) : ME X W (.Compare a [op, op'] [b, c] pos) (eChain f g ma mb mc) := (pe_chain ho ho' ha hb hc hm).of (chain_of hs hs' ha hb hc)
theorem t_chain {op op' : CmpOp} {r r' : R2} {f g : D → D → Store → Re D} (ho : OpR X (compareOp op) r) (hs : S2 X.K X.mg f r) (ho' : OpR X (compareOp op') r') (hs' : S2 X.K X.mg g r') (ha : ME X W a ma) (hb : ME X W b mb) (hc : ME X W c mc)
    (hm : lastMarks [op, op'] [b, c] = false := by with_unfolding_all rfl) : MT X W (.Compare a [op, op'] [b, c] pos) (eChain f g ma mb mc) := (pt_chain ho ho' ha hb hc hm).of fun σ H Q h => chain_of hs hs' ha hb hc σ H _ (tT_tE h)

/-! and, or, not, if: as tests, as values -/
variable {mt mu : EM} {rest : List Expr}
theorem w_and1 (ha : MT X W a mt) : MW X W (.BoolOp .And [a] pos) mt := pw_and1 ha
theorem w_or1 (ha : MT X W a mt) : MW X W (.BoolOp .Or [a] pos) mt := pw_or1 ha
theorem w_and (ha : MT X W a mt) (hb : MW X W (.BoolOp .And (b :: rest) pos) mu) : MW X W (.BoolOp .And (a :: b :: rest) pos) (eAnd mt mu) := (pw_and ha hb).of fun σ H Q h => by
  obtain ⟨vs, st, μ, G, F, re, k, h⟩ := h
  refine ⟨vs, st, μ, G, F, re, k, (Done.bind h).mono fun μ1 G1 x st1 H1 f1 k1 h1 => ?_⟩
  obtain ⟨kk, rfl, h1⟩ := onB_done (α := Unit) h1
  refine ⟨kk, rfl, ?_⟩
  cases kk with
  | true => exact ⟨vs, st1, μ1, G1, F, re.fut f1, k1, h1⟩
  | false =>
    obtain ⟨b, e, q⟩ := Done.here k1 h1
    cases e
    exact q
theorem w_or (ha : MT X W a mt) (hb : MW X W (.BoolOp .Or (b :: rest) pos) mu) : MW X W (.BoolOp .Or (a :: b :: rest) pos) (eOr mt mu) := (pw_or ha hb).of fun σ H Q h => by
  obtain ⟨vs, st, μ, G, F, re, k, h⟩ := h
  refine ⟨vs, st, μ, G, F, re, k, (Done.bind h).mono fun μ1 G1 x st1 H1 f1 k1 h1 => ?_⟩
  obtain ⟨kk, rfl, h1⟩ := onB_done (α := Unit) h1
  refine ⟨kk, rfl, ?_⟩
  cases kk with
  | false => exact ⟨vs, st1, μ1, G1, F, re.fut f1, k1, h1⟩
  | true =>
    obtain ⟨b, e, q⟩ := Done.here k1 h1
    cases e
    exact q
theorem t_w (h : MW X W e mt) : MT X W e mt := h.pt
theorem t_not (ha : MT X W a mt) : MT X W (.UnaryOp .Not a pos) (eNot mt) := (pt_not ha).of fun σ H Q h => by
  obtain ⟨vs, st, μ, G, F, re, k, h⟩ := h
  refine ⟨vs, st, μ, G, F, re, k, (Done.bind h).mono fun μ1 G1 x st1 H1 f1 k1 h1 => ?_⟩
  obtain ⟨kk, rfl, h1⟩ := onB_done (α := Unit) h1
  refine ⟨kk, rfl, ?_⟩
  cases kk with
  | false =>
    obtain ⟨b, e, q⟩ := Done.here k1 h1
    cases e
    exact q
  | true =>
    obtain ⟨b, e, q⟩ := Done.here k1 h1
    cases e
    exact q
theorem t_val (h : ME X W e mt) (he : ∀ whole, isTrue e X.env whole = (do let v ← whole; standAt e.pos; holding [v] (truthy v)) := by intro _; rfl) : MT X W e mt := (pt_val h he).of fun σ H Q h => tT_tE h
theorem t_tru (h : ME X W e mt) (he : ∀ whole, isTrue e X.env whole = (do let v ← whole; standAt e.pos; holding [v] (truthy v)) := by intro _; rfl) : MT X W e (eTru mt) := (pt_truth h he).of fun σ H Q h => by
  obtain ⟨vs, st, μ, G, F, re, k, h⟩ := h
  refine ⟨vs, st, μ, G, F, re, k, (Done.bind h).mono fun μ1 G1 x st1 H1 f1 k1 h1 v rv => ?_⟩
  split at h1
  · rename_i b e
    obtain ⟨b', e', q⟩ := Done.here k1 h1
    cases e'
    exact ⟨b, truth_rep k1 rv e, q⟩
  · exact h1.elim
theorem m_one {op : BoolOp} (h : ME X W a mt) : ME X W (.BoolOp op [a] pos) mt := pe_one h
theorem m_and (ha : ME X W a mt) (hb : ME X W (.BoolOp .And (b :: rest) pos) mu) : ME X W (.BoolOp .And (a :: b :: rest) pos) (eAnd mt mu) := (pe_and ha hb).of fun σ H Q h => by
  obtain ⟨vs, st, μ, G, F, re, k, h⟩ := h
  refine ⟨vs, st, μ, G, F, re, k, (Done.bind h).mono fun μ1 G1 x st1 H1 f1 k1 h1 v rv => ?_⟩
  obtain ⟨kk, rfl, h1⟩ := onB_done (α := Unit) h1
  refine ⟨kk, rep_bl rv, ?_⟩
  cases kk with
  | true => exact ⟨vs, st1, μ1, G1, F, re.fut f1, k1, h1⟩
  | false => exact fin_here k1 h1 .bl
theorem m_or (ha : ME X W a mt) (hb : ME X W (.BoolOp .Or (b :: rest) pos) mu) : ME X W (.BoolOp .Or (a :: b :: rest) pos) (eOr mt mu) := (pe_or ha hb).of fun σ H Q h => by
  obtain ⟨vs, st, μ, G, F, re, k, h⟩ := h
  refine ⟨vs, st, μ, G, F, re, k, (Done.bind h).mono fun μ1 G1 x st1 H1 f1 k1 h1 v rv => ?_⟩
  obtain ⟨kk, rfl, h1⟩ := onB_done (α := Unit) h1
  refine ⟨kk, rep_bl rv, ?_⟩
  cases kk with
  | false => exact ⟨vs, st1, μ1, G1, F, re.fut f1, k1, h1⟩
  | true => exact fin_here k1 h1 .bl
theorem m_not (ha : ME X W a mt) : ME X W (.UnaryOp .Not a pos) (eNot mt) := (pe_not ha).of fun σ H Q h => by
  obtain ⟨vs, st, μ, G, F, re, k, h⟩ := h
  refine ⟨vs, st, μ, G, F, re, k, (Done.bind h).mono fun μ1 G1 x st1 H1 f1 k1 h1 v rv => ?_⟩
  obtain ⟨kk, rfl, h1⟩ := onB_done (α := Unit) h1
  refine ⟨kk, rep_bl rv, ?_⟩
  cases kk with
  | false => exact fin_here k1 h1 .bl
  | true => exact fin_here k1 h1 .bl
theorem m_if (hc : MT X W c mt) (ha : ME X W a ma) (hb : ME X W b mb) : ME X W (.IfExp c a b pos) (eIf mt ma mb) := (pe_ifExp hc ha hb).of fun σ H Q h => by
  obtain ⟨vs, st, μ, G, F, re, k, h⟩ := h
  refine ⟨vs, st, μ, G, F, re, k, (Done.bind h).mono fun μ1 G1 x st1 H1 f1 k1 h1 => ?_⟩
  obtain ⟨kk, rfl, h1⟩ := onB_done (α := Unit) h1
  refine ⟨kk, rfl, ?_⟩
  cases kk with
  | true => exact ⟨vs, st1, μ1, G1, F, re.fut f1, k1, h1⟩
  | false => exact ⟨vs, st1, μ1, G1, F, re.fut f1, k1, h1⟩

/-! displays, subscripts, slices -/
theorem ma_nil : MA X W [] aNil := pa_nil.of fun σ H Q h => by
  obtain ⟨vs, st, μ, G, F, re, k, h⟩ := h
  exact Done.here k h [] .nil
theorem ma_cons (ha : ME X W e ma) (hr : MA X W es ms) (hs : starEach (e :: es) X.env = (false, eval e X.env) :: starEach es X.env := by rfl) : MA X W (e :: es) (aCons ma ms) := (pa_cons ha hr hs).of fun σ H Q h => by
  obtain ⟨vs, st, μ, G, F, re, k, h⟩ := h
  refine ⟨vs, st, μ, G, F, re, k, (Done.bind h).mono fun μ1 G1 x st1 H1 f1 k1 h1 v rv => ?_⟩
  refine ⟨vs, st1, μ1, G1, F, re.fut f1, k1, (Done.bind h1).mono fun μ2 G2 xs st2 H2 f2 k2 h2 ws rws => ?_⟩
  exact Done.here k2 h2 _ (.cons (rv.fut f2) rws)
theorem m_tup {j : Nat} (h : MA X W es ms) : ME X W (.Tuple es j pos) (eTup ms) := (pe_tup h).of fun σ H Q h => by
  obtain ⟨vs, st, μ, G, F, re, k, h⟩ := h
  refine ⟨vs, st, μ, G, F, re, k, (Done.bind h).mono fun μ1 G1 xs st1 H1 f1 k1 h1 ws rws => ?_⟩
  obtain ⟨hr, h1⟩ := ite_done h1
  exact ⟨by rw [rws.length]; exact room_line hr, new_tup k1 rws h1⟩
theorem m_lst (n : Bool) (h : MA X W es ms) : ME X W (.List es pos) (eLst n ms) := (pe_lst h).of fun σ H Q h => by
  obtain ⟨vs, st, μ, G, F, re, k, h⟩ := h
  refine ⟨vs, st, μ, G, F, re, k, (Done.bind h).mono fun μ1 G1 xs st1 H1 f1 k1 h1 ws rws => ?_⟩
  obtain ⟨hr, h1⟩ := ite_done h1
  exact ⟨by rw [rws.length]; exact room_line hr, new_list k1 rws h1⟩
theorem m_ix (ha : ME X W a ma) (hb : ME X W b mb) (hs : PlainIx b := by exact fun _ _ => rfl) : ME X W (.Subscript a b pos) (e2 ixD ma mb) := (pe_ix ix_seq ha hb hs).of (two_of s_ix ha hb)
abbrev MO (X : Cx) (W : WX) (e : Option Expr) (m : Vars → Store → Re (Option Int)) : Prop := PO X e fun σ H Q => ∃ vs st μ G F, RepE X.K μ G vs σ ∧ Kn X.K X.mg μ G F st H ∧ Done X.K X.mg W σ μ G F (m vs st) fun _ _ o _ H' => Q o H'
theorem _root_.L2.PO.of {o : Option Expr} {t t' : TO} (h : PO X o t) (k : ∀ σ H Q, t' σ H Q → t σ H Q) : PO X o t' := ⟨fun pins s σ H Q I q => h.run pins s σ H Q I (k σ H Q q)⟩
theorem mo_none : MO X W none oNone := po_none.of fun σ H Q h => by
  obtain ⟨vs, st, μ, G, F, re, k, h⟩ := h
  exact Done.here k h
theorem mo_some (ha : ME X W a ma) : MO X W (some a) (oSome ma) := (po_some ha).of fun σ H Q h => by
  obtain ⟨vs, st, μ, G, F, re, k, h⟩ := h
  refine ⟨vs, st, μ, G, F, re, k, (Done.bind h).mono fun μ1 G1 x st1 H1 f1 k1 h1 v rv => ?_⟩
  split at h1
  · exact ⟨_, rep_int rv, Done.here k1 h1⟩
  · exact h1.elim
abbrev rSlB (K : PySem.W.Frag) : V → Option Int → Option Int → Hp → VK → Prop := fun x lo hi H Q => rSlA K x lo hi H Q ∨ rSlL K x lo hi H Q
theorem cut_all {ds : List D} {lo hi : Option Int} (h : HT.sIx ds.length 0 lo = 0 ∧ HT.sIx ds.length ds.length hi = ds.length) : cutD ds lo hi = ds := by
  unfold cutD
  rw [h.1, h.2, List.drop_zero, Nat.sub_zero, List.take_length]
theorem m_sl {lo hi : Option Expr} {ml mh : Vars → Store → Re (Option Int)} {p2 : Pos} (n : Bool) (ha : ME X W a ma) (hl : MO X W lo ml) (hu : MO X W hi mh) : ME X W (.Subscript a (.Slice lo hi none p2) pos) (eSl n ma ml mh) :=
  (pe_slice (sl_tupA.or sl_list) ha hl hu).of fun σ H Q h => by
    obtain ⟨vs, st, μ, G, F, re, k, h⟩ := h
    refine ⟨vs, st, μ, G, F, re, k, (Done.bind h).mono fun μ1 G1 x st1 H1 f1 k1 h1 v rv => ?_⟩
    refine ⟨vs, st1, μ1, G1, F, re.fut f1, k1, (Done.bind h1).mono fun μ2 G2 l st2 H2 f2 k2 h2 => ?_⟩
    refine ⟨vs, st2, μ2, G2, F, (re.fut f1).fut f2, k2, (Done.bind h2).mono fun μ3 G3 u st3 H3 f3 k3 h3 => ?_⟩
    have rv' := (rv.fut f2).fut f3
    unfold sliceD at h3
    split at h3
    · obtain ⟨p, ws, rfl, hs, rs⟩ := rep_tup rv'
      refine .inl ⟨p, ws, rfl, k3.ex.sqt hs, fun hw => ?_, fun hw => new_tup k3 (rs.cut l u) h3⟩
      rw [rs.length] at hw
      rw [cut_all hw] at h3
      exact fin_here k3 h3 rv'
    · exact h3.elim
    · split at h3
      · rename_i ds e
        obtain ⟨p, ws, rfl, hs, rs⟩ := lstOf_rep k3 rv' e
        exact .inr ⟨p, ws, rfl, .of hs, new_list k3 (rs.cut l u) h3⟩
      · exact h3.elim

/-! calls of what is built in -/
variable {x : Str} {p : Pos} {f : List D → Store → Re D} {r : List V → Hp → VK → Prop} {id T : String}
theorem n_of (hs : SN X.K X.mg f r) (ha : MA X W es ms) (σ : L2.St) (H : Hp) (Q : VK) (h : tE X.K X.mg W (eN f ms) σ H Q) : tCB r (tA X.K X.mg W ms) σ H Q := by
  obtain ⟨vs, st, μ, G, F, re, k, h⟩ := h
  exact ⟨vs, st, μ, G, F, re, k, (Done.bind h).mono fun μ1 G1 xs st1 H1 f1 k1 h1 ws rws => hs W σ μ1 G1 F st1 H1 xs ws Q k1 rws h1⟩
theorem m_bi (hc : CallR X (.builtin id) r) (hs : SN X.K X.mg f r) (hm : X.mg x = none) (hv : bootBuiltins x = some (.builtin id)) (ha : MA X W (e :: es) ms) (hg : Gl X x := by rfl) (hn : x ≠ "__name__" := by decide) (hdb : (x == ("__debug__" : Str)) = false := by decide)
    (he : starEach (e :: es) X.env = (false, eval e X.env) :: starEach es X.env := by rfl) (hpl : (backTo pos (starEach es X.env)).any (·.1) = false := by rfl) : ME X W (.Call (.Name x p) (e :: es) [] pos) (eN f ms) :=
  (pe_callB hc hg hm hv ha hn hdb he hpl).of (n_of hs ha)
theorem m_ty (hc : CallR X (.type T) r) (hs : SN X.K X.mg f r) (hm : X.mg x = none) (hv : bootBuiltins x = some (.type T)) (ha : MA X W (e :: es) ms) (hg : Gl X x := by rfl) (hn : x ≠ "__name__" := by decide) (hdb : (x == ("__debug__" : Str)) = false := by decide)
    (he : starEach (e :: es) X.env = (false, eval e X.env) :: starEach es X.env := by rfl) (hpl : (backTo pos (starEach es X.env)).any (·.1) = false := by rfl) : ME X W (.Call (.Name x p) (e :: es) [] pos) (eN f ms) :=
  (pe_callTy hc hg hm hv ha hn hdb he hpl).of (n_of hs ha)

/-! calls of defs -/
/-- what a def promises by its function -/
def spD (K : PySem.W.Frag) (mg : Str → Option Value) (n : Nat) (m : FnD) : Sp := fun vs H Q E => vs.length = n ∧ ∃ ds st μ G F, Reps K μ G ds vs ∧ Kn K mg μ G F st H ∧ Done K mg (fun cls d _ H' => E cls d H') [] μ G F (m ds st) (Fin K Q)
abbrev FnM (P : Program) (w : World) (K : PySem.W.Frag) (mg : Str → Option Value) (base : Heap) (k : Nat) (f : Addr) (fd : FuncData) (ps : List Str) (m : FnD) : Prop := FnOk P w K mg base (L2.CX P w) k f fd ps (spD K mg ps.length m)
theorem done_wish {K : PySem.W.Frag} {mg : Str → Option Value} {W W' : WX} {σ σ' : L2.St} {μ : List Addr} {G F : Hp} {r : Re D} {P : List Addr → Hp → D → Store → Hp → Prop} (h : Done K mg W σ μ G F r P) (hw : ∀ cls d H, W cls d σ H → W' cls d σ' H) : Done K mg W' σ' μ G F r P := by
  cases r with
  | bad => exact h
  | ok a st => exact h
  | exc e st => exact fun μ' G' H' cls dd f k x => hw _ _ _ (h μ' G' H' cls dd f k x)
/-- how many arguments -/
inductive ALen : EMs → Nat → Prop
  | nil : ALen aNil 0
  | cons {a : EM} {r : EMs} {n : Nat} : ALen r n → ALen (aCons a r) (n + 1)
theorem ALen.len {ms : EMs} {n : Nat} (h : ALen ms n) : ∀ {vs : Vars} {st : Store} {ds : List D} {st' : Store}, ms vs st = .ok ds st' → ds.length = n := by
  induction h with
  | nil =>
    intro vs st ds st' e
    injection e with e1 _
    subst e1
    rfl
  | @cons a r n _ ih =>
    intro vs st ds st' e
    have e' : ((a vs st).bind fun x st => (r vs st).bind fun xs st => .ok (x :: xs) st) = .ok ds st' := e
    cases h1 : a vs st with
    | bad => rw [h1] at e'; cases e'
    | exc ex s1 => rw [h1] at e'; cases e'
    | ok d s1 =>
      rw [h1] at e'
      have e2 : ((r vs s1).bind fun xs st => .ok (d :: xs) st) = .ok ds st' := e'
      cases h2 : r vs s1 with
      | bad => rw [h2] at e2; cases e2
      | exc ex s2 => rw [h2] at e2; cases e2
      | ok d2 s2 =>
        rw [h2] at e2
        injection e2 with e3 _
        subst e3
        rw [List.length_cons, ih h2]
variable {k : Nat} {fa : Addr} {fd : FuncData} {ps : List Str} {m : FnD}
theorem m_call (Fk : FnM X.prog X.w X.K X.mg X.base k fa fd ps m) (hr : Room k X.A) (hm : X.mg x = some (.ref fa)) (hk : PySem.W.keepIn X.K (.ref fa) = true) (hb : Binds X.K fd ps []) (tk : Takes X W)
    (ha : MA X W (e :: es) ms) (hms : ALen ms ps.length := by repeat constructor) (hg : Gl X x := by rfl) (hdb : (x == ("__debug__" : Str)) = false := by decide) (he : starEach (e :: es) X.env = (false, eval e X.env) :: starEach es X.env := by rfl)
    (hpl : (backTo pos (starEach es X.env)).any (·.1) = false := by rfl) : ME X W (.Call (.Name x p) (e :: es) [] pos) (eN m ms) := by
  refine (pe_callSD Fk hr hg hm hk hb .nil (fun σ => passAt tk σ) ha hdb he hpl).of fun σ H Q h => ?_
  obtain ⟨vs, st, μ, G, F, re, kn, h⟩ := h
  unfold eN at h
  cases hd : ms vs st with
  | bad => rw [hd] at h; exact h.elim
  | exc ex st1 =>
    rw [hd] at h
    exact ⟨vs, st, μ, G, F, re, kn, by rw [hd]; exact h⟩
  | ok ds st1 =>
    rw [hd] at h
    refine ⟨vs, st, μ, G, F, re, kn, ?_⟩
    rw [hd]
    intro μ1 G1 H1 f1 k1 ws rws
    refine ⟨by rw [List.append_nil, rws.length, hms.len hd], ds, st1, μ1, G1, F, by rw [List.append_nil]; exact rws, k1, ?_⟩
    exact done_wish (Done.fut f1 h) fun cls d H hw => hw
end
end Dn
namespace Dn
open PySem PySem.Spec PyProof.Rows L2

/-! ### what a statement does -/
inductive Rs where
  | bad
  | nx (vs : Vars) (st : Store)
  | ret (d : D) (st : Store)
  | brk (vs : Vars) (st : Store)
  | ct (vs : Vars) (st : Store)
  | exc (e : Exn) (vs : Vars) (st : Store)
abbrev SM := Vars → Store → Rs
/-- an expression's answer, then a statement's -/
def Re.thn {α : Type} (r : Re α) (vs : Vars) (k : α → Store → Rs) (_ : Lk k := Unit.unit) : Rs := match r with
  | .bad => .bad
  | .ok a st => k a st
  | .exc e st => .exc e vs st
def onS (d : D) (t f : Rs) : Rs := match d with
  | .bl true => t
  | .bl false => f
  | _ => .bad
def sNil : SM := fun vs st => .nx vs st
def Rs.seq (r : Rs) (b : SM) (_ : Lk b := Unit.unit) : Rs := match r with
  | .nx vs st => b vs st
  | r => r
def sSeq (a b : SM) : SM := fun vs st => (a vs st).seq b
def sExpr (m : EM) : SM := fun vs st => (m vs st).thn vs fun _ st => .nx vs st
def sRet (m : EM) : SM := fun vs st => (m vs st).thn vs fun d st => .ret d st
def sRetN : SM := fun _ st => .ret .non st
def sBrk : SM := fun vs st => .brk vs st
def sCt : SM := fun vs st => .ct vs st
def sIf (c : EM) (a b : SM) : SM := fun vs st => (c vs st).thn vs fun x st => onS x (a vs st) (b vs st)
/-- targets -/
abbrev TM := D → Vars → Option Vars
def gN (i : Nat) : TM := fun d vs => some (vs.set i (some d))
def gAll : List TM → List D → Vars → Option Vars
  | [], [], vs => some vs
  | t :: ts, d :: ds, vs => (t d vs).bind fun vs => gAll ts ds vs
  | _, _, _ => none
def gT (ts : List TM) : TM := fun d vs => match d with
  | .tup ds => gAll ts ds vs
  | _ => none
def sAsg (g : TM) (m : EM) : SM := fun vs st => (m vs st).thn vs fun d st => match g d vs with
  | some vs => .nx vs st
  | none => .bad
def sAug (i : Nat) (f : D → D → Store → Re D) (m : EM) : SM := fun vs st => match getV vs i with
  | some x => (m vs st).thn vs fun y st => (f x y st).thn vs fun z st => .nx (vs.set i (some z)) st
  | none => .bad
/-- names forgotten -/
def drp (l : List Nat) (vs : Vars) : Vars := l.foldl (fun vs i => vs.set i none) vs

section
variable (K : PySem.W.Frag) (mg : Str → Option Value) (W : WX)
def DoneS (μ : List Addr) (G F : Hp) (r : Rs) (D : Ends) : Prop := match r with
  | .bad => False
  | .nx vs st => ∀ μ' G' H' σ', Fut μ G μ' G' → Kn K mg μ' G' F st H' → RepE K μ' G' vs σ' → D.nx σ' H'
  | .brk vs st => ∀ μ' G' H' σ', Fut μ G μ' G' → Kn K mg μ' G' F st H' → RepE K μ' G' vs σ' → D.bk σ' H'
  | .ct vs st => ∀ μ' G' H' σ', Fut μ G μ' G' → Kn K mg μ' G' F st H' → RepE K μ' G' vs σ' → D.ct σ' H'
  | .ret d st => ∀ μ' G' H' v, Fut μ G μ' G' → Kn K mg μ' G' F st H' → Rep K μ' G' d v → D.rt v H'
  | .exc e vs st => ∀ μ' G' H' σ' cls dd, Fut μ G μ' G' → Kn K mg μ' G' F st H' → RepE K μ' G' vs σ' → RepX K mg μ' G' e cls dd → W cls dd σ' H'
def tS (m : SM) : TS := fun D σ H => ∃ vs st μ G F, RepE K μ G vs σ ∧ Kn K mg μ G F st H ∧ DoneS K mg W μ G F (m vs st) D
/-- σ' is σ but at some slots -/
def But (sl : List Nat) (σ σ' : L2.St) : Prop := σ'.length = σ.length ∧ ∀ j, j ∉ sl → σ'[j]? = σ[j]?
def gM (sl : List Nat) (t : TM) : TG := fun v σ H Q => ∃ d vs vs' μ G, Rep K μ G d v ∧ Ex G H ∧ RepE K μ G vs σ ∧ t d vs = some vs' ∧ ∀ σ', RepE K μ G vs' σ' → But sl σ σ' → Q σ' H
def gsM (sl : List Nat) (ts : List TM) : TGs := fun ws σ H Q => ∃ ds vs vs' μ G, Reps K μ G ds ws ∧ Ex G H ∧ RepE K μ G vs σ ∧ gAll ts ds vs = some vs' ∧ ∀ σ', RepE K μ G vs' σ' → But sl σ σ' → Q σ' H
end
abbrev MS (X : Cx) (W : WX) (s : Stmt) (m : SM) : Prop := PS X s (tS X.K X.mg W m)
abbrev MSs (X : Cx) (W : WX) (s : List Stmt) (m : SM) : Prop := PSs X s (tS X.K X.mg W m)
abbrev MG (X : Cx) (e : Expr) (sl : List Nat) (t : TM) : Prop := PG X e (gM X.K sl t)
abbrev MGs (X : Cx) (es : List Expr) (sl : List Nat) (ts : List TM) : Prop := PGs X es (gsM X.K sl ts)
theorem But.refl (sl : List Nat) (σ : L2.St) : But sl σ σ := ⟨rfl, fun _ _ => rfl⟩
theorem But.trans {sl sl' : List Nat} {σ σ1 σ2 : L2.St} (a : But sl σ σ1) (b : But sl' σ1 σ2) : But (sl ++ sl') σ σ2 :=
  ⟨b.1.trans a.1, fun j h => (b.2 j fun z => h (List.mem_append_right _ z)).trans (a.2 j fun z => h (List.mem_append_left _ z))⟩

section
variable {K : PySem.W.Frag} {mg : Str → Option Value} {W : WX} {μ μ' : List Addr} {G G' F : Hp}
theorem DoneS.fut {r : Rs} {D : Ends} (f : Fut μ G μ' G') (h : DoneS K mg W μ G F r D) : DoneS K mg W μ' G' F r D := by
  cases r with
  | bad => exact h
  | nx vs st => exact fun a b c d e => h a b c d (f.trans e)
  | brk vs st => exact fun a b c d e => h a b c d (f.trans e)
  | ct vs st => exact fun a b c d e => h a b c d (f.trans e)
  | ret d st => exact fun a b c d e => h a b c d (f.trans e)
  | exc e vs st => exact fun a b c d e g i => h a b c d e g (f.trans i)
theorem DoneS.mono {r : Rs} {D D' : Ends} (h : DoneS K mg W μ G F r D) (h1 : ∀ σ H, D.nx σ H → D'.nx σ H) (h2 : ∀ v H, D.rt v H → D'.rt v H) (h3 : ∀ σ H, D.bk σ H → D'.bk σ H) (h4 : ∀ σ H, D.ct σ H → D'.ct σ H) : DoneS K mg W μ G F r D' := by
  cases r with
  | bad => exact h
  | nx vs st => exact fun a b c d e f g => h1 _ _ (h a b c d e f g)
  | brk vs st => exact fun a b c d e f g => h3 _ _ (h a b c d e f g)
  | ct vs st => exact fun a b c d e f g => h4 _ _ (h a b c d e f g)
  | ret d st => exact fun a b c d e f g => h2 _ _ (h a b c d e f g)
  | exc e vs st => exact h
/-- an expression ahead of a statement's answer -/
theorem DoneS.thn {α : Type} {r : Re α} {vs : Vars} {σ : L2.St} {k : α → Store → Rs} {D : Ends} (re : RepE K μ G vs σ) (h : DoneS K mg W μ G F (r.thn vs k) D) :
    Done K mg W σ μ G F r fun μ' G' a st _ => DoneS K mg W μ' G' F (k a st) D := by
  cases r with
  | bad => exact h
  | ok a st => exact fun μ' G' H' f kn => DoneS.fut f h
  | exc e st => exact fun μ' G' H' cls dd f kn x => h μ' G' H' σ cls dd f kn (re.fut f) x
theorem onS_done {d : D} {r s : Rs} {E : Ends} (h : DoneS K mg W μ G F (onS d r s) E) : ∃ k, d = .bl k ∧ DoneS K mg W μ G F (if k = true then r else s) E := by
  cases d with
  | bl k =>
    refine ⟨k, rfl, ?_⟩
    cases k <;> exact h
  | _ => exact h.elim
end
section
variable {X : Cx} {W : WX} {e a b c : Expr} {es : List Expr} {m ma mb mc : EM} {s : Stmt} {rest body orelse : List Stmt} {n n' : SM} {pos : Pos}
theorem ms_nil : MSs X W [] sNil := pss_nil.of fun D σ H h => by
  obtain ⟨vs, st, μ, G, F, re, k, h⟩ := h
  exact h μ G H σ (.refl μ G) k re
theorem ms_cons (h1 : MS X W s n) (h2 : MSs X W rest n') : MSs X W (s :: rest) (sSeq n n') := (pss_cons h1 h2).of fun D σ H h => by
  obtain ⟨vs, st, μ, G, F, re, k, h⟩ := h
  refine ⟨vs, st, μ, G, F, re, k, ?_⟩
  unfold sSeq at h
  cases hr : n vs st with
  | nx vs1 st1 =>
    rw [hr] at h
    exact fun μ1 G1 H1 σ1 f1 k1 re1 => ⟨vs1, st1, μ1, G1, F, re1, k1, DoneS.fut f1 h⟩
  | bad => rw [hr] at h; exact h
  | brk vs1 st1 => rw [hr] at h; exact h
  | ct vs1 st1 => rw [hr] at h; exact h
  | ret d st1 => rw [hr] at h; exact h
  | exc ex vs1 st1 => rw [hr] at h; exact h
theorem ms_one (h1 : MS X W s n) : MSs X W [s] n := pss_one h1
theorem st_pass : MS X W (.Pass pos) sNil := ps_pass.of fun D σ H h => by
  obtain ⟨vs, st, μ, G, F, re, k, h⟩ := h
  exact h μ G H σ (.refl μ G) k re
theorem st_brk : MS X W (.Break pos) sBrk := ps_break.of fun D σ H h => by
  obtain ⟨vs, st, μ, G, F, re, k, h⟩ := h
  exact h μ G H σ (.refl μ G) k re
theorem st_ct : MS X W (.Continue pos) sCt := ps_continue.of fun D σ H h => by
  obtain ⟨vs, st, μ, G, F, re, k, h⟩ := h
  exact h μ G H σ (.refl μ G) k re
theorem st_expr (he : ME X W e m) (hs : swapsWith e none pos.line X.env = pure false := by rfl) : MS X W (.Expr e pos) (sExpr m) := (ps_expr he hs).of fun D σ H h => by
  obtain ⟨vs, st, μ, G, F, re, k, h⟩ := h
  exact ⟨vs, st, μ, G, F, re, k, (DoneS.thn re h).mono fun μ1 G1 x st1 H1 f1 k1 h1 v rv => h1 μ1 G1 H1 σ (.refl _ _) k1 (re.fut f1)⟩
theorem st_ret (he : ME X W e m) : MS X W (.Return (some e) pos) (sRet m) := (ps_ret he).of fun D σ H h => by
  obtain ⟨vs, st, μ, G, F, re, k, h⟩ := h
  exact ⟨vs, st, μ, G, F, re, k, (DoneS.thn re h).mono fun μ1 G1 x st1 H1 f1 k1 h1 v rv => h1 μ1 G1 H1 v (.refl _ _) k1 rv⟩
theorem st_retN : MS X W (.Return none pos) sRetN := ps_retN.of fun D σ H h => by
  obtain ⟨vs, st, μ, G, F, re, k, h⟩ := h
  exact h μ G H .non (.refl _ _) k .non
theorem st_if (hc : MT X W c mc) (ha : MSs X W body n) (hb : MSs X W orelse n') : MS X W (.If c body orelse pos) (sIf mc n n') := (ps_if hc ha hb).of fun D σ H h => by
  obtain ⟨vs, st, μ, G, F, re, k, h⟩ := h
  refine ⟨vs, st, μ, G, F, re, k, (DoneS.thn re h).mono fun μ1 G1 x st1 H1 f1 k1 h1 => ?_⟩
  obtain ⟨kk, rfl, h1⟩ := onS_done h1
  refine ⟨kk, rfl, ?_⟩
  cases kk with
  | true => exact ⟨vs, st1, μ1, G1, F, re.fut f1, k1, h1⟩
  | false => exact ⟨vs, st1, μ1, G1, F, re.fut f1, k1, h1⟩
/-! targets -/
theorem PG_of {t t' : TG} (h : PG X e t) (k : ∀ v σ H Q, t' v σ H Q → t v σ H Q) : PG X e t' := ⟨fun pins s σ H v u Q I r q => h.run pins s σ H v u Q I r (k v σ H Q q)⟩
theorem PGs_of {t t' : TGs} (h : PGs X es t) (k : ∀ v σ H Q, t' v σ H Q → t v σ H Q) : PGs X es t' := ⟨fun pins s σ H v u Q I r q => h.run pins s σ H v u Q I r (k v σ H Q q)⟩
theorem g_name (i : Nat) {x : Str} (hN : X.N.Nodup) (hi : X.N[i]? = some x := by rfl) (hx : Loc X.env.scope x := by first | exact Or.inl rfl | exact Or.inr rfl) (hf : X.fn x = true ∨ X.env.scope.names.lookup x = some .local := by first | exact .inl rfl | exact .inr rfl | assumption) : MG X (.Name x pos) [i] (gN i) :=
  PG_of (pg_name hN hi hx hf) fun v σ H Q h => by
    obtain ⟨d, vs, vs', μ, G, r, ex, re, e, q⟩ := h
    injection e with e
    subst e
    refine q _ (re.set r i) ⟨List.length_set, fun j hj => ?_⟩
    exact List.getElem?_set_ne fun z => hj (by simp [z])
theorem g_nil : MGs X [] [] [] := PGs_of pgs_nil fun ws σ H Q h => by
  obtain ⟨ds, vs, vs', μ, G, r, ex, re, e, q⟩ := h
  cases ds with
  | nil =>
    injection e with e
    subst e
    exact ⟨reps_nil r, q σ re (.refl _ _)⟩
  | cons d ds => cases e
theorem g_cons {t : TM} {ts : List TM} {sl sl' : List Nat} (h1 : MG X e sl t) (h2 : MGs X es sl' ts) (hs : (assignEach (e :: es) X.env).map (·.2) = assign e X.env :: (assignEach es X.env).map (·.2) := by rfl) : MGs X (e :: es) (sl ++ sl') (t :: ts) :=
  PGs_of (pgs_cons h1 h2 hs) fun ws σ H Q h => by
    obtain ⟨ds, vs, vs', μ, G, r, ex, re, e, q⟩ := h
    cases ds with
    | nil => cases e
    | cons d ds =>
      obtain ⟨v, ws', rfl, rv, rws⟩ := reps_cons r
      have e' : (t d vs).bind (fun vs => gAll ts ds vs) = some vs' := e
      cases ht : t d vs with
      | none => rw [ht] at e'; cases e'
      | some vs1 =>
        rw [ht] at e'
        exact ⟨v, ws', rfl, d, vs, vs1, μ, G, rv, ex, re, ht, fun σ1 re1 b1 => ⟨ds, vs1, vs', μ, G, rws, ex, re1, e', fun σ2 re2 b2 => q σ2 re2 (b1.trans b2)⟩⟩
theorem gAll_len : ∀ {ts : List TM} {ds : List D} {vs vs' : Vars}, gAll ts ds vs = some vs' → ds.length = ts.length
  | [], [], _, _, _ => rfl
  | [], _ :: _, _, _, h => by cases h
  | _ :: _, [], _, _, h => by cases h
  | t :: ts, d :: ds, vs, vs', h => by
    have h' : (t d vs).bind (fun vs => gAll ts ds vs) = some vs' := h
    cases ht : t d vs with
    | none => rw [ht] at h'; cases h'
    | some vs1 =>
      rw [ht] at h'
      rw [List.length_cons, List.length_cons, gAll_len h']
theorem g_tup {ts : List TM} {sl : List Nat} {j : Nat} (h : MGs X es sl ts) (hc : X.calm = true := by rfl) (hn : (assignEach es X.env).length = ts.length := by rfl) (hst : (assignEach es X.env).findIdx? (·.1) = none := by rfl) : MG X (.Tuple es j pos) sl (gT ts) :=
  PG_of (pg_tup hc h hn hst) fun v σ H Q h => by
    obtain ⟨d, vs, vs', μ, G, r, ex, re, e, q⟩ := h
    cases d with
    | tup ds =>
      obtain ⟨p, ws, rfl, hs, rs⟩ := rep_tup r
      exact ⟨p, ws, rfl, ex.sqt hs, by rw [rs.length]; exact gAll_len e, ds, vs, vs', μ, G, rs, ex, re, e, q⟩
    | _ => cases e
theorem asg_of {te : EM} {t : TM} {sl : List Nat} {tg : Expr} (D : Ends) (σ : L2.St) (H : Hp) (h : tS X.K X.mg W (sAsg t te) D σ H) : tAsg (tE X.K X.mg W te) (gM X.K sl t) D σ H := by
  obtain ⟨vs, st, μ, G, F, re, k, h⟩ := h
  refine ⟨vs, st, μ, G, F, re, k, (DoneS.thn re h).mono fun μ1 G1 x st1 H1 f1 k1 h1 v rv => ?_⟩
  split at h1
  · rename_i vs' e
    exact ⟨x, vs, vs', μ1, G1, rv, k1.ex, re.fut f1, e, fun σ' re' _ => h1 μ1 G1 H1 σ' (.refl _ _) k1 re'⟩
  · exact h1.elim
theorem st_asg {tg : Expr} {t : TM} {sl : List Nat} (he : ME X W e m) (hg : MG X tg sl t) (hs : swapsWithSole [tg] e pos.line X.env = pure false := by rfl) (hw : swappedStores [tg] e X.env = pure none := by rfl) (h1 : (assignEach [tg] X.env).map (·.2) = [assign tg X.env] := by rfl) :
    MS X W (.Assign [tg] e pos) (sAsg t m) := (ps_asg he hg hs hw h1).of fun D σ H h => asg_of (tg := tg) D σ H h
theorem st_set (i : Nat) {x : Str} {pos' : Pos} (hN : X.N.Nodup) (he : ME X W e m) (hi : X.N[i]? = some x := by rfl) (hx : Loc X.env.scope x := by first | exact Or.inl rfl | exact Or.inr rfl) (hs : swapsWith e (some (.Name x pos')) pos.line X.env = pure false := by rfl) (hf : X.fn x = true ∨ X.env.scope.names.lookup x = some .local := by first | exact .inl rfl | exact .inr rfl | assumption) :
    MS X W (.Assign [.Name x pos'] e pos) (sAsg (gN i) m) := (ps_set hN hi hx he hs hf).of fun D σ H h => by
  obtain ⟨vs, st, μ, G, F, re, k, h⟩ := h
  exact ⟨vs, st, μ, G, F, re, k, (DoneS.thn re h).mono fun μ1 G1 x st1 H1 f1 k1 h1 v rv => h1 μ1 G1 H1 _ (.refl _ _) k1 ((re.fut f1).set rv i)⟩
theorem st_aug (i : Nat) {x : Str} {op : Operator} {r : R2} {f : D → D → Store → Re D} {pos' : Pos} (hN : X.N.Nodup) (ho : OpR X (inplaceOp op) r) (hsf : S2 X.K X.mg f r) (he : ME X W e m) (hi : X.N[i]? = some x := by rfl) (hx : Loc X.env.scope x := by first | exact Or.inl rfl | exact Or.inr rfl) (hf : X.fn x = true ∨ X.env.scope.names.lookup x = some .local := by first | exact .inl rfl | exact .inr rfl | assumption) :
    MS X W (.AugAssign (.Name x pos') op e pos) (sAug i f m) := (ps_aug (ti := r) hN hi hx he (fun pins s σ H x y v u Q I rx ry h => ho pins s σ H x y v u Q I rx ry h) hf).of fun D σ H h => by
  obtain ⟨vs, st, μ, G, F, re, k, h⟩ := h
  unfold sAug getV at h
  cases hv : vs[i]? with
  | none => rw [hv] at h; exact h.elim
  | some o =>
    cases o with
    | none => rw [hv] at h; exact h.elim
    | some d =>
      rw [hv] at h
      obtain ⟨v, e, rd⟩ := re.get i d hv
      refine ⟨v, e, vs, st, μ, G, F, re, k, (DoneS.thn re h).mono fun μ1 G1 y st1 H1 f1 k1 h1 w rw' => ?_⟩
      refine hsf W σ μ1 G1 F st1 H1 d y v w _ k1 (rd.fut f1) rw' ((DoneS.thn (re.fut f1) h1).mono fun μ2 G2 z st2 H2 f2 k2 h2 u ru => ?_)
      exact h2 μ2 G2 H2 _ (.refl _ _) k2 (((re.fut f1).fut f2).set ru i)

/-! ### while -/
def wGo (c : EM) (b : SM) : Nat → Vars → Store → Option Rs
  | 0, _, _ => none
  | n + 1, vs, st => match c vs st with
    | .bad => some .bad
    | .exc e st => some (.exc e vs st)
    | .ok d st => match d with
      | .bl true => match b vs st with
        | .nx vs st => wGo c b n vs st
        | .ct vs st => wGo c b n vs st
        | .brk vs st => some (.nx vs st)
        | r => some r
      | .bl false => some (.nx vs st)
      | _ => some .bad
theorem wGo_succ {c : EM} {b : SM} : ∀ {n : Nat} {vs : Vars} {st : Store} {r : Rs}, wGo c b n vs st = some r → wGo c b (n + 1) vs st = some r
  | 0, _, _, _, h => by cases h
  | n + 1, vs, st, r, h => by
    unfold wGo at h ⊢
    cases hc : c vs st with
    | bad => rw [hc] at h; exact h
    | exc e st1 => rw [hc] at h; exact h
    | ok d st1 =>
      rw [hc] at h
      cases d with
      | bl k =>
        cases k with
        | false => exact h
        | true =>
          cases hb : b vs st1 with
          | nx vs2 st2 =>
            simp only [hb] at h ⊢
            exact wGo_succ h
          | ct vs2 st2 =>
            simp only [hb] at h ⊢
            exact wGo_succ h
          | bad => simp only [hb] at h ⊢; exact h
          | ret d st2 => simp only [hb] at h ⊢; exact h
          | brk vs2 st2 => simp only [hb] at h ⊢; exact h
          | exc e vs2 st2 => simp only [hb] at h ⊢; exact h
      | _ => exact h
theorem wGo_le {c : EM} {b : SM} {n k : Nat} {vs : Vars} {st : Store} {r : Rs} (h : wGo c b n vs st = some r) : wGo c b (n + k) vs st = some r := by
  induction k with
  | zero => exact h
  | succ k ih => exact wGo_succ ih
theorem wGo_det {c : EM} {b : SM} {n k : Nat} {vs : Vars} {st : Store} {r r' : Rs} (h : wGo c b n vs st = some r) (h' : wGo c b k vs st = some r') : r = r' := by
  have h1 := wGo_le (k := k) h
  have h2 := wGo_le (k := n) h'
  rw [Nat.add_comm k n] at h2
  rw [h1] at h2
  exact Option.some.inj h2
open Classical in
noncomputable def sWhile (c : EM) (b : SM) : SM := fun vs st => if h : ∃ r n, wGo c b n vs st = some r then h.choose else .bad
theorem sWhile_eq {c : EM} {b : SM} {n : Nat} {vs : Vars} {st : Store} {r : Rs} (h : wGo c b n vs st = some r) : sWhile c b vs st = r := by
  unfold sWhile
  have h' : ∃ r n, wGo c b n vs st = some r := ⟨r, n, h⟩
  rw [dif_pos h']
  obtain ⟨k, hk⟩ := h'.choose_spec
  exact wGo_det hk h
theorem sWhile_some {c : EM} {b : SM} {vs : Vars} {st : Store} (h : sWhile c b vs st ≠ .bad) : ∃ n, wGo c b n vs st = some (sWhile c b vs st) := by
  by_cases h' : ∃ r n, wGo c b n vs st = some r
  · obtain ⟨r, n, e⟩ := h'
    exact ⟨n, by rw [sWhile_eq e]; exact e⟩
  · exfalso
    apply h
    unfold sWhile
    rw [dif_neg h']
/-- one turn -/
theorem sWhile_turn {c : EM} {b : SM} {vs vs1 : Vars} {st st1 st2 : Store} (hc : c vs st = .ok (.bl true) st1) (hb : b vs st1 = .nx vs1 st2) : sWhile c b vs st = sWhile c b vs1 st2 := by
  by_cases h' : ∃ r n, wGo c b n vs1 st2 = some r
  · obtain ⟨r, n, e⟩ := h'
    rw [sWhile_eq e]
    refine sWhile_eq (n := n + 1) ?_
    unfold wGo
    rw [hc]
    simp only [hb]
    exact e
  · have e1 : sWhile c b vs1 st2 = .bad := by
      unfold sWhile
      rw [dif_neg h']
    rw [e1]
    unfold sWhile
    rw [dif_neg]
    rintro ⟨r, n, e⟩
    cases n with
    | zero => cases e
    | succ n =>
      unfold wGo at e
      rw [hc] at e
      simp only [hb] at e
      exact h' ⟨r, n, e⟩
theorem sWhile_end {c : EM} {b : SM} {vs : Vars} {st st1 : Store} (hc : c vs st = .ok (.bl false) st1) : sWhile c b vs st = .nx vs st1 := by
  refine sWhile_eq (n := 1) ?_
  unfold wGo
  rw [hc]
theorem st_while (hp : PassesOwn (model X.prog X.w) X.A X.env X.xe) (hc : MT X W c mc) (hb : MSs X W body n) : MS X W (.While c body [] pos) (sWhile mc n) := (ps_while hp hc hb).of fun D σ H h => by
  obtain ⟨vs, st, μ, G, F, re, k, h⟩ := h
  have hne : sWhile mc n vs st ≠ .bad := fun e => by rw [e] at h; exact h
  obtain ⟨n0, e0⟩ := sWhile_some hne
  refine ⟨fun m σ H => ∃ vs st μ G F r, RepE X.K μ G vs σ ∧ Kn X.K X.mg μ G F st H ∧ wGo mc n m vs st = some r ∧ DoneS X.K X.mg W μ G F r D, ⟨n0, vs, st, μ, G, F, _, re, k, e0, h⟩, ?_⟩
  rintro m σ H ⟨vs, st, μ, G, F, r, re, k, e, h⟩
  cases m with
  | zero => cases e
  | succ m =>
    unfold wGo at e
    refine ⟨vs, st, μ, G, F, re, k, ?_⟩
    cases hc : mc vs st with
    | bad =>
      rw [hc] at e
      injection e with e
      subst e
      exact h
    | exc ex st1 =>
      rw [hc] at e
      injection e with e
      subst e
      exact fun μ' G' H' cls dd f kn x => h μ' G' H' σ cls dd f kn (re.fut f) x
    | ok d st1 =>
      rw [hc] at e
      intro μ1 G1 H1 f1 k1
      cases d with
      | bl kk =>
        refine ⟨kk, rfl, ?_⟩
        cases kk with
        | false =>
          injection e with e
          subst e
          rw [if_neg Bool.false_ne_true]
          exact h μ1 G1 H1 σ f1 k1 (re.fut f1)
        | true =>
          rw [if_pos rfl]
          refine ⟨fun σ' H' => ∃ vs st μ G F r, RepE X.K μ G vs σ' ∧ Kn X.K X.mg μ G F st H' ∧ wGo mc n m vs st = some r ∧ DoneS X.K X.mg W μ G F r D, fun σ' H' ⟨vs, st, μ, G, F, r, q⟩ => ⟨m, Nat.lt_succ_self m, vs, st, μ, G, F, r, q⟩, vs, st1, μ1, G1, F, re.fut f1, k1, ?_⟩
          have h1 := DoneS.fut f1 h
          cases hb : n vs st1 with
          | nx vs2 st2 =>
            simp only [hb] at e
            exact fun μ2 G2 H2 σ2 f2 k2 re2 => ⟨vs2, st2, μ2, G2, F, r, re2, k2, e, DoneS.fut f2 h1⟩
          | ct vs2 st2 =>
            simp only [hb] at e
            exact fun μ2 G2 H2 σ2 f2 k2 re2 => ⟨vs2, st2, μ2, G2, F, r, re2, k2, e, DoneS.fut f2 h1⟩
          | bad => simp only [hb] at e; injection e with e; subst e; exact h1
          | ret d st2 => simp only [hb] at e; injection e with e; subst e; exact h1
          | brk vs2 st2 => simp only [hb] at e; injection e with e; subst e; exact h1
          | exc ex vs2 st2 => simp only [hb] at e; injection e with e; subst e; exact h1
      | _ =>
        injection e with e
        subst e
        exact h.elim
end
end Dn
namespace Dn
open PySem PySem.Spec PyProof.Rows L2

/-! ### what is guarded for a while -/
section
variable {K : PySem.W.Frag} {mg : Str → Option Value} {μ : List Addr} {G F : Hp} {st : Store} {H : Hp} {p : Addr} {o o' : HO} {ob : Ob}
theorem Kn.guard (k : Kn K mg μ G F st H) (hp : H p = none) : Kn K mg μ G (upd F p o) st (upd H p o) := by
  have gp : G p = none := k.ex.free hp
  have fp : F p = none := k.fr.free hp
  have hm : ∀ a ∈ μ, a ≠ p := fun a ha z => k.there a ha (by rw [z]; exact hp)
  refine ⟨k.ex.mut gp, fun a u e => ?_, fun a u e => ?_, k.len, k.inj, fun n ob e => ?_, fun a ha => ?_, fun a ha => ?_⟩
  · by_cases h : a = p
    · subst h; rw [upd_same] at e ⊢; exact e
    · rw [upd_ne h] at e ⊢; exact k.fr a u e
  · by_cases h : a = p
    · subst h; exact gp
    · rw [upd_ne h] at e; exact k.sep a u e
  · obtain ⟨a, u, h1, h2, h3, h4, h5⟩ := k.cell n ob e
    have ha := hm a (List.mem_of_getElem? h1)
    exact ⟨a, u, h1, h2, by rw [upd_ne ha]; exact h3, by rw [upd_ne ha]; exact h4, h5⟩
  · rw [upd_ne (hm a ha)]; exact k.there a ha
  · rw [upd_ne (hm a ha)]; exact k.out a ha
theorem Kn.notin (k : Kn K mg μ G (upd F p o) st H) : ∀ a ∈ μ, a ≠ p := fun a ha z => by
  have := k.out a ha
  rw [z, upd_same] at this
  cases this
theorem Kn.gfree (k : Kn K mg μ G (upd F p o) st H) : G p = none := k.sep p o upd_same
theorem Kn.gat (k : Kn K mg μ G (upd F p o) st H) : H p = some o := k.fr p o upd_same
theorem Kn.reguard (k : Kn K mg μ G (upd F p o) st H) : Kn K mg μ G (upd F p o') st (upd H p o') := by
  have hm := k.notin
  refine ⟨k.ex.mut k.gfree, fun a u e => ?_, fun a u e => ?_, k.len, k.inj, fun n ob e => ?_, fun a ha => ?_, fun a ha => ?_⟩
  · by_cases h : a = p
    · subst h; rw [upd_same] at e ⊢; exact e
    · rw [upd_ne h] at e ⊢; exact k.fr a u (by rw [upd_ne h]; exact e)
  · by_cases h : a = p
    · subst h; exact k.gfree
    · rw [upd_ne h] at e; exact k.sep a u (by rw [upd_ne h]; exact e)
  · obtain ⟨a, u, h1, h2, h3, h4, h5⟩ := k.cell n ob e
    have ha := hm a (List.mem_of_getElem? h1)
    exact ⟨a, u, h1, h2, by rw [upd_ne ha] at h3 ⊢; exact h3, by rw [upd_ne ha]; exact h4, h5⟩
  · rw [upd_ne (hm a ha)]; exact k.there a ha
  · have := k.out a ha
    rw [upd_ne (hm a ha)] at this ⊢
    exact this
/-- F itself has nothing there -/
theorem Kn.unguard (k : Kn K mg μ G (upd F p o) st H) (hf : F p = none) : Kn K mg μ G F st H := by
  have hm := k.notin
  refine ⟨k.ex, fun a u e => k.fr a u (by rw [upd_ne (ne_of_none e hf)]; exact e), fun a u e => k.sep a u (by rw [upd_ne (ne_of_none e hf)]; exact e), k.len, k.inj, fun n ob e => ?_, k.there, fun a ha => ?_⟩
  · obtain ⟨a, u, h1, h2, h3, h4, h5⟩ := k.cell n ob e
    have ha := hm a (List.mem_of_getElem? h1)
    exact ⟨a, u, h1, h2, by rw [upd_ne ha] at h3; exact h3, h4, h5⟩
  · have := k.out a ha
    rw [upd_ne (hm a ha)] at this
    exact this
/-- what was guarded is known for ever -/
theorem Kn.release (k : Kn K mg μ G (upd F p o) st H) (hf : F p = none) : Kn K mg μ (upd G p o) F st H := by
  have k' := k.unguard hf
  have hm := k.notin
  have f : Fut μ G μ (upd G p o) := .know (.new k.gfree)
  refine ⟨fun a u e => ?_, k'.fr, fun a u e => ?_, k.len, k.inj, fun n ob e => ?_, k.there, k'.out⟩
  · by_cases h : a = p
    · subst h; rw [upd_same] at e; rw [← e]; exact k.gat
    · rw [upd_ne h] at e; exact k.ex a u e
  · have h : a ≠ p := ne_of_none e hf
    rw [upd_ne h]
    exact k'.sep a u e
  · obtain ⟨a, u, h1, h2, h3, h4, h5⟩ := k'.cell n ob e
    have ha := hm a (List.mem_of_getElem? h1)
    exact ⟨a, u, h1, by rw [upd_ne ha]; exact h2, h3, h4, h5.fut f⟩
/-- .. is a place of the store -/
theorem Kn.place (k : Kn K mg μ G (upd F p o) st H) (hf : F p = none) (r : RepO K mg μ G ob o) : Kn K mg (μ ++ [p]) G F (st ++ [some ob]) H := by
  have k' := k.unguard hf
  have hm := k.notin
  have f : Fut μ G (μ ++ [p]) G := ⟨⟨[p], rfl⟩, .refl G⟩
  refine ⟨k'.ex, k'.fr, k'.sep, by simp [k.len], List.nodup_append.mpr ⟨k.inj, by simp, fun a ha b hb => ?_⟩, fun n ob' e => ?_, fun a ha => ?_, fun a ha => ?_⟩
  · have : b = p := by simpa using hb
    rw [this]
    exact hm a ha
  · by_cases hn : n < st.length
    · rw [List.getElem?_append_left hn] at e
      obtain ⟨a, u, h1, h2, h3, h4, h5⟩ := k'.cell n ob' e
      exact ⟨a, u, f.at h1, h2, h3, h4, h5.fut f⟩
    · have hn' : n = st.length := by
        have := (List.getElem?_eq_some_iff.mp e).1
        rw [List.length_append] at this
        simp at this
        omega
      subst hn'
      rw [List.getElem?_append_right (Nat.le_refl _), Nat.sub_self] at e
      have e' : ob = ob' := by simpa using e
      subst e'
      exact ⟨p, o, by rw [← k.len, List.getElem?_append_right (Nat.le_refl _), Nat.sub_self]; rfl, k.gfree, hf, k.gat, r.fut f⟩
  · rcases List.mem_append.mp ha with h1 | h1
    · exact k.there a h1
    · have : a = p := by simpa using h1
      rw [this, k.gat]
      intro z
      cases z
  · rcases List.mem_append.mp ha with h1 | h1
    · exact k'.out a h1
    · have : a = p := by simpa using h1
      rw [this]
      exact hf
end

/-! ### what is walked -/
/-- the items, and the place of the list that must stay as it is meanwhile -/
abbrev Its := List D × List (Nat × Ob)
def grdL (st : Store) : List (Nat × Ob) → Prop
  | [] => True
  | p :: r => cell st p.1 = some p.2 ∧ grdL st r
abbrev IM := Vars → Store → Re Its
abbrev grd (it : Its) (st : Store) : Prop := grdL st it.2
section
variable (K : PySem.W.Frag) (mg : Str → Option Value) (W : WX)
def Wk (μ : List Addr) (G : Hp) (J : It) (it : Its) : Prop := ∀ μ' G' F st H, Fut μ G μ' G' → Kn K mg μ' G' F st H → grd it st →
  J.stop it.1.length H ∧ ∀ (i : Nat) (d : D), it.1[i]? = some d → J.go i H ∧ ∀ x H', J.yld i H x H' → ∃ G'', Fut μ' G' μ' G'' ∧ Kn K mg μ' G'' F st H' ∧ Rep K μ' G'' d x
def tI (m : IM) : TI := fun σ H R => ∃ vs st μ G F, RepE K μ G vs σ ∧ Kn K mg μ G F st H ∧ Done K mg W σ μ G F (m vs st) fun μ' G' it st' H' => grd it st' ∧ ∀ J, Wk K mg μ' G' J it → R J H'
end
abbrev MI (X : Cx) (W : WX) (tg iter : Expr) (m : IM) : Prop := PI X tg iter (tI X.K X.mg W m)
theorem _root_.L2.PI.of {X : Cx} {tg iter : Expr} {t t' : TI} (h : PI X tg iter t) (k : ∀ σ H R, t' σ H R → t σ H R) : PI X tg iter t' := ⟨fun pins s σ H R I q => h.run pins s σ H R I (k σ H R q)⟩
section
variable {X : Cx} {W : WX} {tg l a b c : Expr} {tl : TE} {ml ma mb : EM} {ms : EMs} {pos p : Pos}
/-- a list or a tuple -/
def iSq (K : PySem.W.Frag) (tl : TE) : TI := fun σ H R => tl σ H fun x H1 => ∃ a, x = .ref a ∧ ((∃ xs, SqL K H1 a xs) ∧ R (Itl K a) H1 ∨ (∃ xs, SqT K H1 a xs) ∧ R (Itt K a) H1)
theorem pi_sq (hl : PE X l tl) : PI X tg l (iSq X.K tl) := by
  refine ⟨fun pins s σ H R I h => ?_⟩
  refine thn (hl.run pins s σ H _ I h) fun v s1 ⟨x, H1, I1, r1, q1⟩ => ?_
  obtain ⟨a, e, q⟩ := q1
  subst e
  cases r1
  rcases q with ⟨⟨xs, hq⟩, q⟩ | ⟨⟨xs, hq⟩, q⟩
  · obtain ⟨its, rv, p, hz⟩ := I1.list hq
    refine wpAny_pyIter_list p.isList ?_
    refine ⟨s1.heap.objs.size, [s1.heap.objs.size], _, _, H1, rfl, I1.kept (t' := s1.toks) fun b o e => Heap.get?_push_of_some _ e, turn_list a _, ⟨_, Heap.get?_push_size _ rfl, rfl, rfl⟩, fun b hb => ?_, q⟩
    have e : b = s1.heap.objs.size := by simpa using hb
    subst e
    exact I1.fpOk (Nat.le_refl _) (I1.hok.fresh (Nat.le_refl _))
  · obtain ⟨its, rv, p, hz⟩ := I1.tuple hq
    refine wpAny_pyIter_tuple (show s1.heap.IsTuple a its.toArray from p) ?_
    refine ⟨s1.heap.objs.size, [s1.heap.objs.size], _, _, H1, rfl, I1.kept (t' := s1.toks) fun b o e => Heap.get?_push_of_some _ e, turn_tuple a _, ⟨_, Heap.get?_push_size _ rfl, rfl, rfl⟩, fun b hb => ?_, q⟩
    have e : b = s1.heap.objs.size := by simpa using hb
    subst e
    exact I1.fpOk (Nat.le_refl _) (I1.hok.fresh (Nat.le_refl _))
/-- the items of a list or a tuple -/
def itsOf (st : Store) : D → Option Its
  | .tup ds => some (ds, [])
  | .lst ds => some (ds, [])
  | .frz ds => some (ds, [])
  | .loc n => match lstAt st n with
    | some ds => some (ds, [(n, .lst ds)])
    | none => none
  | _ => none
theorem lstAt_of {st : Store} {n : Nat} {ds : List D} (h : cell st n = some (.lst ds)) : lstAt st n = some ds := by
  unfold lstAt
  rw [h]
def iE (m : EM) : IM := fun vs st => (m vs st).bind fun x st => match itsOf st x with
  | some it => .ok it st
  | none => .bad
theorem i_sq (hl : ME X W l ml) : MI X W tg l (iE ml) := (pi_sq hl).of fun σ H R h => by
  obtain ⟨vs, st, μ, G, F, re, k, h⟩ := h
  refine ⟨vs, st, μ, G, F, re, k, (Done.bind h).mono fun μ1 G1 x st1 H1 f1 k1 h1 v rv => ?_⟩
  split at h1
  · rename_i it e
    obtain ⟨g, q⟩ := Done.here k1 h1
    cases x with
    | tup ds =>
      injection e with e
      subst e
      obtain ⟨a, vs', rfl, hs, rs⟩ := rep_tup rv
      refine ⟨a, rfl, .inr ⟨⟨vs', k1.ex.sqt hs⟩, q _ fun μ2 G2 F2 st2 H2 f2 k2 _ => ?_⟩⟩
      have hs2 : SqT X.K H2 a vs' := k2.ex.sqt (f2.ex.sqt hs)
      refine ⟨⟨vs', hs2, by rw [rs.length]; exact Nat.le_refl _⟩, fun i d hd => ?_⟩
      obtain ⟨w, hw, rw'⟩ := rs.get hd
      refine ⟨⟨vs', w, hs2, hw⟩, fun y H3 hy => ?_⟩
      obtain ⟨rfl, hy⟩ := hy
      have := hy vs' hs2
      rw [hw] at this
      cases this
      exact ⟨G2, .refl _ _, k2, rw'.fut f2⟩
    | lst ds =>
      injection e with e
      subst e
      obtain ⟨a, vs', rfl, hs, rs⟩ := rep_lst rv
      refine ⟨a, rfl, .inl ⟨⟨vs', .of (k1.ex _ _ hs)⟩, q _ fun μ2 G2 F2 st2 H2 f2 k2 _ => ?_⟩⟩
      have hs2 : SqL X.K H2 a vs' := .of (k2.ex _ _ (f2.ex _ _ hs))
      refine ⟨⟨vs', hs2, by rw [rs.length]; exact Nat.le_refl _⟩, fun i d hd => ?_⟩
      obtain ⟨w, hw, rw'⟩ := rs.get hd
      refine ⟨⟨vs', w, hs2, hw⟩, fun y H3 hy => ?_⟩
      obtain ⟨rfl, hy⟩ := hy
      have := hy vs' hs2
      rw [hw] at this
      cases this
      exact ⟨G2, .refl _ _, k2, rw'.fut f2⟩
    | frz ds =>
      injection e with e
      subst e
      obtain ⟨a, vs', rfl, hs, rs⟩ := rep_frz rv
      refine ⟨a, rfl, .inl ⟨⟨vs', k1.ex.sql hs⟩, q _ fun μ2 G2 F2 st2 H2 f2 k2 _ => ?_⟩⟩
      have hs2 : SqL X.K H2 a vs' := k2.ex.sql (f2.ex.sql hs)
      refine ⟨⟨vs', hs2, by rw [rs.length]; exact Nat.le_refl _⟩, fun i d hd => ?_⟩
      obtain ⟨w, hw, rw'⟩ := rs.get hd
      refine ⟨⟨vs', w, hs2, hw⟩, fun y H3 hy => ?_⟩
      obtain ⟨rfl, hy⟩ := hy
      have := hy vs' hs2
      rw [hw] at this
      cases this
      exact ⟨G2, .refl _ _, k2, rw'.fut f2⟩
    | loc n =>
      unfold itsOf at e
      cases hc : lstAt st1 n with
      | none => simp only [hc] at e; cases e
      | some ds =>
        simp only [hc] at e
        injection e with e
        subst e
        obtain ⟨a, rfl, ha⟩ := rep_loc rv
        obtain ⟨a', vs', e', hs, rs⟩ := lstOf_rep (ds := ds) k1 rv hc
        cases e'
        refine ⟨a, rfl, .inl ⟨⟨vs', .of hs⟩, q _ fun μ2 G2 F2 st2 H2 f2 k2 g2 => ?_⟩⟩
        obtain ⟨a2, vs2, e2, hs2, rs2⟩ := lstOf_rep (d := .loc n) (ds := ds) k2 (.loc (f2.at ha)) (lstAt_of g2.1)
        cases e2
        have hs2 : SqL X.K H2 a vs2 := .of hs2
        refine ⟨⟨vs2, hs2, by rw [rs2.length]; exact Nat.le_refl _⟩, fun i d hd => ?_⟩
        obtain ⟨w, hw, rw'⟩ := rs2.get hd
        refine ⟨⟨vs2, w, hs2, hw⟩, fun y H3 hy => ?_⟩
        obtain ⟨rfl, hy⟩ := hy
        have := hy vs2 hs2
        rw [hw] at this
        cases this
        exact ⟨G2, .refl _ _, k2, rw'⟩
    | _ => cases e
  · exact h1.elim
/-- lo, lo + 1, .. -/
def rng (lo : Int) (n : Nat) : List D := (List.range n).map fun (i : Nat) => D.int (lo + (i : Int))
theorem wk_rng {K : PySem.W.Frag} {mg : Str → Option Value} {μ : List Addr} {G : Hp} {lo : Int} {n : Nat} : Wk K mg μ G (Itr lo n) (rng lo n, []) := by
  intro μ2 G2 F2 st2 H2 f2 k2 _
  have hl : (rng lo n).length = n := by simp [rng]
  refine ⟨by rw [hl]; exact Nat.le_refl _, fun i d hd => ?_⟩
  have hi : i < n := by
    have := (List.getElem?_eq_some_iff.mp hd).1
    rw [hl] at this
    exact this
  refine ⟨hi, fun y H3 hy => ?_⟩
  obtain ⟨rfl, rfl⟩ := hy
  have e : d = .int (lo + i) := by
    unfold rng at hd
    rw [List.getElem?_map, List.getElem?_range hi] at hd
    exact (Option.some.inj hd).symm
  subst e
  exact ⟨G2, .refl _ _, k2, .int⟩
def fitR (i : Int) : Prop := -(2 ^ 62) ≤ i ∧ i < 2 ^ 62
instance (i : Int) : Decidable (fitR i) := by unfold fitR; infer_instance
def iR (ms : EMs) : IM := fun vs st => (ms vs st).bind fun xs st => match xs with
  | [.int j] => if fitR j then .ok (rng 0 j.toNat, []) st else .bad
  | [.int i, .int j] => if fitR i ∧ fitR j then .ok (rng i (j - i).toNat, []) st else .bad
  | _ => .bad
theorem reps_one {K : PySem.W.Frag} {μ : List Addr} {G : Hp} {d : D} {ws : List V} (h : Reps K μ G [d] ws) : ∃ v, ws = [v] ∧ Rep K μ G d v := by
  obtain ⟨v, r, rfl, hv, ht⟩ := reps_cons h
  rw [reps_nil ht]
  exact ⟨v, rfl, hv⟩
theorem reps_two {K : PySem.W.Frag} {μ : List Addr} {G : Hp} {d e : D} {ws : List V} (h : Reps K μ G [d, e] ws) : ∃ v w, ws = [v, w] ∧ Rep K μ G d v ∧ Rep K μ G e w := by
  obtain ⟨v, r, rfl, hv, ht⟩ := reps_cons h
  obtain ⟨w, rfl, hw⟩ := reps_one ht
  exact ⟨v, w, rfl, hv, hw⟩
theorem ite_done' {α : Type} {c : Prop} [Decidable c] {r : Re α} {K : PySem.W.Frag} {mg : Str → Option Value} {W : WX} {σ : L2.St} {μ : List Addr} {G F : Hp} {P : List Addr → Hp → α → Store → Hp → Prop} (h : Done K mg W σ μ G F (if c then r else .bad) P) : c ∧ Done K mg W σ μ G F r P := by
  by_cases hc : c
  · rw [if_pos hc] at h; exact ⟨hc, h⟩
  · rw [if_neg hc] at h; exact h.elim
theorem i_rng1 (hm : X.mg "range" = none) (ha : MA X W [a] ms) (hms : ALen ms 1 := by repeat constructor) (hg : Gl X "range" := by rfl) (hs : starEach [a] X.env = [(false, eval a X.env)] := by rfl) : MI X W tg (.Call (.Name "range" p) [a] [] pos) (iR ms) :=
  (pi_range1 hg hm ha hs).of fun σ H R h => by
    obtain ⟨vs, st, μ, G, F, re, k, h⟩ := h
    unfold iR at h
    cases hd : ms vs st with
    | bad => rw [hd] at h; exact h.elim
    | exc ex st1 => rw [hd] at h; exact ⟨vs, st, μ, G, F, re, k, by rw [hd]; exact h⟩
    | ok ds st1 =>
      rw [hd] at h
      refine ⟨vs, st, μ, G, F, re, k, ?_⟩
      rw [hd]
      intro μ1 G1 H1 f1 k1 ws rws
      have hl := hms.len hd
      have h1 := Done.fut f1 h
      obtain ⟨d, rfl⟩ : ∃ d, ds = [d] := by
        match ds, hl with
        | [d], _ => exact ⟨d, rfl⟩
      obtain ⟨v, rfl, rv⟩ := reps_one rws
      cases d with
      | int j =>
        obtain ⟨hc, h1⟩ := ite_done' (α := Its) h1
        obtain ⟨_, q⟩ := Done.here k1 h1
        rw [rep_int rv]
        exact ⟨j, rfl, hc.1, hc.2, q _ wk_rng⟩
      | _ => exact h1.elim
theorem i_rng2 (hm : X.mg "range" = none) (ha : MA X W [a, b] ms) (hms : ALen ms 2 := by repeat constructor) (hg : Gl X "range" := by rfl) (hs : starEach [a, b] X.env = [(false, eval a X.env), (false, eval b X.env)] := by rfl) (hs2 : starEach [b] X.env = [(false, eval b X.env)] := by rfl) :
    MI X W tg (.Call (.Name "range" p) [a, b] [] pos) (iR ms) :=
  (pi_range2 hg hm ha hs hs2).of fun σ H R h => by
    obtain ⟨vs, st, μ, G, F, re, k, h⟩ := h
    unfold iR at h
    cases hd : ms vs st with
    | bad => rw [hd] at h; exact h.elim
    | exc ex st1 => rw [hd] at h; exact ⟨vs, st, μ, G, F, re, k, by rw [hd]; exact h⟩
    | ok ds st1 =>
      rw [hd] at h
      refine ⟨vs, st, μ, G, F, re, k, ?_⟩
      rw [hd]
      intro μ1 G1 H1 f1 k1 ws rws
      have hl := hms.len hd
      have h1 := Done.fut f1 h
      obtain ⟨d, e, rfl⟩ : ∃ d e, ds = [d, e] := by
        match ds, hl with
        | [d, e], _ => exact ⟨d, e, rfl⟩
      obtain ⟨v, w, rfl, rv, rw'⟩ := reps_two rws
      cases d with
      | int i =>
        cases e with
        | int j =>
          obtain ⟨⟨hc, hc'⟩, h1⟩ := ite_done' (α := Its) h1
          obtain ⟨_, q⟩ := Done.here k1 h1
          rw [rep_int rv, rep_int rw']
          exact ⟨i, j, rfl, ⟨hc.1, hc.2, hc'.1, hc'.2⟩, q _ wk_rng⟩
        | _ => exact h1.elim
      | _ => exact h1.elim
end

/-! ### for -/
open Classical in
noncomputable def forGo (g : TM) (b : SM) (fg : List Nat) (gd : Store → Prop) : List D → SM
  | [], vs, st => if gd st then .nx vs st else .bad
  | d :: ds, vs, st => if gd st then (match g d vs with
      | none => .bad
      | some vs1 => match b vs1 st with
        | .nx vs2 st2 => forGo g b fg gd ds (drp fg vs2) st2
        | .ct vs2 st2 => forGo g b fg gd ds (drp fg vs2) st2
        | .brk vs2 st2 => .nx (drp fg vs2) st2
        | r => r) else .bad
noncomputable def sFor (im : IM) (g : TM) (b : SM) (fg : List Nat) : SM := fun vs st => (im vs st).thn vs fun it st => forGo g b fg (grd it) it.1 (drp fg vs) st
theorem RepE.drp {K : PySem.W.Frag} {μ : List Addr} {G : Hp} {vs : Vars} {σ : L2.St} (h : RepE K μ G vs σ) : ∀ l : List Nat, RepE K μ G (drp l vs) σ
  | [] => h
  | i :: l => RepE.drp (h.drop i) l
section
variable {X : Cx} {W : WX} {tg iter : Expr} {body : List Stmt} {im : IM} {g : TM} {sl : List Nat} {b : SM} {pos : Pos}
theorem st_for (fg : List Nat) (hp : PassesOwn (model X.prog X.w) X.A X.env X.xe) (hi : MI X W tg iter im) (hg : MG X tg sl g) (hb : MSs X W body b) (hc : X.calm = true := by rfl)
    (hs : ∀ x, foldedSetIterable iter X.env x = pure x := by intro _; rfl) : MS X W (.For tg iter body [] pos) (sFor im g b fg) := (ps_for hp hc hi hg hb hs).of fun D σ H h => by
  obtain ⟨vs, st, μ, G, F, re, k, h⟩ := h
  refine ⟨vs, st, μ, G, F, re, k, (DoneS.thn re h).mono fun μ1 G1 it st1 H1 f1 k1 h1 => ?_⟩
  have h0 : grd it st1 := by
    cases e : it.1 with
    | nil =>
      rw [e] at h1
      unfold forGo at h1
      by_cases hq : grd it st1
      · exact hq
      · rw [if_neg hq] at h1; exact h1.elim
    | cons d ds =>
      rw [e] at h1
      unfold forGo at h1
      by_cases hq : grd it st1
      · exact hq
      · rw [if_neg hq] at h1; exact h1.elim
  refine ⟨h0, fun J hJ => ?_⟩
  refine ⟨fun i m σ H => m = it.1.length - i ∧ i ≤ it.1.length ∧ ∃ vs st μ' G', Fut μ1 G1 μ' G' ∧ RepE X.K μ' G' vs σ ∧ Kn X.K X.mg μ' G' F st H ∧ DoneS X.K X.mg W μ' G' F (forGo g b fg (grd it) (it.1.drop i) vs st) D,
    ⟨it.1.length, by simp, Nat.zero_le _, _, st1, μ1, G1, .refl _ _, (re.fut f1).drp fg, k1, h1⟩, ?_⟩
  rintro i m σ H ⟨rfl, hi, vs, st, μ2, G2, f2, re2, k2, h2⟩
  by_cases hlt : i < it.1.length
  · have hd : it.1.drop i = it.1[i] :: it.1.drop (i + 1) := List.drop_eq_getElem_cons hlt
    rw [hd] at h2
    unfold forGo at h2
    by_cases hq : grd it st
    · rw [if_pos hq] at h2
      obtain ⟨_, hgo⟩ := hJ μ2 G2 F st H f2 k2 hq
      obtain ⟨go, yl⟩ := hgo i _ (List.getElem?_eq_getElem hlt)
      refine .inr ⟨go, fun σ' H' => ∃ vs st μ' G', Fut μ1 G1 μ' G' ∧ RepE X.K μ' G' vs σ' ∧ Kn X.K X.mg μ' G' F st H' ∧ DoneS X.K X.mg W μ' G' F (forGo g b fg (grd it) (it.1.drop (i + 1)) vs st) D,
        fun σ' H' q => ⟨it.1.length - (i + 1), by omega, rfl, hlt, q⟩, fun x H' hy => ?_⟩
      obtain ⟨G3, f3, k3, r3⟩ := yl x H' hy
      cases hgd : g it.1[i] vs with
      | none => simp only [hgd] at h2; exact h2.elim
      | some vs1 =>
        simp only [hgd] at h2
        refine ⟨it.1[i], vs, vs1, μ2, G3, r3, k3.ex, re2.fut f3, hgd, fun σ4 re4 _ => ⟨vs1, st, μ2, G3, F, re4, k3, ?_⟩⟩
        have h3 := DoneS.fut f3 h2
        cases hb : b vs1 st with
        | nx vs5 st5 =>
          simp only [hb] at h3
          exact fun μ5 G5 H5 σ5 f5 k5 re5 => ⟨_, st5, μ5, G5, (f2.trans f3).trans f5, re5.drp fg, k5, DoneS.fut f5 h3⟩
        | ct vs5 st5 =>
          simp only [hb] at h3
          exact fun μ5 G5 H5 σ5 f5 k5 re5 => ⟨_, st5, μ5, G5, (f2.trans f3).trans f5, re5.drp fg, k5, DoneS.fut f5 h3⟩
        | brk vs5 st5 =>
          simp only [hb] at h3
          exact fun μ5 G5 H5 σ5 f5 k5 re5 => h3 μ5 G5 H5 σ5 f5 k5 (re5.drp fg)
        | bad => simp only [hb] at h3; exact h3
        | ret d st5 => simp only [hb] at h3; exact h3
        | exc e vs5 st5 => simp only [hb] at h3; exact h3
    · rw [if_neg hq] at h2; exact h2.elim
  · have e : i = it.1.length := by omega
    subst e
    rw [List.drop_length] at h2
    unfold forGo at h2
    by_cases hq : grd it st
    · rw [if_pos hq] at h2
      obtain ⟨hst, _⟩ := hJ μ2 G2 F st H f2 k2 hq
      exact .inl ⟨hst, h2 μ2 G2 H σ (.refl _ _) k2 re2⟩
    · rw [if_neg hq] at h2; exact h2.elim
end

/-! ### comprehensions -/
def Re.okk {α β : Type} (r : Re α) (k : α → Store → Re β) (_ : Lk k := Unit.unit) : Re β := match r with
  | .ok a st => k a st
  | _ => .bad
open Classical in
noncomputable def compGo (g : TM) (t e : EM) (gd : Store → Prop) (vs : Vars) : List D → Store → Re (List D)
  | [], st => if gd st then .ok [] st else .bad
  | d :: ds, st => if gd st then (match g d vs with
      | none => .bad
      | some vs1 => (t vs1 st).okk fun x st1 => match x with
        | .bl true => (e vs1 st1).okk fun y st2 => (compGo g t e gd vs ds st2).okk fun ys st3 => .ok (y :: ys) st3
        | .bl false => compGo g t e gd vs ds st1
        | _ => .bad) else .bad
noncomputable def eComp (n : Bool) (im : IM) (g : TM) (t e : EM) (own : List Nat) : EM := fun vs st => (im vs st).bind fun it st => if room it.1.length then (compGo g t e (grd it) (drp own vs) it.1 st).okk fun ys st => mkNew n ys st else .bad
abbrev W0 : WX := fun _ _ _ _ => False
abbrev MTs (X : Cx) (W : WX) (ifs : List Expr) (m : EM) : Prop := PTs X ifs (tT X.K X.mg W m)
section
variable {X : Cx} {W : WX} {c : Expr} {m : EM}
theorem ts_nil : MTs X W [] (eC (.bl true)) := ⟨fun pins s σ H Q I h => pts_nil.run pins s σ H Q I (by
  obtain ⟨vs, st, μ, G, F, re, k, h⟩ := h
  obtain ⟨b, e, q⟩ := Done.here k h
  cases e
  exact q)⟩
theorem ts_one (h : MT X W c m) : MTs X W [c] m := pts_one h
end
theorem wipe_get {σ : L2.St} : ∀ {l : List Nat} {j : Nat}, j ∉ l → (wipe σ l)[j]? = σ[j]?
  | [], _, _ => rfl
  | v :: l, j, h => by
    unfold wipe
    rw [List.getElem?_set_ne (fun z => h (by simp [z])), wipe_get (fun z => h (List.mem_cons_of_mem _ z))]
theorem wipe_at {σ : L2.St} : ∀ {l : List Nat} {j : Nat}, j ∈ l → (wipe σ l)[j]? = if j < σ.length then some none else none
  | v :: l, j, h => by
    unfold wipe
    by_cases e : v = j
    · subst e
      by_cases hl : v < σ.length
      · rw [List.getElem?_set_self (by rw [wipe_length]; exact hl), if_pos hl]
      · rw [List.getElem?_eq_none (by rw [List.length_set, wipe_length]; omega), if_neg hl]
    · rw [List.getElem?_set_ne e]
      exact wipe_at (by
        rcases List.mem_cons.mp h with z | z
        · exact absurd z.symm e
        · exact z)
theorem wipe_but {σ σ2 : L2.St} {l sl : List Nat} (h : But sl (wipe σ l) σ2) (hs : ∀ j ∈ sl, j ∈ l) : wipe σ2 l = wipe σ l := by
  have hl : σ2.length = σ.length := by rw [h.1, wipe_length]
  refine List.ext_getElem? fun j => ?_
  by_cases hj : j ∈ l
  · rw [wipe_at hj, wipe_at hj, hl]
  · rw [wipe_get hj, h.2 j fun z => hj (hs j z)]
theorem drp_get {vs : Vars} : ∀ {l : List Nat} {j : Nat} {d : D}, (drp l vs)[j]? = some (some d) → j ∉ l ∧ vs[j]? = some (some d)
  | [], _, _, h => ⟨by simp, h⟩
  | i :: l, j, d, h => by
    have h' : (drp l (vs.set i none))[j]? = some (some d) := h
    obtain ⟨h1, h2⟩ := drp_get h'
    by_cases e : i = j
    · subst e
      by_cases hl : i < vs.length
      · rw [List.getElem?_set_self hl] at h2; cases h2
      · rw [List.getElem?_eq_none (by simpa using hl)] at h2; cases h2
    · rw [List.getElem?_set_ne e] at h2
      exact ⟨by simp only [List.mem_cons, not_or]; exact ⟨fun z => e z.symm, h1⟩, h2⟩
theorem drp_length {vs : Vars} : ∀ {l : List Nat}, (drp l vs).length = vs.length
  | [] => rfl
  | i :: l => by
    have : (drp l (vs.set i none)).length = (vs.set i none).length := drp_length
    rw [List.length_set] at this
    exact this
theorem RepE.wipe {K : PySem.W.Frag} {μ : List Addr} {G : Hp} {vs : Vars} {σ : L2.St} (h : RepE K μ G vs σ) (l : List Nat) : RepE K μ G (Dn.drp l vs) (L2.wipe σ l) := by
  refine ⟨by rw [drp_length, wipe_length, h.len], fun i d e => ?_⟩
  obtain ⟨h1, h2⟩ := drp_get e
  rw [wipe_get h1]
  exact h.get i d h2
section
variable {X : Cx} {W : WX} {tg iter elt : Expr} {ifs : List Expr} {scope : Scope} {own : List (Str × Nat)} {im : IM} {g : TM} {sl : List Nat} {mt me : EM} {pos : Pos}
theorem comp_of (n : Bool) (hsl : ∀ j ∈ sl, j ∈ own.map (·.2)) (σ : L2.St) (H : Hp) (Q : VK) (h : tE X.K X.mg W (eComp n im g mt me (own.map (·.2))) σ H Q) :
    tLc (tI X.K X.mg W im) (gM X.K sl g) (tT X.K X.mg W0 mt) (tE X.K X.mg W0 me) (own.map (·.2)) σ H Q := by
  obtain ⟨vs, st, μ, G, F, re, k, h⟩ := h
  generalize hown : own.map (·.2) = ow at hsl h ⊢
  refine ⟨vs, st, μ, G, F, re, k, (Done.bind h).mono fun μ1 G1 it st1 H1 f1 k1 h1 => ?_⟩
  obtain ⟨hr, h1⟩ := ite_done h1
  have h0 : grd it st1 := by
    by_cases hq : grd it st1
    · exact hq
    · exfalso
      cases e : it.1 with
      | nil =>
        rw [e] at h1
        unfold compGo at h1
        rw [if_neg hq] at h1
        exact h1
      | cons d ds =>
        rw [e] at h1
        unfold compGo at h1
        rw [if_neg hq] at h1
        exact h1
  refine ⟨h0, fun J hJ D hD => ?_⟩
  have fD : F D = none := k1.fr.free hD
  refine ⟨fun i m H => m = it.1.length - i ∧ i ≤ it.1.length ∧ ∃ acc av st μ' G', Fut μ1 G1 μ' G' ∧ Kn X.K X.mg μ' G' (upd F D (.lst av)) st H ∧ Reps X.K μ' G' acc av ∧ acc.length ≤ i ∧
      Done X.K X.mg W σ μ' G' F ((compGo g mt me (grd it) (drp ow vs) (it.1.drop i) st).okk fun ys st => mkNew n (acc ++ ys) st) (Fin X.K Q),
    ⟨it.1.length, by simp, Nat.zero_le _, [], [], st1, μ1, G1, .refl _ _, k1.guard hD, .nil, Nat.le_refl _, h1⟩, ?_⟩
  rintro i m H2 ⟨rfl, hi, acc, av, st2, μ2, G2, f2, k2, ra, hla, h2⟩
  by_cases hlt : i < it.1.length
  · have hd : it.1.drop i = it.1[i] :: it.1.drop (i + 1) := List.drop_eq_getElem_cons hlt
    rw [hd] at h2
    unfold compGo at h2
    by_cases hq : grd it st2
    · rw [if_pos hq] at h2
      obtain ⟨_, hgo⟩ := hJ μ2 G2 _ st2 H2 f2 k2 hq
      obtain ⟨go, yl⟩ := hgo i _ (List.getElem?_eq_getElem hlt)
      refine .inr ⟨go, fun H => ∃ acc av st μ' G', Fut μ1 G1 μ' G' ∧ Kn X.K X.mg μ' G' (upd F D (.lst av)) st H ∧ Reps X.K μ' G' acc av ∧ acc.length ≤ i + 1 ∧
          Done X.K X.mg W σ μ' G' F ((compGo g mt me (grd it) (drp ow vs) (it.1.drop (i + 1)) st).okk fun ys st => mkNew n (acc ++ ys) st) (Fin X.K Q),
        fun H' q => ⟨it.1.length - (i + 1), by omega, rfl, hlt, q⟩, fun x H' hy => ?_⟩
      obtain ⟨G3, f3, k3, r3⟩ := yl x H' hy
      cases hgd : g it.1[i] (drp ow vs) with
      | none => simp only [hgd] at h2; exact h2.elim
      | some vs1 =>
        simp only [hgd] at h2
        have re3 : RepE X.K μ2 G3 (drp ow vs) (wipe σ ow) := ((re.fut ((f1.trans f2).trans f3))).wipe ow
        refine ⟨it.1[i], drp ow vs, vs1, μ2, G3, r3, k3.ex, re3, hgd, fun σ4 re4 b4 => ⟨wipe_but b4 hsl, vs1, st2, μ2, G3, _, re4, k3, ?_⟩⟩
        have h3 := Done.fut f3 h2
        cases hmt : mt vs1 st2 with
        | bad => rw [hmt] at h3; exact h3
        | exc e st4 => rw [hmt] at h3; exact h3.elim
        | ok z st4 =>
          rw [hmt] at h3
          intro μ4 G4 H4 f4 k4
          have f14 : Fut μ1 G1 μ4 G4 := (f2.trans f3).trans f4
          cases z with
          | bl kk =>
            refine ⟨kk, rfl, ?_⟩
            cases kk with
            | false =>
              rw [if_neg Bool.false_ne_true]
              exact ⟨acc, av, st4, μ4, G4, f14, k4, ra.fut (f3.trans f4), Nat.le_succ_of_le hla, Done.fut f4 h3⟩
            | true =>
              rw [if_pos rfl]
              refine ⟨vs1, st4, μ4, G4, _, re4.fut f4, k4, ?_⟩
              have h4 := Done.fut f4 h3
              cases hme : me vs1 st4 with
              | bad =>
                have h4' : Done X.K X.mg W σ μ4 G4 F (((me vs1 st4).okk fun y st2 => (compGo g mt me (grd it) (drp ow vs) (it.1.drop (i + 1)) st2).okk fun ys st3 => .ok (y :: ys) st3).okk fun ys st => mkNew n (acc ++ ys) st) (Fin X.K Q) := h4
                rw [hme] at h4'
                exact h4'
              | exc e st5 =>
                have h4' : Done X.K X.mg W σ μ4 G4 F (((me vs1 st4).okk fun y st2 => (compGo g mt me (grd it) (drp ow vs) (it.1.drop (i + 1)) st2).okk fun ys st3 => .ok (y :: ys) st3).okk fun ys st => mkNew n (acc ++ ys) st) (Fin X.K Q) := h4
                rw [hme] at h4'
                exact h4'.elim
              | ok y st5 =>
                have h4' : Done X.K X.mg W σ μ4 G4 F (((me vs1 st4).okk fun y st2 => (compGo g mt me (grd it) (drp ow vs) (it.1.drop (i + 1)) st2).okk fun ys st3 => .ok (y :: ys) st3).okk fun ys st => mkNew n (acc ++ ys) st) (Fin X.K Q) := h4
                rw [hme] at h4'
                intro μ5 G5 H5 f5 k5 yv ry
                refine ⟨av, k5.gat, ?_, acc ++ [y], av ++ [yv], st5, μ5, G5, f14.trans f5, k5.reguard, ((ra.fut (f3.trans f4)).fut f5).append (.cons ry .nil), by simp; omega, ?_⟩
                · rw [ra.length]
                  exact room_lt (Nat.le_trans (by omega) hr)
                · have h5 := Done.fut f5 h4'
                  cases hc : compGo g mt me (grd it) (drp ow vs) (it.1.drop (i + 1)) st5 with
                  | bad =>
                    have h5' : Done X.K X.mg W σ μ5 G5 F (((compGo g mt me (grd it) (drp ow vs) (it.1.drop (i + 1)) st5).okk fun ys st3 => .ok (y :: ys) st3).okk fun ys st => mkNew n (acc ++ ys) st) (Fin X.K Q) := h5
                    rw [hc] at h5'
                    exact h5'
                  | exc e st6 =>
                    have h5' : Done X.K X.mg W σ μ5 G5 F (((compGo g mt me (grd it) (drp ow vs) (it.1.drop (i + 1)) st5).okk fun ys st3 => .ok (y :: ys) st3).okk fun ys st => mkNew n (acc ++ ys) st) (Fin X.K Q) := h5
                    rw [hc] at h5'
                    exact h5'
                  | ok ys st6 =>
                    have h5' : Done X.K X.mg W σ μ5 G5 F (((compGo g mt me (grd it) (drp ow vs) (it.1.drop (i + 1)) st5).okk fun ys st3 => .ok (y :: ys) st3).okk fun ys st => mkNew n (acc ++ ys) st) (Fin X.K Q) := h5
                    rw [hc] at h5'
                    have h6 : Done X.K X.mg W σ μ5 G5 F (mkNew n (acc ++ y :: ys) st6) (Fin X.K Q) := h5'
                    show Done X.K X.mg W σ μ5 G5 F (mkNew n (acc ++ [y] ++ ys) st6) (Fin X.K Q)
                    rw [List.append_assoc]
                    exact h6
          | _ => exact h3.elim
    · rw [if_neg hq] at h2; exact h2.elim
  · have e : i = it.1.length := by omega
    subst e
    rw [List.drop_length] at h2
    unfold compGo at h2
    by_cases hq : grd it st2
    · rw [if_pos hq] at h2
      obtain ⟨hst, _⟩ := hJ μ2 G2 _ st2 H2 f2 k2 hq
      refine .inl ⟨hst, ?_⟩
      have h3 : Done X.K X.mg W σ μ2 G2 F (mkNew n (acc ++ []) st2) (Fin X.K Q) := h2
      rw [List.append_nil] at h3
      cases n with
      | true =>
        refine h3 (μ2 ++ [D]) G2 H2 ⟨⟨[D], rfl⟩, .refl G2⟩ (k2.place fD ⟨av, rfl, ra⟩) _ (.loc ?_)
        rw [← k2.len, List.getElem?_append_right (Nat.le_refl _), Nat.sub_self]
        rfl
      | false =>
        have f : Fut μ2 G2 μ2 (upd G2 D (.lst av)) := .know (.new k2.gfree)
        exact h3 μ2 _ H2 f (k2.release fD) _ (.lst upd_same (ra.fut f))
    · rw [if_neg hq] at h2; exact h2.elim
theorem m_comp (n : Bool) (own : List (Str × Nat)) (hN : X.N.Nodup) (hi : MI X W tg iter im) (ok : BlkOk X.N X.env.scope scope own)
    (hg : ∀ (s : Shared) (H : Hp) (C : Addr) (cl : List (Str × Addr)) (fp : List Addr), MG (X.blk s H scope (compEnvC scope cl C X.env) fp) tg sl g)
    (ht : ∀ (s : Shared) (H : Hp) (C : Addr) (cl : List (Str × Addr)) (fp : List Addr), MTs (X.blk s H scope (compEnvC scope cl C X.env) fp) W0 ifs mt)
    (he : ∀ (s : Shared) (H : Hp) (C : Addr) (cl : List (Str × Addr)) (fp : List Addr), ME (X.blk s H scope (compEnvC scope cl C X.env) fp) W0 elt me)
    (hsl : ∀ j ∈ sl, j ∈ own.map (·.2) := by decide) (hc : X.calm = true := by rfl) (hs : ∀ x, foldedSetIterable iter X.env x = pure x := by intro _; rfl) : ME X W (.ListComp elt [⟨tg, iter, ifs, 0⟩] scope pos) (eComp n im g mt me (own.map (·.2))) :=
  (pe_lc hc hN hi ok hg ht he hs).of (comp_of n hsl)
theorem st_setLc (n : Bool) (i : Nat) {y : Str} {py spos : Pos} (own : List (Str × Nat)) (hN : X.N.Nodup) (hi : MI X W tg iter im) (ok : BlkOk X.N X.env.scope scope own)
    (hg : ∀ (s : Shared) (H : Hp) (C : Addr) (cl : List (Str × Addr)) (fp : List Addr), MG (X.blk s H scope (compEnvC scope cl C X.env) fp) tg sl g)
    (ht : ∀ (s : Shared) (H : Hp) (C : Addr) (cl : List (Str × Addr)) (fp : List Addr), MTs (X.blk s H scope (compEnvC scope cl C X.env) fp) W0 ifs mt)
    (he : ∀ (s : Shared) (H : Hp) (C : Addr) (cl : List (Str × Addr)) (fp : List Addr), ME (X.blk s H scope (compEnvC scope cl C X.env) fp) W0 elt me)
    (hsw : swapsWith (.ListComp elt [⟨tg, iter, ifs, 0⟩] scope pos) (some (.Name y py)) spos.line X.env = pure true)
    (hy : X.N[i]? = some y := by rfl) (hyl : X.env.scope.names.lookup y = some .local := by rfl) (hsl : ∀ j ∈ sl, j ∈ own.map (·.2) := by decide) (hc : X.calm = true := by rfl) (hs : ∀ x, foldedSetIterable iter X.env x = pure x := by intro _; rfl) :
    MS X W (.Assign [.Name y py] (.ListComp elt [⟨tg, iter, ifs, 0⟩] scope pos) spos) (sAsg (gN i) (eComp n im g mt me (own.map (·.2)))) :=
  (ps_setLc hc hN hy hyl hsw hi ok hg ht he hs).of fun D σ H h => by
    obtain ⟨vs, st, μ, G, F, re, k, h⟩ := h
    refine comp_of n hsl σ H _ ⟨vs, st, μ, G, F, re, k, (DoneS.thn re h).mono fun μ1 G1 x st1 H1 f1 k1 h1 v rv => ?_⟩
    exact h1 μ1 G1 H1 _ (.refl _ _) k1 ((re.fut f1).set rv i)
end
end Dn
namespace Dn
open PySem PySem.Spec PyProof.Rows L2

/-! ### a def's end: its own places are left -/
mutual
/-- all places are below n -/
def locsLt (n : Nat) : D → Bool
  | .loc m => decide (m < n)
  | .tup ds => locsLts n ds
  | .lst ds => locsLts n ds
  | .frz ds => locsLts n ds
  | _ => true
def locsLts (n : Nat) : List D → Bool
  | [] => true
  | d :: ds => locsLt n d && locsLts n ds
end
def obLt (n : Nat) : Ob → Bool
  | .lst ds => locsLts n ds
  | .dct kvs => kvs.all fun p => locsLt n p.2
  | .dtt kvs => kvs.all fun p => locsLt n p.2
  | .ins _ fs => fs.all fun p => locsLt n p.2
/-- a value without the places from n0 on: its lists by value -/
def reify (n0 : Nat) (st : Store) : Nat → D → Option D
  | 0, d => if locsLt n0 d then some d else none
  | k + 1, d => if locsLt n0 d then some d else match d with
    | .loc m => match lstAt st m with
      | some ds => (ds.mapM (reify n0 st k)).map .lst
      | none => none
    | .tup ds => (ds.mapM (reify n0 st k)).map .tup
    | .lst ds => (ds.mapM (reify n0 st k)).map .lst
    | .frz _ => none
    | d => some d
def keepOk (st0 st : Store) : Prop := ∀ i, i < st0.length → st[i]? = st0[i]? ∨ ∃ o, st[i]? = some o ∧ ∀ ob, o = some ob → obLt st0.length ob = true
open Classical in
noncomputable def gcRet (st0 : Store) (d : D) (st : Store) : Re D := if keepOk st0 st then (match reify st0.length st 4 d with
  | some d => .ok d (st.take st0.length)
  | none => .bad) else .bad
open Classical in
noncomputable def gcExc (st0 : Store) (e : Exn) (st : Store) : Re D := if keepOk st0 st ∧ (e.fs.all fun p => locsLt st0.length p.2) = true then .exc e (st.take st0.length) else .bad
def vars (n : Nat) (ds : List D) : Vars := ds.map some ++ List.replicate (n - ds.length) none
noncomputable def fnD (n : Nat) (b : SM) : FnD := fun ds st => match b (vars n ds) st with
  | .ret d st' => gcRet st d st'
  | .nx _ st' => gcRet st .non st'
  | .exc e _ st' => gcExc st e st'
  | _ => .bad
/-- .. its places are kept -/
def fnK (n : Nat) (b : SM) : FnD := fun ds st => match b (vars n ds) st with
  | .ret d st' => .ok d st'
  | .nx _ st' => .ok .non st'
  | .exc e _ st' => .exc e st'
  | _ => .bad
section
variable {K : PySem.W.Frag} {mg : Str → Option Value} {μ μ0 : List Addr} {G G' F : Hp} {st : Store} {H : Hp}
mutual
theorem rep_lt : ∀ {d : D} {v : V}, Rep K μ G d v → locsLt μ.length d = true
  | .non, _, _ => rfl
  | .bl _, _, _ => rfl
  | .int _, _, _ => rfl
  | .str _, _, _ => rfl
  | .tup ds, v, h => by
    obtain ⟨_, _, _, _, r⟩ := rep_tup h
    exact reps_lt r
  | .lst ds, v, h => by
    obtain ⟨_, _, _, _, r⟩ := rep_lst h
    exact reps_lt r
  | .frz ds, v, h => by
    obtain ⟨_, _, _, _, r⟩ := rep_frz h
    exact reps_lt r
  | .loc n, v, h => by
    obtain ⟨a, _, e⟩ := rep_loc h
    exact decide_eq_true (List.getElem?_eq_some_iff.mp e).1
theorem reps_lt : ∀ {ds : List D} {vs : List V}, Reps K μ G ds vs → locsLts μ.length ds = true
  | [], _, _ => rfl
  | d :: ds, vs, h => by
    obtain ⟨v, r, _, h1, h2⟩ := reps_cons h
    have e1 := rep_lt h1
    have e2 := reps_lt h2
    show (locsLt μ.length d && locsLts μ.length ds) = true
    rw [e1, e2]
    rfl
end
mutual
theorem rep_cut (l : List Addr) : ∀ {d : D} {v : V}, locsLt μ0.length d = true → Rep K (μ0 ++ l) G d v → Rep K μ0 G d v
  | .non, _, _, h => by rw [rep_non h]; exact .non
  | .bl _, _, _, h => by rw [rep_bl h]; exact .bl
  | .int _, _, _, h => by rw [rep_int h]; exact .int
  | .str _, _, _, h => by rw [rep_str h]; exact .str
  | .tup ds, v, e, h => by
    obtain ⟨_, _, rfl, s, r⟩ := rep_tup h
    exact .tup s (reps_cut l e r)
  | .lst ds, v, e, h => by
    obtain ⟨_, _, rfl, s, r⟩ := rep_lst h
    exact .lst s (reps_cut l e r)
  | .frz ds, v, e, h => by
    obtain ⟨_, _, rfl, s, r⟩ := rep_frz h
    exact .frz s (reps_cut l e r)
  | .loc n, v, e, h => by
    obtain ⟨a, rfl, s⟩ := rep_loc h
    have hn : n < μ0.length := of_decide_eq_true e
    rw [List.getElem?_append_left hn] at s
    exact .loc s
theorem reps_cut (l : List Addr) : ∀ {ds : List D} {vs : List V}, locsLts μ0.length ds = true → Reps K (μ0 ++ l) G ds vs → Reps K μ0 G ds vs
  | [], vs, _, h => by rw [reps_nil h]; exact .nil
  | d :: ds, vs, e, h => by
    obtain ⟨v, r, rfl, h1, h2⟩ := reps_cons h
    have e' : (locsLt μ0.length d && locsLts μ0.length ds) = true := e
    rw [Bool.and_eq_true] at e'
    exact .cons (rep_cut l e'.1 h1) (reps_cut l e'.2 h2)
end
theorem repKV_lt {κ : Type} : ∀ {kvs : List (κ × D)} {ps : List (κ × V)}, RepKV K μ G kvs ps → (kvs.all fun p => locsLt μ.length p.2) = true
  | [], _, _ => rfl
  | (k, d) :: r, ps, h => by
    obtain ⟨v, s, _, hv, t⟩ := h
    rw [List.all_cons, rep_lt hv, repKV_lt t]
    rfl
theorem repKV_cut {κ : Type} (l : List Addr) : ∀ {kvs : List (κ × D)} {ps : List (κ × V)}, (kvs.all fun p => locsLt μ0.length p.2) = true → RepKV K (μ0 ++ l) G kvs ps → RepKV K μ0 G kvs ps
  | [], _, _, h => h
  | (k, d) :: r, ps, e, h => by
    obtain ⟨v, s, e1, hv, t⟩ := h
    rw [List.all_cons, Bool.and_eq_true] at e
    exact ⟨v, s, e1, rep_cut l e.1 hv, repKV_cut l e.2 t⟩
theorem repF_lt : ∀ {kvs : List (Str × D)} {ps : List (Str × V)}, RepF K μ G kvs ps → (kvs.all fun p => locsLt μ.length p.2) = true
  | [], _, _ => rfl
  | (k, d) :: r, ps, h => by
    obtain ⟨v, s, _, hv, t⟩ := h
    rw [List.all_cons, rep_lt hv, repF_lt t]
    rfl
theorem repF_cut (l : List Addr) : ∀ {kvs : List (Str × D)} {ps : List (Str × V)}, (kvs.all fun p => locsLt μ0.length p.2) = true → RepF K (μ0 ++ l) G kvs ps → RepF K μ0 G kvs ps
  | [], _, _, h => h
  | (k, d) :: r, ps, e, h => by
    obtain ⟨v, s, e1, hv, t⟩ := h
    rw [List.all_cons, Bool.and_eq_true] at e
    exact ⟨v, s, e1, rep_cut l e.1 hv, repF_cut l e.2 t⟩
theorem repO_lt {ob : Ob} {o : HO} (h : RepO K mg μ G ob o) : obLt μ.length ob = true := by
  cases ob with
  | lst ds => obtain ⟨vs, _, r⟩ := h; exact reps_lt r
  | dct kvs => obtain ⟨vs, _, r⟩ := h; exact repKV_lt r
  | dtt kvs => obtain ⟨vs, _, r⟩ := h; exact repKV_lt r
  | ins c fs => obtain ⟨C, dx, gs, _, _, r⟩ := h; exact repF_lt r
theorem repO_cut (l : List Addr) {ob : Ob} {o : HO} (e : obLt μ0.length ob = true) (h : RepO K mg (μ0 ++ l) G ob o) : RepO K mg μ0 G ob o := by
  cases ob with
  | lst ds => obtain ⟨vs, e1, r⟩ := h; exact ⟨vs, e1, reps_cut l e r⟩
  | dct kvs => obtain ⟨vs, e1, r⟩ := h; exact ⟨vs, e1, repKV_cut l e r⟩
  | dtt kvs => obtain ⟨vs, e1, r⟩ := h; exact ⟨vs, e1, repKV_cut l e r⟩
  | ins c fs => obtain ⟨C, dx, gs, e1, e2, r⟩ := h; exact ⟨C, dx, gs, e1, e2, repF_cut l e r⟩
/-- the places from n0 on are left -/
theorem Kn.cut {l : List Addr} {st0 : Store} {G0 H0 : Hp} (k0 : Kn K mg μ0 G0 F st0 H0) (k : Kn K mg (μ0 ++ l) G F st H) (ok : keepOk st0 st) : Kn K mg μ0 G F (st.take st0.length) H := by
  have hl : st0.length ≤ st.length := by rw [← k.len, List.length_append, k0.len]; omega
  refine ⟨k.ex, k.fr, k.sep, by rw [List.length_take, k0.len]; omega, (List.nodup_append.mp k.inj).1, fun n ob e => ?_, fun a ha => k.there a (List.mem_append_left _ ha), fun a ha => k.out a (List.mem_append_left _ ha)⟩
  have hn : n < st0.length := by
    have := (List.getElem?_eq_some_iff.mp e).1
    rw [List.length_take] at this
    omega
  rw [List.getElem?_take_of_lt hn] at e
  obtain ⟨a, o, h1, h2, h3, h4, h5⟩ := k.cell n ob e
  rw [List.getElem?_append_left (by rw [k0.len]; exact hn)] at h1
  refine ⟨a, o, h1, h2, h3, h4, repO_cut l ?_ h5⟩
  rcases ok n hn with z | ⟨o', z1, z2⟩
  · rw [e] at z
    obtain ⟨_, _, _, _, _, _, g5⟩ := k0.cell n ob z.symm
    exact repO_lt g5
  · rw [e] at z1
    injection z1 with z1
    rw [k0.len]
    exact z2 ob z1.symm
/-- the lists at places that are left are known for ever -/
theorem reify_rep {n0 : Nat} {st : Store} {l : List Addr} {H : Hp} (hμ : μ0.length = n0) (cl : ∀ (n : Nat) (ds : List D), n0 ≤ n → lstAt st n = some ds → ∃ a vs, (μ0 ++ l)[n]? = some a ∧ G a = some (.lst vs) ∧ Reps K (μ0 ++ l) G ds vs) :
    ∀ (k : Nat) (d d' : D) (v : V), reify n0 st k d = some d' → Rep K (μ0 ++ l) G d v → Rep K μ0 G d' v := by
  have all : ∀ (f : D → Option D), (∀ (d d' : D) (v : V), f d = some d' → Rep K (μ0 ++ l) G d v → Rep K μ0 G d' v) → ∀ (ds ds' : List D) (vs : List V), ds.mapM f = some ds' → Reps K (μ0 ++ l) G ds vs → Reps K μ0 G ds' vs := by
    intro f ih ds
    induction ds with
    | nil =>
      intro ds' vs e r
      have : ds' = [] := by simpa using e.symm
      rw [this, reps_nil r]
      exact .nil
    | cons d ds ih2 =>
      intro ds' vs e r
      obtain ⟨v, t, rfl, hv, ht⟩ := reps_cons r
      rw [List.mapM_cons] at e
      cases e1 : f d with
      | none => rw [e1] at e; cases e
      | some d' =>
        rw [e1] at e
        cases e2 : ds.mapM f with
        | none => rw [e2] at e; cases e
        | some ds2 =>
          rw [e2] at e
          injection e with e
          subst e
          exact .cons (ih d d' v e1 hv) (ih2 ds2 t e2 ht)
  intro k
  induction k with
  | zero =>
    intro d d' v e r
    unfold reify at e
    split at e
    · rename_i hc
      injection e with e
      subst e
      exact rep_cut l (by rw [hμ]; exact hc) r
    · cases e
  | succ k ih =>
    intro d d' v e r
    unfold reify at e
    split at e
    · rename_i hc
      injection e with e
      subst e
      exact rep_cut l (by rw [hμ]; exact hc) r
    · rename_i hc
      cases d with
      | loc m =>
        cases hm : lstAt st m with
        | none => simp only [hm] at e; cases e
        | some ds =>
          simp only [hm] at e
          have hge : n0 ≤ m := by
            have : ¬ (decide (m < n0) = true) := hc
            simp at this
            exact this
          obtain ⟨a, vs, h1, h2, h3⟩ := cl m ds hge hm
          obtain ⟨a', rfl, h1'⟩ := rep_loc r
          rw [h1] at h1'
          cases h1'
          cases hq : ds.mapM (reify n0 st k) with
          | none => rw [hq] at e; cases e
          | some ds' =>
            rw [hq] at e
            injection e with e
            subst e
            exact .lst h2 (all _ ih ds ds' vs hq h3)
      | tup ds =>
        obtain ⟨a, vs, rfl, s, rs⟩ := rep_tup r
        have e' : (ds.mapM (reify n0 st k)).map D.tup = some d' := e
        cases hq : ds.mapM (reify n0 st k) with
        | none => rw [hq] at e'; cases e'
        | some ds' =>
          rw [hq] at e'
          injection e' with e'
          subst e'
          exact .tup s (all _ ih ds ds' vs hq rs)
      | lst ds =>
        obtain ⟨a, vs, rfl, s, rs⟩ := rep_lst r
        have e' : (ds.mapM (reify n0 st k)).map D.lst = some d' := e
        cases hq : ds.mapM (reify n0 st k) with
        | none => rw [hq] at e'; cases e'
        | some ds' =>
          rw [hq] at e'
          injection e' with e'
          subst e'
          exact .lst s (all _ ih ds ds' vs hq rs)
      | frz ds => cases e
      | non => exact absurd rfl hc
      | bl _ => exact absurd rfl hc
      | int _ => exact absurd rfl hc
      | str _ => exact absurd rfl hc
end
open Classical in
/-- what is known, and the lists at the places from n0 on -/
noncomputable def knowL (G : Hp) (μ : List Addr) (st : Store) (n0 : Nat) (H : Hp) : Hp := fun a => match G a with
  | some o => some o
  | none => if ∃ (n : Nat) (ds : List D), n0 ≤ n ∧ μ[n]? = some a ∧ lstAt st n = some ds then H a else none
section
variable {K : PySem.W.Frag} {mg : Str → Option Value} {μ μ0 : List Addr} {G G0 F : Hp} {st st0 : Store} {H H0 : Hp}
theorem knowL_ex {n0 : Nat} : Ex G (knowL G μ st n0 H) := fun a o e => by
  unfold knowL
  rw [e]
theorem knowL_some {n0 : Nat} {a : Addr} {o : HO} (k : Kn K mg μ G F st H) (e : knowL G μ st n0 H a = some o) : H a = some o ∧ (G a = some o ∨ ∃ n, n0 ≤ n ∧ μ[n]? = some a) := by
  unfold knowL at e
  cases g : G a with
  | some u =>
    rw [g] at e
    have e' : u = o := by simpa using e
    subst e'
    exact ⟨k.ex a _ g, .inl rfl⟩
  | none =>
    simp only [g] at e
    by_cases hc : ∃ (n : Nat) (ds : List D), n0 ≤ n ∧ μ[n]? = some a ∧ lstAt st n = some ds
    · have e' : H a = some o := by rw [if_pos hc] at e; exact e
      obtain ⟨n, ds, h1, h2, _⟩ := hc
      exact ⟨e', .inr ⟨n, h1, h2⟩⟩
    · have e' : (none : Option HO) = some o := by rw [if_neg hc] at e; exact e
      cases e'
theorem Kn.left {l : List Addr} (k0 : Kn K mg μ0 G0 F st0 H0) (k : Kn K mg (μ0 ++ l) G F st H) (ok : keepOk st0 st) : Kn K mg μ0 (knowL G (μ0 ++ l) st st0.length H) F (st.take st0.length) H := by
  have c := k0.cut k ok
  have f : Fut μ0 G μ0 (knowL G (μ0 ++ l) st st0.length H) := .know knowL_ex
  refine ⟨fun a o e => (knowL_some k e).1, c.fr, fun a o e => ?_, c.len, c.inj, fun n ob e => ?_, c.there, c.out⟩
  · cases q : knowL G (μ0 ++ l) st st0.length H a with
    | none => rfl
    | some u =>
      rcases (knowL_some k q).2 with z | ⟨n, _, z⟩
      · rw [k.sep a o e] at z
        cases z
      · have := k.out a (List.mem_of_getElem? z)
        rw [e] at this
        cases this
  · obtain ⟨a, o, h1, h2, h3, h4, h5⟩ := c.cell n ob e
    refine ⟨a, o, h1, ?_, h3, h4, h5.fut f⟩
    cases q : knowL G (μ0 ++ l) st st0.length H a with
    | none => rfl
    | some u =>
      rcases (knowL_some k q).2 with z | ⟨m, hm, z⟩
      · rw [h2] at z
        cases z
      · have hn : n < μ0.length := (List.getElem?_eq_some_iff.mp h1).1
        have h1' : (μ0 ++ l)[n]? = some a := by rw [List.getElem?_append_left hn]; exact h1
        have e2 := L2.nd_ix k.inj h1' z
        rw [k0.len] at hn
        omega
theorem gc_done {W : WX} {σ : L2.St} {μ1 : List Addr} {G1 : Hp} {st1 : Store} {H1 : Hp} {d : D} {v : V} {Q : VK} (k0 : Kn K mg μ0 G0 F st0 H0) (f : Fut μ0 G0 μ1 G1) (k1 : Kn K mg μ1 G1 F st1 H1) (r : Rep K μ1 G1 d v)
    (h : Done K mg W σ μ0 G0 F (gcRet st0 d st1) (Fin K Q)) : Q v H1 := by
  obtain ⟨⟨l, rfl⟩, ex⟩ := f
  unfold gcRet at h
  by_cases ok : keepOk st0 st1
  · rw [if_pos ok] at h
    cases hq : reify st0.length st1 4 d with
    | none => rw [hq] at h; exact h.elim
    | some d' =>
      rw [hq] at h
      have kl := k0.left k1 ok
      have ex1 : Ex G1 (knowL G1 (μ0 ++ l) st1 st0.length H1) := knowL_ex
      refine h μ0 _ H1 (.know (ex.trans ex1)) kl v ?_
      refine reify_rep (l := l) (H := H1) k0.len (fun n ds hn hl => ?_) 4 d d' v hq (r.fut (.know ex1))
      obtain ⟨a, o, h1, h2, h3, h4, vs, rfl, h5⟩ := k1.cell n _ (cell_some (lstAt_cell hl))
      refine ⟨a, vs, h1, ?_, h5.fut (.know ex1)⟩
      unfold knowL
      rw [h2]
      have hc : ∃ (n : Nat) (ds : List D), st0.length ≤ n ∧ (μ0 ++ l)[n]? = some a ∧ lstAt st1 n = some ds := ⟨n, ds, hn, h1, hl⟩
      simp only [hc, if_true]
      exact h4
  · rw [if_neg ok] at h
    exact h.elim
theorem repX_cut {l : List Addr} {e : Exn} {cls : Value} {dd : Option Addr} (hl : (e.fs.all fun p => locsLt μ0.length p.2) = true) (h : RepX K mg (μ0 ++ l) G e cls dd) : RepX K mg μ0 G e cls dd := by
  obtain ⟨C, e1, e2, h⟩ := h
  refine ⟨C, e1, e2, ?_⟩
  cases dd with
  | none => exact h
  | some d =>
    obtain ⟨gs, g, r⟩ := h
    exact ⟨gs, g, repF_cut l hl r⟩
theorem gc_exc {W : WX} {σ : L2.St} {μ1 : List Addr} {G1 : Hp} {st1 : Store} {H1 : Hp} {e : Exn} {cls : Value} {dd : Option Addr} {P : List Addr → Hp → D → Store → Hp → Prop} (k0 : Kn K mg μ0 G0 F st0 H0) (f : Fut μ0 G0 μ1 G1) (k1 : Kn K mg μ1 G1 F st1 H1) (r : RepX K mg μ1 G1 e cls dd)
    (h : Done K mg W σ μ0 G0 F (gcExc st0 e st1) P) : W cls dd σ H1 := by
  obtain ⟨⟨l, rfl⟩, ex⟩ := f
  unfold gcExc at h
  by_cases ok : keepOk st0 st1 ∧ (e.fs.all fun p => locsLt st0.length p.2) = true
  · rw [if_pos ok] at h
    exact h μ0 G1 H1 cls dd (.know ex) (k0.cut k1 ok.1) (repX_cut (by rw [k0.len]; exact ok.2) r)
  · rw [if_neg ok] at h
    exact h.elim
theorem repE_start {N : List Str} {ds : List D} {vs : List V} (r : Reps K μ G ds vs) : RepE K μ G (vars N.length ds) (start N vs) := by
  have hl := r.length
  refine ⟨by simp [vars, L2.start, hl], fun i d e => ?_⟩
  unfold vars at e
  by_cases hi : i < ds.length
  · rw [List.getElem?_append_left (by simpa using hi), List.getElem?_map] at e
    cases hd : ds[i]? with
    | none => rw [hd] at e; cases e
    | some d' =>
      rw [hd] at e
      have : d' = d := by simpa using e
      subst this
      obtain ⟨v, hv, rv⟩ := r.get hd
      refine ⟨v, ?_, rv⟩
      unfold L2.start
      rw [List.getElem?_append_left (by rw [List.length_map, hl]; exact hi), List.getElem?_map, hv]
      rfl
  · rw [List.getElem?_append_right (by simpa using hi), List.getElem?_replicate] at e
    split at e <;> cases e
section
variable {P : Program} {w : World} {base : Heap} {x qual : Str} {s : Stmt} {fa : Addr} {fd : FuncData} {N ps : List Str} {k : Nat} {mb : SM}
theorem fn_D (Fk : Fun K x qual s fa fd) (S : FnScope N ps (defScope s))
    (hbody : ∀ (cdv : Value) (A : Around) (outer : List Env) (s' : Shared) (H : Hp) (E : XK), Room k (A.deeper (envOfC qual (defScope s) s'.heap.objs.size fa cdv)) →
      MSs (cxOf (L2.CX P w) P w K mg base N qual (defScope s) fa cdv A outer s' H E) (fun cls d _ H => E cls d H) (defBody s) mb) : FnM P w K mg base (k + 1) fa fd ps (fnD N.length mb) := by
  refine Fk.okX S (fun vs H Q E h => h.1) fun cdv A outer s' H vs Q E hr h => ⟨_, hbody cdv A outer s' H E hr, ?_⟩
  obtain ⟨_, ds, st, μ, G, F, rs, k0, h⟩ := h
  refine ⟨vars N.length ds, st, μ, G, F, repE_start rs, k0, ?_⟩
  unfold fnD at h
  cases hb : mb (vars N.length ds) st with
  | bad => rw [hb] at h; exact h
  | brk _ _ => rw [hb] at h; exact h.elim
  | ct _ _ => rw [hb] at h; exact h.elim
  | ret d st1 =>
    rw [hb] at h
    exact fun μ1 G1 H1 v f1 k1 r1 => gc_done k0 f1 k1 r1 h
  | nx vs1 st1 =>
    rw [hb] at h
    exact fun μ1 G1 H1 σ1 f1 k1 r1 => gc_done k0 f1 k1 .non h
  | exc e vs1 st1 =>
    rw [hb] at h
    exact fun μ1 G1 H1 σ1 cls dd f1 k1 r1 x1 => gc_exc k0 f1 k1 x1 h
theorem fn_K (Fk : Fun K x qual s fa fd) (S : FnScope N ps (defScope s))
    (hbody : ∀ (cdv : Value) (A : Around) (outer : List Env) (s' : Shared) (H : Hp) (E : XK), Room k (A.deeper (envOfC qual (defScope s) s'.heap.objs.size fa cdv)) →
      MSs (cxOf (L2.CX P w) P w K mg base N qual (defScope s) fa cdv A outer s' H E) (fun cls d _ H => E cls d H) (defBody s) mb) : FnM P w K mg base (k + 1) fa fd ps (fnK N.length mb) := by
  refine Fk.okX S (fun vs H Q E h => h.1) fun cdv A outer s' H vs Q E hr h => ⟨_, hbody cdv A outer s' H E hr, ?_⟩
  obtain ⟨_, ds, st, μ, G, F, rs, k0, h⟩ := h
  refine ⟨vars N.length ds, st, μ, G, F, repE_start rs, k0, ?_⟩
  unfold fnK at h
  cases hb : mb (vars N.length ds) st with
  | bad => rw [hb] at h; exact h
  | brk _ _ => rw [hb] at h; exact h.elim
  | ct _ _ => rw [hb] at h; exact h.elim
  | ret d st1 =>
    rw [hb] at h
    exact fun μ1 G1 H1 v f1 k1 r1 => h μ1 G1 H1 f1 k1 v r1
  | nx vs1 st1 =>
    rw [hb] at h
    exact fun μ1 G1 H1 σ1 f1 k1 r1 => h μ1 G1 H1 f1 k1 .non .non
  | exc e vs1 st1 =>
    rw [hb] at h
    exact fun μ1 G1 H1 σ1 cls dd f1 k1 r1 x1 => h μ1 G1 H1 cls dd f1 k1 x1
end
end
end Dn
namespace Dn
open PySem PySem.Spec PyProof.Rows L2

/-! ### built-in functions on data -/
def opt {α : Type} (o : Option α) (k : α → Re D) : Re D := match o with
  | some a => k a
  | none => .bad
def one (f : D → Store → Re D) (xs : List D) (st : Store) : Re D := match xs with
  | [x] => f x st
  | _ => .bad
def two (f : D → D → Store → Re D) (xs : List D) (st : Store) : Re D := match xs with
  | [x, y] => f x y st
  | _ => .bad
def lenB (st : Store) : D → Option Nat
  | .str z => if room z.length then some z.length else none
  | .tup ds => some ds.length
  | .lst ds => some ds.length
  | .frz ds => some ds.length
  | .loc n => match cell st n with
    | some (.lst ds) => some ds.length
    | some (.dct kvs) => some kvs.length
    | _ => none
  | _ => none
def lenD : List D → Store → Re D := one fun x st => opt (lenB st x) fun n => .ok (.int n) st
def tupleD : List D → Store → Re D := one fun x st => opt (seqOf st x) fun ds => .ok (.tup ds) st
def listD (b : Bool) : List D → Store → Re D := one fun x st => opt (seqOf st x) fun ds => mkNew b ds st
def absD : List D → Store → Re D := one fun x st => match x with
  | .int i => .ok (.int (if i < 0 then -i else i)) st
  | _ => .bad
def intD : List D → Store → Re D := one fun x st => match x with
  | .int i => .ok (.int i) st
  | .bl k => .ok (.int (if k then 1 else 0)) st
  | _ => .bad
def strD : List D → Store → Re D := one fun x st => match x with
  | .int i => if i.natAbs.log2 < 1920 then .ok (.str (toString i)) st else .bad
  | _ => .bad
/-- data that are ints -/
def intsOf : List D → Option (List Int)
  | [] => some []
  | .int i :: r => (intsOf r).map (i :: ·)
  | _ :: _ => none
def blsOf : List D → Option (List Bool)
  | [] => some []
  | .bl i :: r => (blsOf r).map (i :: ·)
  | _ :: _ => none
def maxI : List Int → Int
  | [] => 0
  | [i] => i
  | i :: r => max i (maxI r)
def minI : List Int → Int
  | [] => 0
  | [i] => i
  | i :: r => min i (minI r)
def max2 (x y : D) (st : Store) : Re D := match x, y with
  | .int i, .int j => .ok (.int (if j > i then j else i)) st
  | _, _ => .bad
def max1 (x : D) (st : Store) : Re D := opt ((lstOf st x).bind intsOf) fun ns => if ns.isEmpty then .bad else .ok (.int (maxI ns)) st
def maxD (xs : List D) (st : Store) : Re D := match xs with
  | [x, y] => max2 x y st
  | [x] => max1 x st
  | _ => .bad
def min2 (x y : D) (st : Store) : Re D := match x, y with
  | .int i, .int j => .ok (.int (if j < i then j else i)) st
  | _, _ => .bad
def min1 (x : D) (st : Store) : Re D := opt ((lstOf st x).bind intsOf) fun ns => if ns.isEmpty then .bad else .ok (.int (minI ns)) st
def minD (xs : List D) (st : Store) : Re D := match xs with
  | [x, y] => min2 x y st
  | [x] => min1 x st
  | _ => .bad
def sumD : List D → Store → Re D := one fun x st => opt ((lstOf st x).bind intsOf) fun ns => .ok (.int ns.sum) st
def allD : List D → Store → Re D := one fun x st => opt ((lstOf st x).bind blsOf) fun bs => .ok (.bl (bs.all id)) st
def anyD : List D → Store → Re D := one fun x st => opt ((lstOf st x).bind blsOf) fun bs => .ok (.bl (bs.any id)) st
theorem intsOf_map : ∀ {ds : List D} {ns : List Int}, intsOf ds = some ns → ds = ns.map D.int
  | [], ns, h => by injection h with h; subst h; rfl
  | d :: ds, ns, h => by
    cases d with
    | int i =>
      have h' : (intsOf ds).map (i :: ·) = some ns := h
      cases e : intsOf ds with
      | none => rw [e] at h'; cases h'
      | some r =>
        rw [e] at h'
        injection h' with h'
        subst h'
        rw [intsOf_map e]
        rfl
    | _ => cases h
theorem blsOf_map : ∀ {ds : List D} {ns : List Bool}, blsOf ds = some ns → ds = ns.map D.bl
  | [], ns, h => by injection h with h; subst h; rfl
  | d :: ds, ns, h => by
    cases d with
    | bl i =>
      have h' : (blsOf ds).map (i :: ·) = some ns := h
      cases e : blsOf ds with
      | none => rw [e] at h'; cases h'
      | some r =>
        rw [e] at h'
        injection h' with h'
        subst h'
        rw [blsOf_map e]
        rfl
    | _ => cases h
theorem maxI_is : ∀ {i : Int} {r : List Int}, maxI (i :: r) ∈ i :: r ∧ ∀ y ∈ i :: r, y ≤ maxI (i :: r)
  | i, [] => ⟨by simp [maxI], by simp [maxI]⟩
  | i, j :: r => by
    obtain ⟨h1, h2⟩ := maxI_is (i := j) (r := r)
    have e : maxI (i :: j :: r) = max i (maxI (j :: r)) := rfl
    rw [e]
    refine ⟨?_, fun y hy => ?_⟩
    · rcases Int.le_total i (maxI (j :: r)) with h | h
      · rw [Int.max_eq_right h]; exact List.mem_cons_of_mem _ h1
      · rw [Int.max_eq_left h]; exact List.mem_cons_self
    · rcases List.mem_cons.mp hy with z | z
      · rw [z]; exact Int.le_max_left _ _
      · exact Int.le_trans (h2 y z) (Int.le_max_right _ _)
theorem minI_is : ∀ {i : Int} {r : List Int}, minI (i :: r) ∈ i :: r ∧ ∀ y ∈ i :: r, minI (i :: r) ≤ y
  | i, [] => ⟨by simp [minI], by simp [minI]⟩
  | i, j :: r => by
    obtain ⟨h1, h2⟩ := minI_is (i := j) (r := r)
    have e : minI (i :: j :: r) = min i (minI (j :: r)) := rfl
    rw [e]
    refine ⟨?_, fun y hy => ?_⟩
    · rcases Int.le_total i (minI (j :: r)) with h | h
      · rw [Int.min_eq_left h]; exact List.mem_cons_self
      · rw [Int.min_eq_right h]; exact List.mem_cons_of_mem _ h1
    · rcases List.mem_cons.mp hy with z | z
      · rw [z]; exact Int.min_le_left _ _
      · exact Int.le_trans (Int.min_le_right _ _) (h2 y z)
section
variable {X : Cx} {K : PySem.W.Frag} {mg : Str → Option Value}
abbrev rLenA (K : PySem.W.Frag) : List V → Hp → VK → Prop := fun xs H Q => (∃ p ys, xs = [.ref p] ∧ (SqL K H p ys ∨ SqT K H p ys) ∧ Q (.int ys.length) H) ∨ ((∃ z, xs = [.str z] ∧ z.length ≤ sizeLine ∧ Q (.int z.length) H) ∨ (∃ a kvs, xs = [V.ref a] ∧ H a = some (.dK kvs) ∧ Q (.int kvs.length) H))
theorem or_len : CallR X (.builtin "len") (rLenA X.K) := call_len_seq.or (call_len_str.or call_lenD)
theorem repKV_length {μ : List Addr} {G : Hp} {κ : Type} : ∀ {kvs : List (κ × D)} {ps : List (κ × V)}, RepKV K μ G kvs ps → ps.length = kvs.length
  | [], ps, h => by
    have : ps = [] := h
    rw [this]
    rfl
  | (k, d) :: r, ps, h => by
    obtain ⟨v, s, rfl, _, t⟩ := h
    rw [List.length_cons, List.length_cons, repKV_length t]
theorem dct_rep {μ : List Addr} {G F : Hp} {st : Store} {H : Hp} {n : Nat} {v : V} {kvs : List (Key × D)} (k : Kn K mg μ G F st H) (r : Rep K μ G (.loc n) v) (e : cell st n = some (.dct kvs)) : ∃ a ps, v = .ref a ∧ μ[n]? = some a ∧ H a = some (.dK ps) ∧ RepKV K μ G kvs ps := by
  obtain ⟨a, rfl, ha⟩ := rep_loc r
  obtain ⟨a', o, h1, _, _, h4, ps, rfl, q⟩ := k.cell n _ (cell_some e)
  rw [ha] at h1
  cases h1
  exact ⟨a, ps, rfl, ha, h4, q⟩
theorem opt_done {α : Type} {o : Option α} {k : α → Re D} {W : WX} {σ : L2.St} {μ : List Addr} {G F : Hp} {P : List Addr → Hp → D → Store → Hp → Prop} (h : Done K mg W σ μ G F (opt o k) P) : ∃ a, o = some a ∧ Done K mg W σ μ G F (k a) P := by
  cases o with
  | none => exact h.elim
  | some a => exact ⟨a, rfl, h⟩
theorem sn_one {f : D → Store → Re D} {r : List V → Hp → VK → Prop} (hf : ∀ (W : WX) (σ : L2.St) (μ : List Addr) (G F : Hp) (st : Store) (H : Hp) (x : D) (v : V) (Q : VK), Kn K mg μ G F st H → Rep K μ G x v → Done K mg W σ μ G F (f x st) (Fin K Q) → r [v] H Q) : SN K mg (one f) r := by
  intro W σ μ G F st H xs vs Q k rs h
  match xs, rs, h with
  | [x], rs, h =>
    obtain ⟨v, rfl, rv⟩ := reps_one rs
    exact hf W σ μ G F st H x v Q k rv h
  | [], _, h => exact h.elim
  | _ :: _ :: _, _, h => exact h.elim
theorem sn_two {f : D → D → Store → Re D} {r : List V → Hp → VK → Prop} (hf : ∀ (W : WX) (σ : L2.St) (μ : List Addr) (G F : Hp) (st : Store) (H : Hp) (x y : D) (v w : V) (Q : VK), Kn K mg μ G F st H → Rep K μ G x v → Rep K μ G y w → Done K mg W σ μ G F (f x y st) (Fin K Q) → r [v, w] H Q) : SN K mg (two f) r := by
  intro W σ μ G F st H xs vs Q k rs h
  match xs, rs, h with
  | [x, y], rs, h =>
    obtain ⟨v, w, rfl, rv, rw'⟩ := reps_two rs
    exact hf W σ μ G F st H x y v w Q k rv rw' h
  | [], _, h => exact h.elim
  | [_], _, h => exact h.elim
  | _ :: _ :: _ :: _, _, h => exact h.elim
theorem s_len : SN K mg lenD (rLenA K) := sn_one fun W σ μ G F st H x v Q k rv h => by
  obtain ⟨n, e, h⟩ := opt_done h
  cases x with
  | str z =>
    rw [rep_str rv]
    simp only [lenB] at e
    split at e
    · rename_i hr
      injection e with e
      subst e
      exact .inr (.inl ⟨z, rfl, room_line hr, fin_here k h .int⟩)
    · cases e
  | tup ds =>
    obtain ⟨a, ws, rfl, hs, rw'⟩ := rep_tup rv
    injection e with e
    subst e
    refine .inl ⟨a, ws, rfl, .inr (k.ex.sqt hs), ?_⟩
    rw [rw'.length]
    exact fin_here k h .int
  | lst ds =>
    obtain ⟨a, ws, rfl, hs, rw'⟩ := rep_lst rv
    injection e with e
    subst e
    refine .inl ⟨a, ws, rfl, .inl (.of (k.ex _ _ hs)), ?_⟩
    rw [rw'.length]
    exact fin_here k h .int
  | frz ds =>
    obtain ⟨a, ws, rfl, hs, rw'⟩ := rep_frz rv
    injection e with e
    subst e
    refine .inl ⟨a, ws, rfl, .inl (k.ex.sql hs), ?_⟩
    rw [rw'.length]
    exact fin_here k h .int
  | loc m =>
    simp only [lenB] at e
    split at e
    · rename_i ds hc
      injection e with e
      subst e
      obtain ⟨a, ws, rfl, hs, rw'⟩ := lstOf_rep (ds := ds) k rv (by show lstAt st m = some ds; unfold lstAt; rw [hc])
      refine .inl ⟨a, ws, rfl, .inl (.of hs), ?_⟩
      rw [rw'.length]
      exact fin_here k h .int
    · rename_i kvs hc
      injection e with e
      subst e
      obtain ⟨a, ps, rfl, _, hs, rp⟩ := dct_rep k rv hc
      refine .inr (.inr ⟨a, ps, rfl, hs, ?_⟩)
      rw [repKV_length rp]
      exact fin_here k h .int
    · cases e
  | non => cases e
  | bl _ => cases e
  | int _ => cases e
abbrev rTupA (K : PySem.W.Frag) : List V → Hp → VK → Prop := fun xs H Q => ∃ p ys, xs = [.ref p] ∧ ((SqL K H p ys ∧ ∀ l, H l = none → Q (.ref l) (upd H l (.tup ys))) ∨ (SqT K H p ys ∧ Q (.ref p) H))
theorem s_tuple : SN K mg tupleD (rTupA K) := sn_one fun W σ μ G F st H x v Q k rv h => by
  obtain ⟨ds, e, h'⟩ := opt_done h
  clear h
  cases x with
  | tup xs =>
    injection e with e
    subst e
    obtain ⟨a, ws, rfl, hs, rw'⟩ := rep_tup rv
    exact ⟨a, ws, rfl, .inr ⟨k.ex.sqt hs, fin_here k h' rv⟩⟩
  | lst xs =>
    obtain ⟨a, ws, rfl, hs, rw'⟩ := lstOf_rep (ds := ds) k rv e
    exact ⟨a, ws, rfl, .inl ⟨.of hs, new_tup k rw' h'⟩⟩
  | frz xs =>
    injection e with e
    subst e
    obtain ⟨a, ws, rfl, hs, rw'⟩ := rep_frz rv
    exact ⟨a, ws, rfl, .inl ⟨k.ex.sql hs, new_tup k rw' h'⟩⟩
  | loc n =>
    obtain ⟨a, ws, rfl, hs, rw'⟩ := lstOf_rep (ds := ds) k rv e
    exact ⟨a, ws, rfl, .inl ⟨.of hs, new_tup k rw' h'⟩⟩
  | non => cases e
  | bl _ => cases e
  | int _ => cases e
  | str _ => cases e
abbrev rListA (K : PySem.W.Frag) : List V → Hp → VK → Prop := fun xs H Q => ∃ p ys, xs = [.ref p] ∧ (SqL K H p ys ∨ SqT K H p ys) ∧ ∀ l, H l = none → Q (.ref l) (upd H l (.lst ys))
theorem s_list (b : Bool) : SN K mg (listD b) (rListA K) := sn_one fun W σ μ G F st H x v Q k rv h => by
  obtain ⟨ds, e, h⟩ := opt_done h
  obtain ⟨a, ws, rfl, hs, rw'⟩ := seqOf_rep k rv e
  exact ⟨a, ws, rfl, hs, new_list k rw' h⟩
theorem s_abs : SN K mg absD (fun xs H Q => ∃ i, xs = [.int i] ∧ Q (.int (if i < 0 then -i else i)) H) := sn_one fun W σ μ G F st H x v Q k rv h => by
  cases x with
  | int i => rw [rep_int rv]; exact ⟨i, rfl, fin_here k h .int⟩
  | _ => exact h.elim
theorem s_intF : SN K mg intD (fun xs H Q => (∃ i, xs = [.int i] ∧ Q (.int i) H) ∨ ∃ k, xs = [.bl k] ∧ Q (.int (if k then 1 else 0)) H) := sn_one fun W σ μ G F st H x v Q k rv h => by
  cases x with
  | int i => rw [rep_int rv]; exact .inl ⟨i, rfl, fin_here k h .int⟩
  | bl i => rw [rep_bl rv]; exact .inr ⟨i, rfl, fin_here k h .int⟩
  | _ => exact h.elim
theorem s_strF : SN K mg strD (fun xs H Q => ∃ i : Int, xs = [.int i] ∧ i.natAbs.log2 < 1920 ∧ Q (.str (toString i)) H) := sn_one fun W σ μ G F st H x v Q k rv h => by
  cases x with
  | int i =>
    obtain ⟨hr, h⟩ := ite_done h
    rw [rep_int rv]
    exact ⟨i, rfl, hr, fin_here k h .str⟩
  | _ => exact h.elim
theorem lst_ints {μ : List Addr} {G F : Hp} {st : Store} {H : Hp} {x : D} {v : V} {ns : List Int} (k : Kn K mg μ G F st H) (rv : Rep K μ G x v) (e : (lstOf st x).bind intsOf = some ns) : ∃ a, v = .ref a ∧ SqL K H a (ns.map V.int) := by
  cases e1 : lstOf st x with
  | none => rw [e1] at e; cases e
  | some ds =>
    rw [e1] at e
    obtain ⟨a, ws, rfl, hs, rs⟩ := lstOf_rep k rv e1
    have e2 := intsOf_map e
    subst e2
    rw [reps_ints rs] at hs
    exact ⟨a, rfl, .of hs⟩
theorem lst_bls {μ : List Addr} {G F : Hp} {st : Store} {H : Hp} {x : D} {v : V} {ns : List Bool} (k : Kn K mg μ G F st H) (rv : Rep K μ G x v) (e : (lstOf st x).bind blsOf = some ns) : ∃ a, v = .ref a ∧ SqL K H a (ns.map V.bl) := by
  cases e1 : lstOf st x with
  | none => rw [e1] at e; cases e
  | some ds =>
    rw [e1] at e
    obtain ⟨a, ws, rfl, hs, rs⟩ := lstOf_rep k rv e1
    have e2 := blsOf_map e
    subst e2
    rw [reps_bls rs] at hs
    exact ⟨a, rfl, .of hs⟩
theorem s_sum : SN K mg sumD (rSum K) := sn_one fun W σ μ G F st H x v Q k rv h => by
  obtain ⟨ns, e, h⟩ := opt_done h
  obtain ⟨a, rfl, hs⟩ := lst_ints k rv e
  exact ⟨a, ns, rfl, hs, fin_here k h .int⟩
theorem s_all : SN K mg allD (rAll K) := sn_one fun W σ μ G F st H x v Q k rv h => by
  obtain ⟨ns, e, h⟩ := opt_done h
  obtain ⟨a, rfl, hs⟩ := lst_bls k rv e
  exact ⟨a, ns, rfl, hs, fin_here k h .bl⟩
theorem s_any : SN K mg anyD (rAny K) := sn_one fun W σ μ G F st H x v Q k rv h => by
  obtain ⟨ns, e, h⟩ := opt_done h
  obtain ⟨a, rfl, hs⟩ := lst_bls k rv e
  exact ⟨a, ns, rfl, hs, fin_here k h .bl⟩
abbrev rMaxA (K : PySem.W.Frag) : List V → Hp → VK → Prop := fun xs H Q => (∃ i j, xs = [.int i, .int j] ∧ Q (.int (if j > i then j else i)) H) ∨ rMax K xs H Q
abbrev rMinA (K : PySem.W.Frag) : List V → Hp → VK → Prop := fun xs H Q => (∃ i j, xs = [.int i, .int j] ∧ Q (.int (if j < i then j else i)) H) ∨ rMin K xs H Q
theorem or_max (hc : X.calm = true) : CallR X (.builtin "max") (rMaxA X.K) := (call_max2 hc).or (cr_max hc)
theorem or_min (hc : X.calm = true) : CallR X (.builtin "min") (rMinA X.K) := (call_min2 hc).or (cr_min hc)
theorem max_uniq {ns : List Int} {m : Int} (hm : m ∈ ns) (h : ∀ y ∈ ns, y ≤ m) : m = maxI ns := by
  cases ns with
  | nil => cases hm
  | cons i r =>
    obtain ⟨h1, h2⟩ := maxI_is (i := i) (r := r)
    exact Int.le_antisymm (h2 m hm) (h _ h1)
theorem min_uniq {ns : List Int} {m : Int} (hm : m ∈ ns) (h : ∀ y ∈ ns, m ≤ y) : m = minI ns := by
  cases ns with
  | nil => cases hm
  | cons i r =>
    obtain ⟨h1, h2⟩ := minI_is (i := i) (r := r)
    exact Int.le_antisymm (h _ h1) (h2 m hm)
theorem s_max : SN K mg maxD (rMaxA K) := by
  intro W σ μ G F st H xs vs Q k rs h
  match xs, rs, h with
  | [x, y], rs, h =>
    obtain ⟨v, w, rfl, rv, rw'⟩ := reps_two rs
    have h : Done K mg W σ μ G F (max2 x y st) (Fin K Q) := h
    unfold max2 at h
    split at h
    · rw [rep_int rv, rep_int rw']
      exact .inl ⟨_, _, rfl, fin_here k h .int⟩
    · exact h.elim
  | [x], rs, h =>
    obtain ⟨v, rfl, rv⟩ := reps_one rs
    obtain ⟨ns, e, h⟩ := opt_done (show Done K mg W σ μ G F (opt ((lstOf st x).bind intsOf) fun ns => if ns.isEmpty then .bad else .ok (.int (maxI ns)) st) (Fin K Q) from h)
    obtain ⟨a, rfl, hs⟩ := lst_ints k rv e
    by_cases hn : ns.isEmpty = true
    · rw [if_pos hn] at h; exact h.elim
    · rw [if_neg hn] at h
      refine .inr ⟨a, ns, rfl, hs, ?_, fun m hm hle => ?_⟩
      · cases ns with
        | nil => exact absurd rfl hn
        | cons _ _ => exact Nat.succ_pos _
      · rw [max_uniq hm hle]
        exact fin_here k h .int
  | [], _, h => exact h.elim
  | _ :: _ :: _ :: _, _, h => exact h.elim
theorem s_min : SN K mg minD (rMinA K) := by
  intro W σ μ G F st H xs vs Q k rs h
  match xs, rs, h with
  | [x, y], rs, h =>
    obtain ⟨v, w, rfl, rv, rw'⟩ := reps_two rs
    have h : Done K mg W σ μ G F (min2 x y st) (Fin K Q) := h
    unfold min2 at h
    split at h
    · rw [rep_int rv, rep_int rw']
      exact .inl ⟨_, _, rfl, fin_here k h .int⟩
    · exact h.elim
  | [x], rs, h =>
    obtain ⟨v, rfl, rv⟩ := reps_one rs
    obtain ⟨ns, e, h⟩ := opt_done (show Done K mg W σ μ G F (opt ((lstOf st x).bind intsOf) fun ns => if ns.isEmpty then .bad else .ok (.int (minI ns)) st) (Fin K Q) from h)
    obtain ⟨a, rfl, hs⟩ := lst_ints k rv e
    by_cases hn : ns.isEmpty = true
    · rw [if_pos hn] at h; exact h.elim
    · rw [if_neg hn] at h
      refine .inr ⟨a, ns, rfl, hs, ?_, fun m hm hle => ?_⟩
      · cases ns with
        | nil => exact absurd rfl hn
        | cons _ _ => exact Nat.succ_pos _
      · rw [min_uniq hm hle]
        exact fin_here k h .int
  | [], _, h => exact h.elim
  | _ :: _ :: _ :: _, _, h => exact h.elim

/-! ### methods of lists -/
/-- o.m(..): the type's name, then what the method does -/
def tyD (T : String) (st : Store) (x : D) : Bool := match x with
  | .str _ => T == "str"
  | .lst _ => T == "list"
  | .loc n => T == "list" && (lstAt st n).isSome
  | _ => false
def eM (T : String) (f : D → List D → Store → Re D) (o : EM) (as : EMs) : EM := fun vs st => (o vs st).bind fun x st => if tyD T st x = true then (as vs st).bind fun xs st => f x xs st else .bad
def SM2 (K : PySem.W.Frag) (mg : Str → Option Value) (f : D → List D → Store → Re D) (r : V → List V → Hp → VK → Prop) : Prop := ∀ (W : WX) (σ : L2.St) (μ : List Addr) (G F : Hp) (st : Store) (H : Hp) (x : D) (v : V) (xs : List D) (vs : List V) (Q : VK), Kn K mg μ G F st H → Rep K μ G x v → Reps K μ G xs vs →
  Done K mg W σ μ G F (f x xs st) (Fin K Q) → r v vs H Q
theorem tyD_rep {μ : List Addr} {G F : Hp} {st : Store} {H : Hp} {x : D} {v : V} {T : String} (k : Kn K mg μ G F st H) (rv : Rep K μ G x v) (e : tyD T st x = true) : tyV K T v H := by
  cases x with
  | str z => rw [rep_str rv]; exact beq_iff_eq.mp e
  | lst ds =>
    obtain ⟨a, ws, rfl, hs, _⟩ := rep_lst rv
    exact .inl ⟨beq_iff_eq.mp e, ws, .of (k.ex _ _ hs)⟩
  | loc n =>
    have e' : (T == "list" && (lstAt st n).isSome) = true := e
    rw [Bool.and_eq_true] at e'
    cases hl : lstAt st n with
    | none => rw [hl] at e'; exact absurd e'.2 Bool.false_ne_true
    | some ds =>
      obtain ⟨a, ws, rfl, hs, _⟩ := lstOf_rep (ds := ds) k rv hl
      exact .inl ⟨beq_iff_eq.mp e'.1, ws, .of hs⟩
  | non => exact absurd e Bool.false_ne_true
  | bl _ => exact absurd e Bool.false_ne_true
  | int _ => exact absurd e Bool.false_ne_true
  | frz _ => exact absurd e Bool.false_ne_true
  | tup _ => exact absurd e Bool.false_ne_true
section
variable {W : WX} {o e : Expr} {es : List Expr} {mo : EM} {ms : EMs} {name : Str} {apos cpos : Pos} {T id : String} {f : D → List D → Store → Re D} {r : V → List V → Hp → VK → Prop}
theorem meth_of {t : TA} (hs : SM2 X.K X.mg f r) (ho : ME X W o mo) (ha : MA X W es ms) (σ : L2.St) (H : Hp) (Q : VK) (h : tE X.K X.mg W (eM T f mo ms) σ H Q) : tBM X.K T r (tE X.K X.mg W mo) (tA X.K X.mg W ms) σ H Q := by
  obtain ⟨vs, st, μ, G, F, re, k, h⟩ := h
  refine ⟨vs, st, μ, G, F, re, k, (Done.bind h).mono fun μ1 G1 x st1 H1 f1 k1 h1 v rv => ?_⟩
  obtain ⟨ht, h1⟩ := ite_done h1
  refine ⟨tyD_rep k1 rv ht, vs, st1, μ1, G1, F, re.fut f1, k1, (Done.bind h1).mono fun μ2 G2 xs st2 H2 f2 k2 h2 ws rws => ?_⟩
  exact hs W σ μ2 G2 F st2 H2 x v xs ws Q k2 (rv.fut f2) rws h2
theorem m_meth (pa : PlainAttrs T) (slot : Slot T name id) (hty : typeOf (.builtin id) = pure (.type "method_descriptor")) (hm : MtR X id r) (hs : SM2 X.K X.mg f r) (ho : ME X W o mo) (ha : MA X W (e :: es) ms)
    (hbase : attributeBase o name X.env (eval o X.env) = eval o X.env := by rfl)
    (hfew : ((backTo cpos (starEach (e :: es) X.env)).all (fun x => !x.1) && (backToKw cpos (keywordEach [] X.env)).all (fun x => x.1.isSome)
      && decide ((e :: es).length + ([] : List Keyword).length + (if ([] : List Keyword).isEmpty then 0 else 1) < 30)) = true := by rfl)
    (hline : (apos.endLine == cpos.line) = true := by rfl) (hst : starEach (e :: es) X.env = (false, eval e X.env) :: starEach es X.env := by rfl) (hplain : (backTo cpos (starEach es X.env)).any (·.1) = false := by rfl) :
    ME X W (.Call (.Attribute o name apos) (e :: es) [] cpos) (eM T f mo ms) := (pe_bm pa slot hty hm ho ha hbase hfew hline hst hplain).of (meth_of (t := tA X.K X.mg W ms) hs ho ha)
theorem m_meth0 (pa : PlainAttrs T) (slot : Slot T name id) (hty : typeOf (.builtin id) = pure (.type "method_descriptor")) (hm : MtR X id r) (hs : SM2 X.K X.mg f r) (ho : ME X W o mo)
    (hbase : attributeBase o name X.env (eval o X.env) = eval o X.env := by rfl) (hline : (apos.endLine == cpos.line) = true := by rfl) : ME X W (.Call (.Attribute o name apos) [] [] cpos) (eM T f mo aNil) := (pe_bm0 pa slot hty hm ho hbase hline).of fun σ H Q h => by
  obtain ⟨vs, st, μ, G, F, re, k, h⟩ := h
  refine ⟨vs, st, μ, G, F, re, k, (Done.bind h).mono fun μ1 G1 x st1 H1 f1 k1 h1 v rv => ?_⟩
  obtain ⟨ht, h1⟩ := ite_done h1
  refine ⟨tyD_rep k1 rv ht, ?_⟩
  exact hs W σ μ1 G1 F st1 H1 x v [] [] Q k1 rv .nil h1
end
def appendD (x : D) (xs : List D) (st : Store) : Re D := match x, xs with
  | .loc n, [y] => opt (lstAt st n) fun ds => if room (ds.length + 1) then .ok .non (st.set n (some (.lst (ds ++ [y])))) else .bad
  | _, _ => .bad
theorem s_append : SM2 K mg appendD rAppend := by
  intro W σ μ G F st H x v xs vs Q k rv rs h
  unfold appendD at h
  split at h
  · rename_i n y
    obtain ⟨ds, e, h⟩ := opt_done h
    obtain ⟨hr, h⟩ := ite_done h
    obtain ⟨w, rfl, rw'⟩ := reps_one rs
    obtain ⟨a, rfl, ha⟩ := rep_loc rv
    obtain ⟨a', ws, e', hs, rws⟩ := lstOf_rep (ds := ds) k rv e
    cases e'
    refine ⟨a, ws, w, rfl, rfl, hs, by rw [rws.length]; exact room_lt (by omega), ?_⟩
    exact h μ G _ (.refl _ _) (k.write (cell_some (lstAt_cell e)) ha ⟨_, rfl, rws.append (.cons rw' .nil)⟩) _ .non
  · exact h.elim
def extendD (x : D) (xs : List D) (st : Store) : Re D := match x, xs with
  | .loc n, [y] => opt (lstAt st n) fun ds => opt (lstOf st y) fun es => if room (ds.length + es.length) then .ok .non (st.set n (some (.lst (ds ++ es)))) else .bad
  | _, _ => .bad
theorem s_extend : SM2 K mg extendD rExtend := by
  intro W σ μ G F st H x v xs vs Q k rv rs h
  unfold extendD at h
  split at h
  · rename_i n y
    obtain ⟨ds, e, h⟩ := opt_done h
    obtain ⟨es, e2, h⟩ := opt_done h
    obtain ⟨hr, h⟩ := ite_done h
    obtain ⟨w, rfl, rw'⟩ := reps_one rs
    obtain ⟨a, rfl, ha⟩ := rep_loc rv
    obtain ⟨a', ws, e', hs, rws⟩ := lstOf_rep (ds := ds) k rv e
    cases e'
    obtain ⟨b, zs, rfl, hb, rzs⟩ := lstOf_rep k rw' e2
    refine ⟨a, b, ws, zs, rfl, rfl, hs, hb, by rw [rws.length, rzs.length]; exact room_line hr, ?_⟩
    exact h μ G _ (.refl _ _) (k.write (cell_some (lstAt_cell e)) ha ⟨_, rfl, rws.append rzs⟩) _ .non
  · exact h.elim
def popD (x : D) (xs : List D) (st : Store) : Re D := match x, xs with
  | .loc n, [] => opt (lstAt st n) fun ds => opt ds[ds.length - 1]? fun y => .ok y (st.set n (some (.lst ds.dropLast)))
  | .loc n, [.int i] => opt (lstAt st n) fun ds => opt (ixN ds.length i) fun j => opt ds[j]? fun y => if ds.length ≤ 1000000 then .ok y (st.set n (some (.lst (ds.eraseIdx j)))) else .bad
  | _, _ => .bad
abbrev rPopA : V → List V → Hp → VK → Prop := fun x xs H Q => rPop x xs H Q ∨ rPopAt x xs H Q
theorem or_pop : MtR X "list.pop" rPopA := MtR.or (r := rPop) (r' := rPopAt) mt_pop mt_popAt
theorem s_pop : SM2 K mg popD rPopA := by
  intro W σ μ G F st H x v xs vs Q k rv rs h
  unfold popD at h
  split at h
  · rename_i n
    obtain ⟨ds, e, h⟩ := opt_done h
    obtain ⟨y, e2, h⟩ := opt_done h
    rw [reps_nil rs]
    obtain ⟨a, rfl, ha⟩ := rep_loc rv
    obtain ⟨a', ws, e', hs, rws⟩ := lstOf_rep (ds := ds) k rv e
    cases e'
    obtain ⟨w, hw, rw'⟩ := rws.get e2
    refine .inl ⟨a, ws, w, rfl, rfl, hs, by rw [rws.length]; exact hw, ?_⟩
    exact h μ G _ (.refl _ _) (k.write (cell_some (lstAt_cell e)) ha ⟨_, rfl, rws.dropLast⟩) _ rw'
  · rename_i n i
    obtain ⟨ds, e, h⟩ := opt_done h
    obtain ⟨j, e1, h⟩ := opt_done h
    obtain ⟨y, e2, h⟩ := opt_done h
    obtain ⟨hr, h⟩ := ite_done h
    obtain ⟨w, rfl, rw'⟩ := reps_one rs
    rw [rep_int rw']
    obtain ⟨a, rfl, ha⟩ := rep_loc rv
    obtain ⟨a', ws, e', hs, rws⟩ := lstOf_rep (ds := ds) k rv e
    cases e'
    obtain ⟨z, hz, rz⟩ := rws.get e2
    obtain ⟨g1, g2, g3, g4⟩ := ixN_seq e1
    refine .inr ⟨a, ws, i, j, z, rfl, rfl, hs, by omega, by omega, by rw [rws.length]; exact g1, hz, ?_⟩
    exact h μ G _ (.refl _ _) (k.write (cell_some (lstAt_cell e)) ha ⟨_, rfl, rws.eraseIdx j⟩) _ rz
  · exact h.elim

/-! ### a[i] = v -/
/-- what a store to o[i] does -/
abbrev SD := D → D → D → Store → Option Store
def setD : SD := fun o i v st => match o, i with
  | .loc n, .int k => (lstAt st n).bind fun ds => (ixN ds.length k).bind fun j => some (st.set n (some (.lst (ds.set j v))))
  | _, _ => none
def sSub (f : SD) (o i m : EM) : SM := fun vs st => (m vs st).thn vs fun v st => (o vs st).thn vs fun x st => (i vs st).thn vs fun y st => match f x y v st with
  | some st => .nx vs st
  | none => .bad
def SSet (K : PySem.W.Frag) (mg : Str → Option Value) (f : SD) (r : TSet) : Prop := ∀ (μ : List Addr) (G F : Hp) (st st' : Store) (H : Hp) (x y z : D) (v w u : V) (Q : Hp → Prop), Kn K mg μ G F st H → Rep K μ G x v → Rep K μ G y w → Rep K μ G z u → f x y z st = some st' →
  (∀ H', Kn K mg μ G F st' H' → Q H') → r v w u H Q
theorem s_setL : SSet K mg setD rSetL := by
  intro μ G F st st' H x y z v w u Q k rx ry rz e q
  unfold setD at e
  split at e
  · rename_i n i
    cases e1 : lstAt st n with
    | none => rw [e1] at e; cases e
    | some ds =>
      rw [e1] at e
      have e' : ((ixN ds.length i).bind fun j => some (st.set n (some (.lst (ds.set j z))))) = some st' := e
      cases e2 : ixN ds.length i with
      | none => rw [e2] at e'; cases e'
      | some j =>
        rw [e2] at e'
        injection e' with e3
        subst e3
        obtain ⟨a, rfl, ha⟩ := rep_loc rx
        obtain ⟨a', ws, ea, hs, rws⟩ := lstOf_rep (ds := ds) k rx e1
        cases ea
        rw [rep_int ry]
        refine ⟨a, ws, i, j, rfl, rfl, hs, by rw [rws.length]; exact e2, q _ (k.write (cell_some (lstAt_cell e1)) ha ⟨_, rfl, rws.set rz j⟩)⟩
  · cases e
section
variable {W : WX} {o i value : Expr} {mo mi mv : EM} {f : SD} {r : TSet} {tpos pos : Pos}
theorem sub_of (hs : SSet X.K X.mg f r) (D : Ends) (σ : L2.St) (H : Hp) (h : tS X.K X.mg W (sSub f mo mi mv) D σ H) : tAsg (tE X.K X.mg W mv) (gSub (tE X.K X.mg W mo) (tE X.K X.mg W mi) r) D σ H := by
  obtain ⟨vs, st, μ, G, F, re, k, h⟩ := h
  refine ⟨vs, st, μ, G, F, re, k, (DoneS.thn re h).mono fun μ1 G1 z st1 H1 f1 k1 h1 u ru => ?_⟩
  refine ⟨vs, st1, μ1, G1, F, re.fut f1, k1, (DoneS.thn (re.fut f1) h1).mono fun μ2 G2 x st2 H2 f2 k2 h2 v rv => ?_⟩
  refine ⟨vs, st2, μ2, G2, F, (re.fut f1).fut f2, k2, (DoneS.thn ((re.fut f1).fut f2) h2).mono fun μ3 G3 y st3 H3 f3 k3 h3 w rw' => ?_⟩
  split at h3
  · rename_i st4 e
    exact hs μ3 G3 F st3 st4 H3 x y z v w u _ k3 (rv.fut f3) rw' ((ru.fut f2).fut f3) e fun H' k4 => h3 μ3 G3 H' σ (.refl _ _) k4 (((re.fut f1).fut f2).fut f3)
  · exact h3.elim
theorem st_sub (hp : PSet X r) (hs : SSet X.K X.mg f r) (ho : ME X W o mo) (hi : ME X W i mi) (hv : ME X W value mv)
    (ha : ∀ v, assign (.Subscript o i tpos) X.env v = (do
      let ov ← holding [v] (eval o X.env)
      let iv ← holding [v, ov] (eval i X.env)
      standAt tpos
      holding [v, ov, iv] (setItem ov iv v)
      release [v, ov, iv] []) := by intro _; rfl)
    (h1 : swapsWithSole [.Subscript o i tpos] value pos.line X.env = pure false := by rfl) (hw : swappedStores [.Subscript o i tpos] value X.env = pure none := by rfl) (h2 : (assignEach [.Subscript o i tpos] X.env).map (·.2) = [assign (.Subscript o i tpos) X.env] := by rfl) :
    MS X W (.Assign [.Subscript o i tpos] value pos) (sSub f mo mi mv) := (ps_asg hv (pg_sub ho hi hp ha) h1 hw h2).of (sub_of hs)
end
end
end Dn
namespace Dn
open PySem PySem.Spec PyProof.Rows L2

/-! ### enumerate of a tuple -/
set_option maxHeartbeats 1000000 in
theorem meets_enum1 {v : Value} {o : Obj} {H : Heap → Prop} (B : Begins v o H) :
    Meets (Builtin.«enumerate.__new__» ⟨[.type "enumerate", v], []⟩) (fun _ R s => H s.heap ∧
      R (.ok (.ret (.ref (s.heap.push o).objs.size))) { s with heap := (s.heap.push o).push { cls := .type "enumerate", data := .fields #[.none, .bool false, .ref s.heap.objs.size, rawInt 0, .none, .none] } }) :=
  .of_wp fun prog w A R s h => by
    obtain ⟨hp, g, d, tk, os⟩ := s; obtain ⟨h1, h⟩ := h
    have hsub := sub_enumerate
    have q1 : ∀ {A' : Around} {E : Value → Shared → Prop} {Q : Value → Shared → Prop}, Q (.ref hp.objs.size) ⟨hp.push o, g, d, tk, os⟩ → wpAny (model prog w) A' (pyIter v) Q E ⟨hp, g, d, tk, os⟩ :=
      fun q => B.iter prog w _ _ ⟨hp, g, d, tk, os⟩ _ h1 q
    wp_walk using q1
    refine wpAny_stack_any fun st => wpAny_pure ?_
    split
    · rename_i c _ _ _ _ _
      cases (c == Value.type "enumerate")
      · wp_walk using q1
        exact ⟨_, rfl, h⟩
      · wp_walk using q1
        exact ⟨_, rfl, h⟩
    · wp_walk using q1
      exact ⟨_, rfl, h⟩
theorem call_enum1 {prog : Program} {w : World} {A : Around} {E : Value → Shared → Prop} {s : Shared} {v : Value} {o : Obj} {H : Heap → Prop} {Q : Value → Shared → Prop} (B : Begins v o H) (h1 : H s.heap)
    (h : ∀ h', IsEnum h' (s.heap.objs.size + 1) s.heap.objs.size 0 .none → h'.get? s.heap.objs.size = some o → h'.objs.size = s.heap.objs.size + 2 →
      (∀ b o, s.heap.get? b = some o → h'.get? b = some o) → Q (.ref (s.heap.objs.size + 1)) { s with heap := h' }) :
    wpAny (model prog w) A (call (.type "enumerate") [v]) Q E s := by
  refine callType_new F.called_enumerate (by decide) (F.typeCall_enumerate_1 _) (F.newCall_enumerate_1 _) (fun obj => F.args_object_init_2 obj _) F.entry_enumerate_new (meets_enum1 B) ⟨h1, ?_⟩
  have hz : (s.heap.push o).objs.size = s.heap.objs.size + 1 := Heap.size_push ..
  show _ ∧ _
  rw [hz]
  have he : IsEnum ((s.heap.push o).push { cls := .type "enumerate", data := .fields #[.none, .bool false, .ref s.heap.objs.size, rawInt 0, .none, .none] }) (s.heap.objs.size + 1) s.heap.objs.size 0 .none := by
    have := Heap.get?_push_size (s.heap.push o) (o := { cls := .type "enumerate", data := .fields #[.none, .bool false, .ref s.heap.objs.size, rawInt 0, .none, .none] }) rfl
    rw [hz] at this; exact this
  refine ⟨⟨_, he, rfl⟩, h _ he (Heap.get?_push_of_some _ (Heap.get?_push_size _ B.free)) (by rw [Heap.size_push, hz]) fun b o x => Heap.get?_push_of_some _ (Heap.get?_push_of_some _ x)⟩
/-- the tuple at a, each item in a new pair -/
def IteT (K : PySem.W.Frag) (a : Addr) : It :=
  ⟨fun i H => ∃ (xs : List V) (x : V), SqT K H a xs ∧ xs[i]? = some x, fun i H v H' => ∃ T x, v = .ref T ∧ H T = none ∧ H' = upd H T (.tup [.int (i : Nat), x]) ∧ ∀ xs, SqT K H a xs → xs[i]? = some x, fun i H => ∃ xs : List V, SqT K H a xs ∧ xs.length = i⟩
theorem turn_enumT {P : Program} {w : World} {K : PySem.W.Frag} {elts : List Expr} {kk : Nat} {tpos : Pos} (a e it : Addr) :
    Turn P w K (.Tuple elts kk tpos) (IteT K a) [e, it] e (fun i h => (∃ old, IsEnum h e it ((i : Nat) : Int) old) ∧ h.IsTupleIter it a i ∧ e ≠ it ∧ a ≠ it ∧ a ≠ e) where
  mem := by simp
  obj := fun i h st b hb => by
    obtain ⟨⟨old, he⟩, ⟨o, ho, hc, hd⟩, _⟩ := st
    have e' : b = e ∨ b = it := by simpa using hb
    rcases e' with z | z
    · rw [z]; exact ⟨_, he, fun v q => nomatch q⟩
    · rw [z]; exact ⟨o, ho, fun v q => by rw [hd] at q; cases q⟩
  keep := fun i h h' st k => let ⟨⟨old, he⟩, hi, hne⟩ := st; ⟨⟨old, k e (by simp) _ he⟩, hi.at fun o q => k it (by simp) o q, hne⟩
  item := by
    intro X hP hw hK hc i pins s σ H E I hf st hg
    subst hP hw hK
    obtain ⟨⟨old, he⟩, hit, hne, hai, hae⟩ := st
    obtain ⟨xs, x, hq, hx⟩ := hg
    obtain ⟨its, rv, p, hz⟩ := I.tuple hq
    have p : s.heap.IsTuple a its.toArray := p
    obtain ⟨u, hu, ru⟩ := rv.get hx
    have hel : e < s.heap.objs.size := Heap.lt_size he
    have hil : it < s.heap.objs.size := by obtain ⟨_, q, _⟩ := hit; exact Heap.lt_size q
    have hlt : i < its.toArray.size := by simpa using (List.getElem?_eq_some_iff.mp hu).1
    refine wpAny_pyNext_enum_itemD (Draws.tuple (prog := X.prog) (w := X.w) (A := X.A.in1) (by show X.A.handled = none; exact I.ok.hd hc) it a hai its.toArray) he ⟨hit, p⟩ hlt hne (by simp; exact ⟨hne, fun z => hae z.symm⟩) fun x' h' tk hPx ho hs' hT hsz hk => ?_
    have ex' : u = x' := by
      have h1 : its.toArray[i]? = some u := by simpa using hu
      rw [h1] at hPx
      exact Option.some.inj hPx
    subst ex'
    refine ⟨_, rfl, wpAny_letOwnedTupleGo_enum (s := { s with heap := h', toks := tk + 1 }) ho fun h'' he' sb => ?_⟩
    have hT2 : h''.get? s.heap.objs.size = some { cls := .type "tuple", data := .seq #[.int i tk, u] } := (sb.2 _ (Nat.ne_of_gt hel)).trans hT
    have new : ObjOk X.prog X.w (upd H s.heap.objs.size (.tup [.int (i : Nat), x])) h'' s.heap.objs.size (.tup [.int (i : Nat), x]) :=
      ⟨by show 2 ≤ sizeLine; decide, [.int i tk, u], .cons ⟨_, rfl⟩ (.cons ru .nil), ⟨_, hT2, rfl, _, rfl⟩⟩
    have I1 : Inv X pins σ (upd H s.heap.objs.size (.tup [.int (i : Nat), x])) { s with heap := h'', toks := tk + 1 } :=
      I.turnedNew (ch := [e, it]) (fun b ob hb q => (sb.2 b (fun z => hb (by simp [z]))).trans (hk b ob (fun z => hb (by simp [z])) (fun z => hb (by simp [z])) q)) hf (Nat.le_refl _) new
    refine ⟨.ref s.heap.objs.size, _, I1, rfl, ⟨_, x, rfl, I.hok.fresh (Nat.le_refl _), rfl, fun ys hy => by rw [I.tuple_inj hy hq]; exact hx⟩, ⟨⟨u, ?_⟩, hs'.1.at fun o q => (sb.2 it (Ne.symm hne)).trans q, hne, hai, hae⟩, fun b hb => ?_⟩
    · have e1 : ((i + 1 : Nat) : Int) = (i : Int) + 1 := by omega
      rw [e1]; exact he'
    · have hb' : b < s.heap.objs.size := by
        have e' : b = e ∨ b = it := by simpa using hb
        rcases e' with z | z
        · rw [z]; exact hel
        · rw [z]; exact hil
      rw [upd_ne (Nat.ne_of_lt hb')]
      exact (hf b hb).1
  done := by
    intro X hP hw hK hc i pins s σ H E I hf st hg
    subst hP hw hK
    obtain ⟨⟨old, he⟩, hit, hne, hai, hae⟩ := st
    obtain ⟨xs, hq, hx⟩ := hg
    obtain ⟨its, rv, p, hz⟩ := I.tuple hq
    have p : s.heap.IsTuple a its.toArray := p
    obtain ⟨f0, f1, f2, f3, f4, f5⟩ := hf it (by simp)
    have hl := rv.length
    have e : i = its.toArray.size := by simp; omega
    subst e
    exact wpAny_pyNext_enum_endD (Draws.tuple (prog := X.prog) (w := X.w) (A := X.A.in1) (by show X.A.handled = none; exact I.ok.hd hc) it a hai its.toArray) he ⟨hit, p⟩ fun h' eb => ⟨rfl, I.turned (t' := s.toks) (fun b o hb q => eb b o hb q) f0 f1 f3 f4 f5⟩
  self := fun A i s Q E st h => let ⟨⟨_, he⟩, _⟩ := st; wpAny_pyIter_enum he h
def iEnT (K : PySem.W.Frag) (ta : TA) : TI := fun σ H R => ta σ H fun vs H1 => ∃ a, vs = [.ref a] ∧ ((∃ xs, SqL K H1 a xs) ∧ R (Ite K a) H1 ∨ (∃ xs, SqT K H1 a xs) ∧ R (IteT K a) H1)
theorem pi_en {X : Cx} {e : Expr} {ta : TA} {p pos tpos : Pos} {elts : List Expr} {kk : Nat} (hg : Gl X "enumerate") (hm : X.mg "enumerate" = none) (ha : PA X [e] ta) (hs : starEach [e] X.env = [(false, eval e X.env)] := by rfl) :
    PI X (.Tuple elts kk tpos) (.Call (.Name "enumerate" p) [e] [] pos) (iEnT X.K ta) := by
  refine ⟨fun pins s σ H R I h => ?_⟩
  refine Call_ (ld_blt I hg hm boot_enumerate (PyProof.Rows.callWith_type1 (thn (ha.run pos pins s σ H _ I h) fun us s1 ⟨vs, H1, I1, r1, q1⟩ => ?_) hs rfl))
  obtain ⟨a, ex, q⟩ := q1
  subst ex
  cases r1 with
  | cons r rr =>
    cases rr
    cases r
    rcases q with ⟨⟨xs, hq⟩, q⟩ | ⟨⟨xs, hq⟩, q⟩
    · obtain ⟨its, rv, p', hz⟩ := I1.list hq
      refine call_enumerate_list p'.isList fun h' he hit hsz hk => wpAny_pyIter_enum he ?_
      have I2 : Inv X pins σ H1 { s1 with heap := h' } := I1.kept (t' := s1.toks) hk
      refine ⟨s1.heap.objs.size + 1, [s1.heap.objs.size + 1, s1.heap.objs.size], _, _, H1, rfl, I2, turn_enum a (s1.heap.objs.size + 1) s1.heap.objs.size, ⟨⟨.none, he⟩, hit, Nat.succ_ne_self _⟩, fun b hb => ?_, q⟩
      have e' : b = s1.heap.objs.size + 1 ∨ b = s1.heap.objs.size := by simpa using hb
      have hle : s1.heap.objs.size ≤ b := by
        rcases e' with z | z
        · rw [z]; exact Nat.le_add_right _ _
        · rw [z]; exact Nat.le_refl _
      exact I1.fpOk hle (I1.hok.fresh hle)
    · obtain ⟨its, rv, p', hz⟩ := I1.tuple hq
      have p2 : s1.heap.IsTuple a its.toArray := p'
      refine call_enum1 (begins_tuple a its.toArray) p2 fun h' he hit hsz hk => wpAny_pyIter_enum he ?_
      have I2 : Inv X pins σ H1 { s1 with heap := h' } := I1.kept (t' := s1.toks) hk
      have hla : a < s1.heap.objs.size := by obtain ⟨_, q, _⟩ := p2; exact Heap.lt_size q
      refine ⟨s1.heap.objs.size + 1, [s1.heap.objs.size + 1, s1.heap.objs.size], _, _, H1, rfl, I2, turn_enumT a (s1.heap.objs.size + 1) s1.heap.objs.size, ⟨⟨.none, he⟩, ⟨_, hit, rfl, rfl⟩, Nat.succ_ne_self _, Nat.ne_of_lt hla, Nat.ne_of_lt (Nat.lt_succ_of_lt hla)⟩, fun b hb => ?_, q⟩
      have e' : b = s1.heap.objs.size + 1 ∨ b = s1.heap.objs.size := by simpa using hb
      have hle : s1.heap.objs.size ≤ b := by
        rcases e' with z | z
        · rw [z]; exact Nat.le_add_right _ _
        · rw [z]; exact Nat.le_refl _
      exact I1.fpOk hle (I1.hok.fresh hle)
/-- the pairs of an enumeration -/
def enumP (ds : List D) : List D := ds.zipIdx.map fun p => D.tup [.int p.2, p.1]
theorem enumP_get {ds : List D} {i : Nat} {d : D} (h : (enumP ds)[i]? = some d) : ∃ x, ds[i]? = some x ∧ d = .tup [.int i, x] := by
  unfold enumP at h
  rw [List.getElem?_map, List.getElem?_zipIdx] at h
  cases e : ds[i]? with
  | none => rw [e] at h; cases h
  | some x =>
    rw [e] at h
    refine ⟨x, rfl, ?_⟩
    simpa using h.symm
theorem enumP_length {ds : List D} : (enumP ds).length = ds.length := by simp [enumP]
/-- items of a list or a tuple that stay while it is walked -/
theorem its_at {K : PySem.W.Frag} {mg : Str → Option Value} {μ1 : List Addr} {G1 F1 : Hp} {st1 : Store} {H1 : Hp} {x : D} {v : V} {it : Its} (k1 : Kn K mg μ1 G1 F1 st1 H1) (rv : Rep K μ1 G1 x v) (e : itsOf st1 x = some it) :
    ∃ a, v = .ref a ∧ (((∃ xs, SqL K H1 a xs) ∧ ∀ μ2 G2 F2 st2 H2, Fut μ1 G1 μ2 G2 → Kn K mg μ2 G2 F2 st2 H2 → grd it st2 → ∃ xs, SqL K H2 a xs ∧ Reps K μ2 G2 it.1 xs) ∨
      ((∃ xs, SqT K H1 a xs) ∧ ∀ μ2 G2 F2 st2 H2, Fut μ1 G1 μ2 G2 → Kn K mg μ2 G2 F2 st2 H2 → grd it st2 → ∃ xs, SqT K H2 a xs ∧ Reps K μ2 G2 it.1 xs)) := by
  cases x with
  | tup ds =>
    injection e with e
    subst e
    obtain ⟨a, vs', rfl, hs, rs⟩ := rep_tup rv
    exact ⟨a, rfl, .inr ⟨⟨vs', k1.ex.sqt hs⟩, fun μ2 G2 F2 st2 H2 f2 k2 _ => ⟨vs', k2.ex.sqt (f2.ex.sqt hs), rs.fut f2⟩⟩⟩
  | lst ds =>
    injection e with e
    subst e
    obtain ⟨a, vs', rfl, hs, rs⟩ := rep_lst rv
    exact ⟨a, rfl, .inl ⟨⟨vs', .of (k1.ex _ _ hs)⟩, fun μ2 G2 F2 st2 H2 f2 k2 _ => ⟨vs', .of (k2.ex _ _ (f2.ex _ _ hs)), rs.fut f2⟩⟩⟩
  | frz ds =>
    injection e with e
    subst e
    obtain ⟨a, vs', rfl, hs, rs⟩ := rep_frz rv
    exact ⟨a, rfl, .inl ⟨⟨vs', k1.ex.sql hs⟩, fun μ2 G2 F2 st2 H2 f2 k2 _ => ⟨vs', k2.ex.sql (f2.ex.sql hs), rs.fut f2⟩⟩⟩
  | loc n =>
    unfold itsOf at e
    cases hc : lstAt st1 n with
    | none => simp only [hc] at e; cases e
    | some ds =>
      simp only [hc] at e
      injection e with e
      subst e
      obtain ⟨a, rfl, ha⟩ := rep_loc rv
      obtain ⟨a', vs', e', hs, rs⟩ := lstOf_rep (ds := ds) k1 rv hc
      cases e'
      refine ⟨a, rfl, .inl ⟨⟨vs', .of hs⟩, fun μ2 G2 F2 st2 H2 f2 k2 g2 => ?_⟩⟩
      obtain ⟨a2, vs2, e2, hs2, rs2⟩ := lstOf_rep (d := .loc n) (ds := ds) k2 (.loc (f2.at ha)) (lstAt_of g2.1)
      cases e2
      exact ⟨vs2, .of hs2, rs2⟩
  | _ => cases e
def iEn (m : EMs) : IM := fun vs st => (m vs st).bind fun xs st => match xs with
  | [x] => (match itsOf st x with
    | some it => .ok (enumP it.1, it.2) st
    | none => .bad)
  | _ => .bad
theorem pair_new {K : PySem.W.Frag} {mg : Str → Option Value} {μ : List Addr} {G F : Hp} {st : Store} {H : Hp} {T : Addr} {ds : List D} {vs : List V} (k : Kn K mg μ G F st H) (hT : H T = none) (r : Reps K μ G ds vs) :
    ∃ G'', Fut μ G μ G'' ∧ Kn K mg μ G'' F st (upd H T (.tup vs)) ∧ Rep K μ G'' (.tup ds) (.ref T) := by
  have f : Fut μ G μ (upd G T (.tup vs)) := .know (.new (k.ex.free hT))
  exact ⟨_, f, k.learn hT, .tup (.of upd_same) (r.fut f)⟩
section
variable {X : Cx} {W : WX} {e : Expr} {elts : List Expr} {kk : Nat} {ms : EMs} {p pos tpos : Pos}
theorem i_en (hm : X.mg "enumerate" = none) (ha : MA X W [e] ms) (hms : ALen ms 1 := by repeat constructor) (hg : Gl X "enumerate" := by rfl) (hs : starEach [e] X.env = [(false, eval e X.env)] := by rfl) :
    MI X W (.Tuple elts kk tpos) (.Call (.Name "enumerate" p) [e] [] pos) (iEn ms) := (pi_en hg hm ha hs).of fun σ H R h => by
  obtain ⟨vs, st, μ, G, F, re, k, h⟩ := h
  unfold iEn at h
  cases hd : ms vs st with
  | bad => rw [hd] at h; exact h.elim
  | exc ex st1 => rw [hd] at h; exact ⟨vs, st, μ, G, F, re, k, by rw [hd]; exact h⟩
  | ok ds st1 =>
    rw [hd] at h
    refine ⟨vs, st, μ, G, F, re, k, ?_⟩
    rw [hd]
    intro μ1 G1 H1 f1 k1 ws rws
    have hl := hms.len hd
    have h1 := Done.fut f1 h
    obtain ⟨d, rfl⟩ : ∃ d, ds = [d] := by
      match ds, hl with
      | [d], _ => exact ⟨d, rfl⟩
    obtain ⟨v, rfl, rv⟩ := reps_one rws
    cases hi : itsOf st1 d with
    | none => simp only [Re.bind, hi] at h1; exact h1.elim
    | some it =>
      simp only [Re.bind, hi] at h1
      obtain ⟨g, q⟩ := Done.here k1 h1
      obtain ⟨a, rfl, hq⟩ := its_at k1 rv hi
      rcases hq with ⟨he, hq⟩ | ⟨he, hq⟩
      · refine ⟨a, rfl, .inl ⟨he, q _ fun μ2 G2 F2 st2 H2 f2 k2 g2 => ?_⟩⟩
        obtain ⟨xs, hx, rx⟩ := hq μ2 G2 F2 st2 H2 f2 k2 g2
        refine ⟨⟨xs, hx, by rw [rx.length]; exact Nat.le_of_eq enumP_length.symm⟩, fun i d hd => ?_⟩
        obtain ⟨y, hy, rfl⟩ := enumP_get hd
        obtain ⟨w, hw, rw'⟩ := rx.get hy
        refine ⟨⟨xs, w, hx, hw⟩, fun z H3 hz => ?_⟩
        obtain ⟨T, w', rfl, hT, rfl, hall⟩ := hz
        have := hall xs hx
        rw [hw] at this
        cases this
        exact pair_new k2 hT (.cons .int (.cons rw' .nil))
      · refine ⟨a, rfl, .inr ⟨he, q _ fun μ2 G2 F2 st2 H2 f2 k2 g2 => ?_⟩⟩
        obtain ⟨xs, hx, rx⟩ := hq μ2 G2 F2 st2 H2 f2 k2 g2
        refine ⟨⟨xs, hx, by rw [rx.length]; exact enumP_length.symm⟩, fun i d hd => ?_⟩
        obtain ⟨y, hy, rfl⟩ := enumP_get hd
        obtain ⟨w, hw, rw'⟩ := rx.get hy
        refine ⟨⟨xs, w, hx, hw⟩, fun z H3 hz => ?_⟩
        obtain ⟨T, w', rfl, hT, rfl, hall⟩ := hz
        have := hall xs hx
        rw [hw] at this
        cases this
        exact pair_new k2 hT (.cons .int (.cons rw' .nil))
end
end Dn
namespace Dn
open PySem PySem.Spec PyProof.Rows L2

/-! ### dicts whose keys are ints and texts -/
def keyK : D → Option Key
  | .int i => some (.inl i)
  | .str z => some (.inr z)
  | _ => none
section
variable {κ : Type} [DecidableEq κ]
def getK (kvs : List (κ × D)) (k : κ) : Option D := (kvs.find? fun p => decide (p.1 = k)).map (·.2)
def setK (kvs : List (κ × D)) (k : κ) (d : D) : List (κ × D) := if (kvs.any fun p => decide (p.1 = k)) = true then kvs.map (fun p => if p.1 = k then (p.1, d) else p) else kvs ++ [(k, d)]
end
theorem keyK_rep {K : PySem.W.Frag} {μ : List Addr} {G : Hp} {d : D} {v : V} {k : Key} (r : Rep K μ G d v) (e : keyK d = some k) : v = kV k := by
  cases d with
  | int i => injection e with e; subst e; exact rep_int r
  | str z => injection e with e; subst e; exact rep_str r
  | _ => cases e
def relO (K : PySem.W.Frag) (μ : List Addr) (G : Hp) : Option D → Option V → Prop
  | none, o => o = none
  | some d, o => ∃ v, o = some v ∧ Rep K μ G d v
section
variable {K : PySem.W.Frag} {mg : Str → Option Value} {μ : List Addr} {G F : Hp} {st : Store} {H : Hp} {κ : Type} [DecidableEq κ]
theorem repKV_get {k : κ} : ∀ {kvs : List (κ × D)} {ps : List (κ × V)}, RepKV K μ G kvs ps → relO K μ G (getK kvs k) (valV ps k)
  | [], ps, h => by
    have : ps = [] := h
    subst this
    rfl
  | (j, d) :: r, ps, h => by
    obtain ⟨v, s, rfl, hv, t⟩ := h
    by_cases e : j = k
    · subst e
      have h1 : getK ((j, d) :: r) j = some d := by simp [getK]
      have h2 : valV ((j, v) :: s) j = some v := by simp [valV]
      rw [h1, h2]
      exact ⟨v, rfl, hv⟩
    · have h1 : getK ((j, d) :: r) k = getK r k := by simp [getK, List.find?_cons, e]
      have h2 : valV ((j, v) :: s) k = valV s k := by simp [valV, List.find?_cons, e]
      rw [h1, h2]
      exact repKV_get t
theorem repKV_any {k : κ} : ∀ {kvs : List (κ × D)} {ps : List (κ × V)}, RepKV K μ G kvs ps → (kvs.any fun p => decide (p.1 = k)) = ps.any fun p => decide (p.1 = k)
  | [], ps, h => by
    have : ps = [] := h
    subst this
    rfl
  | (j, d) :: r, ps, h => by
    obtain ⟨v, s, rfl, hv, t⟩ := h
    rw [List.any_cons, List.any_cons, repKV_any t]
theorem repKV_append : ∀ {kvs kvs' : List (κ × D)} {ps ps' : List (κ × V)}, RepKV K μ G kvs ps → RepKV K μ G kvs' ps' → RepKV K μ G (kvs ++ kvs') (ps ++ ps')
  | [], _, ps, _, h, h' => by
    have : ps = [] := h
    subst this
    exact h'
  | (j, d) :: r, _, ps, _, h, h' => by
    obtain ⟨v, s, rfl, hv, t⟩ := h
    exact ⟨v, s ++ _, rfl, hv, repKV_append t h'⟩
theorem repKV_map {k : κ} {d : D} {v : V} (hd : Rep K μ G d v) : ∀ {kvs : List (κ × D)} {ps : List (κ × V)}, RepKV K μ G kvs ps → RepKV K μ G (kvs.map fun p => if p.1 = k then (p.1, d) else p) (ps.map fun p => if p.1 = k then (p.1, v) else p)
  | [], ps, h => by
    have : ps = [] := h
    subst this
    rfl
  | (j, e) :: r, ps, h => by
    obtain ⟨w, s, rfl, hw, t⟩ := h
    have ih := repKV_map (k := k) hd t
    by_cases e' : j = k
    · subst e'
      have h1 : (List.map (fun p => if p.1 = j then (p.1, d) else p) ((j, e) :: r)) = (j, d) :: r.map fun p => if p.1 = j then (p.1, d) else p := by simp
      have h2 : (List.map (fun p => if p.1 = j then (p.1, v) else p) ((j, w) :: s)) = (j, v) :: s.map fun p => if p.1 = j then (p.1, v) else p := by simp
      rw [h1, h2]
      exact ⟨v, _, rfl, hd, ih⟩
    · have h1 : (List.map (fun p => if p.1 = k then (p.1, d) else p) ((j, e) :: r)) = (j, e) :: r.map fun p => if p.1 = k then (p.1, d) else p := by simp [e']
      have h2 : (List.map (fun p => if p.1 = k then (p.1, v) else p) ((j, w) :: s)) = (j, w) :: s.map fun p => if p.1 = k then (p.1, v) else p := by simp [e']
      rw [h1, h2]
      exact ⟨w, _, rfl, hw, ih⟩
theorem repKV_put {k : κ} {d : D} {v : V} (hd : Rep K μ G d v) {kvs : List (κ × D)} {ps : List (κ × V)} (h : RepKV K μ G kvs ps) : RepKV K μ G (setK kvs k d) (putK ps k v) := by
  unfold setK putK
  rw [repKV_any h]
  split
  · exact repKV_map hd h
  · exact repKV_append h ⟨v, [], rfl, hd, rfl⟩
end
/-- what x holds at the key y, x a dict -/
def dGet (st : Store) (x y : D) : Option (Option D) := match x with
  | .loc n => match cell st n with
    | some (.dct kvs) => (keyK y).map fun k => getK kvs k
    | _ => none
  | _ => none
section
variable {X : Cx} {K : PySem.W.Frag} {mg : Str → Option Value} {μ : List Addr} {G F : Hp} {st : Store} {H : Hp} {x y : D} {v w : V} {o : Option D}
theorem dGet_rep (k : Kn K mg μ G F st H) (rx : Rep K μ G x v) (ry : Rep K μ G y w) (e : dGet st x y = some o) : ∃ a o', v = .ref a ∧ DGet H a w o' ∧ relO K μ G o o' := by
  unfold dGet at e
  split at e
  · rename_i n
    split at e
    · rename_i kvs hc
      obtain ⟨a, ps, rfl, _, hs, rp⟩ := dct_rep k rx hc
      cases hk : keyK y with
      | none => rw [hk] at e; cases e
      | some q =>
        rw [hk] at e
        injection e with e
        subst e
        rw [keyK_rep ry hk]
        exact ⟨a, _, rfl, .k hs, repKV_get rp⟩
    · cases e
  · cases e
end
/-- o[i] of a sequence or a dict -/
def ixA (x y : D) (st : Store) : Re D := match dGet st x y with
  | some (some d) => .ok d st
  | some none => .bad
  | none => ixD x y st
def rIxDct : R2 := fun x y H Q => ∃ a v, x = .ref a ∧ DGet H a y (some v) ∧ Q v H
abbrev rIxA (K : PySem.W.Frag) : R2 := fun x y H Q => rIxDct x y H Q ∨ rIx K x y H Q
section
variable {X : Cx} {K : PySem.W.Frag} {mg : Str → Option Value}
theorem ix_dct (hu : X.A.units + 1 < cLine) : IxR X rIxDct := by
  intro value slice pins s σ H x y v u Q I rx ry h hs
  obtain ⟨a, z, rfl, g, q⟩ := h
  obtain rfl : v = Value.ref a := rx
  exact PyProof.Rows.tail_any (dict_typeIs I g) PySem.F.slot_dict_getitem.lookup (d_getItem hu I g ry fun w' s3 I3 rw' => ⟨z, H, I3, rw', q⟩) hs
theorem ix_a (hu : X.A.units + 1 < cLine) : IxR X (rIxA X.K) := (ix_dct hu).or ix_seq
theorem s_ixA : S2 K mg ixA (rIxA K) := by
  intro W σ μ G F st H x y v w Q k rx ry h
  unfold ixA at h
  split at h
  · rename_i d e
    obtain ⟨a, o', rfl, g, ro⟩ := dGet_rep k rx ry e
    obtain ⟨z, rfl, rz⟩ := ro
    exact .inl ⟨a, z, rfl, g, fin_here k h rz⟩
  · exact h.elim
  · exact .inr (s_ix W σ μ G F st H x y v w Q k rx ry h)
end
section
variable {X : Cx} {W : WX} {a b c : Expr} {ma mb mc : EM} {pos : Pos}
theorem m_ixA (hu : X.A.units + 1 < cLine) (ha : ME X W a ma) (hb : ME X W b mb) (hs : PlainIx b := by exact fun _ _ => rfl) : ME X W (.Subscript a b pos) (e2 ixA ma mb) := (pe_ix (ix_a hu) ha hb hs).of (two_of s_ixA ha hb)
end
/-- y in x -/
def inA (neg : Bool) (f : D → D → Store → Re D) (y x : D) (st : Store) : Re D := match dGet st x y with
  | some o => .ok (.bl (if neg then !o.isSome else o.isSome)) st
  | none => f y x st
def rInDct (neg : Bool) : R2 := fun y x H Q => ∃ a o, x = .ref a ∧ DGet H a y o ∧ Q (.bl (if neg then !o.isSome else o.isSome)) H
section
variable {X : Cx} {K : PySem.W.Frag} {mg : Str → Option Value}
theorem op_inDct (hu : X.A.units + 1 < cLine) : OpR X (compareOp .In) (rInDct false) := by
  intro pins s σ H x y v u Q I rx ry h
  obtain ⟨a, o, rfl, g, q⟩ := h
  obtain rfl : u = Value.ref a := ry
  exact d_in hu I g rx fun s3 I3 => ⟨.bl o.isSome, H, I3, rfl, q⟩
theorem op_ninDct (hu : X.A.units + 1 < cLine) : OpR X (compareOp .NotIn) (rInDct true) := by
  intro pins s σ H x y v u Q I rx ry h
  obtain ⟨a, o, rfl, g, q⟩ := h
  obtain rfl : u = Value.ref a := ry
  exact d_notIn hu I g rx fun s3 I3 => ⟨.bl (!o.isSome), H, I3, rfl, q⟩
theorem units1 (hu : X.A.units + 65 < cLine) : X.A.units + 1 < cLine := by omega
theorem or_inA (hu : X.A.units + 65 < cLine) : OpR X (compareOp .In) (fun x y H Q => rInDct false x y H Q ∨ rInB X.K false x y H Q) := OpR.or (r := rInDct false) (op_inDct (units1 hu)) (or_in hu)
theorem or_ninA (hu : X.A.units + 65 < cLine) : OpR X (compareOp .NotIn) (fun x y H Q => rInDct true x y H Q ∨ rInB X.K true x y H Q) := OpR.or (r := rInDct true) (op_ninDct (units1 hu)) (or_nin hu)
theorem relO_isSome {μ : List Addr} {G : Hp} {o : Option D} {o' : Option V} (r : relO K μ G o o') : o'.isSome = o.isSome := by
  cases o with
  | none => have : o' = none := r; rw [this]; rfl
  | some d => obtain ⟨v, rfl, _⟩ := r; rfl
theorem s_inA {neg : Bool} {f : D → D → Store → Re D} {r : R2} (hf : S2 K mg f r) : S2 K mg (inA neg f) (fun x y H Q => rInDct neg x y H Q ∨ r x y H Q) := by
  intro W σ μ G F st H x y v w Q k rx ry h
  unfold inA at h
  split at h
  · rename_i o e
    obtain ⟨a, o', rfl, g, ro⟩ := dGet_rep k ry rx e
    refine .inl ⟨a, o', rfl, g, ?_⟩
    rw [relO_isSome ro]
    exact fin_here k h .bl
  · exact .inr (hf W σ μ G F st H x y v w Q k rx ry h)
end
/-! ### d[k] = v -/
def setA : SD := fun x y z st => match x with
  | .loc n => match cell st n with
    | some (.dct kvs) => (keyK y).bind fun k => if room (kvs.length + 1) then some (st.set n (some (.dct (setK kvs k z)))) else none
    | _ => setD x y z st
  | _ => setD x y z st
def rSetA : TSet := fun o i v H Q => rSetD o i v H Q ∨ rSetL o i v H Q
section
variable {X : Cx} {K : PySem.W.Frag} {mg : Str → Option Value}
theorem set_a (hu : X.A.units + 1 < cLine) : PSet X rSetA := by
  intro pins s σ H o i v ov iv u Q I ro ri rv h
  rcases h with h | h
  · exact set_dict hu pins s σ H o i v ov iv u Q I ro ri rv h
  · exact set_list pins s σ H o i v ov iv u Q I ro ri rv h
theorem s_setA : SSet K mg setA rSetA := by
  intro μ G F st st' H x y z v w u Q k rx ry rz e q
  unfold setA at e
  split at e
  · rename_i n
    split at e
    · rename_i kvs hc
      obtain ⟨a, ps, rfl, ha, hs, rp⟩ := dct_rep k rx hc
      cases hk : keyK y with
      | none => rw [hk] at e; cases e
      | some j =>
        rw [hk] at e
        have e' : (if room (kvs.length + 1) then some (st.set n (some (.dct (setK kvs j z)))) else none) = some st' := e
        split at e'
        · rename_i hr
          injection e' with e3
          subst e3
          rw [keyK_rep ry hk]
          refine .inl ⟨a, _, rfl, .k hs (by rw [repKV_length rp]; exact room_lt (by omega)), q _ (k.write (cell_some hc) ha ⟨_, rfl, repKV_put rz rp⟩)⟩
        · cases e'
    · exact .inr (s_setL μ G F st st' H _ y z v w u Q k rx ry rz e q)
  · exact .inr (s_setL μ G F st st' H _ y z v w u Q k rx ry rz e q)
end
/-! ### displays -/
abbrev EPs := Vars → Store → Re (List (D × D))
def pNil : EPs := fun _ st => .ok [] st
def pCons (k v : EM) (r : EPs) : EPs := fun vs st => (k vs st).bind fun x st => (v vs st).bind fun y st => (r vs st).bind fun ps st => .ok ((x, y) :: ps) st
def keysK : List (D × D) → Option (List (Key × D))
  | [] => some []
  | (k, d) :: r => (keyK k).bind fun k => (keysK r).map fun r => (k, d) :: r
def mergeD (kvs more : List (Key × D)) : List (Key × D) := more.foldl (fun acc kv => setK acc kv.1 kv.2) kvs
def eDsp (ps : EPs) : EM := fun vs st => (ps vs st).bind fun ps st => match keysK ps with
  | some kvs => .ok (.loc st.length) (st ++ [some (.dct (mergeD [] kvs))])
  | none => .bad
def RepPs (K : PySem.W.Frag) (μ : List Addr) (G : Hp) : List (D × D) → List (V × V) → Prop
  | [], ws => ws = []
  | (k, d) :: r, ws => ∃ x y t, ws = (x, y) :: t ∧ Rep K μ G k x ∧ Rep K μ G d y ∧ RepPs K μ G r t
theorem RepPs.fut {K : PySem.W.Frag} {μ μ' : List Addr} {G G' : Hp} (f : Fut μ G μ' G') : ∀ {l : List (D × D)} {ws : List (V × V)}, RepPs K μ G l ws → RepPs K μ' G' l ws
  | [], _, h => h
  | (k, d) :: r, ws, h => by
    obtain ⟨x, y, t, e, h1, h2, h3⟩ := h
    exact ⟨x, y, t, e, h1.fut f, h2.fut f, RepPs.fut f h3⟩
abbrev tPs (K : PySem.W.Frag) (mg : Str → Option Value) (W : WX) (m : EPs) : L2.St → Hp → (List (V × V) → Hp → Prop) → Prop := fun σ H Q => ∃ vs st μ G F, RepE K μ G vs σ ∧ Kn K mg μ G F st H ∧ Done K mg W σ μ G F (m vs st) fun μ' G' ps _ H' => ∀ ws, RepPs K μ' G' ps ws → Q ws H'
/-- the pairs of a display -/
structure MPs (X : Cx) (W : WX) (pos : Pos) (keys : List (Option Expr)) (values : List Expr) (m : EPs) : Prop where
  ex : ∃ trs, PPs X pos keys values trs ∧ ∀ σ H Q, tPs X.K X.mg W m σ H Q → tPairs trs σ H Q
section
variable {X : Cx} {W : WX} {pos : Pos} {k v : Expr} {ks : List (Option Expr)} {vs : List Expr} {mk mv : EM} {mr : EPs}
theorem mp_nil : MPs X W pos [] [] pNil := ⟨[], pps_nil, fun σ H Q h => by
  obtain ⟨vs, st, μ, G, F, re, k, h⟩ := h
  exact Done.here k h [] rfl⟩
theorem mp_cons (hk : ME X W k mk) (hv : ME X W v mv) (hr : MPs X W pos ks vs mr) : MPs X W pos (some k :: ks) (v :: vs) (pCons mk mv mr) := by
  obtain ⟨trs, h1, h2⟩ := hr.ex
  refine ⟨_, pps_cons hk hv h1, fun σ H Q h => ?_⟩
  obtain ⟨vs, st, μ, G, F, re, kn, h⟩ := h
  refine ⟨vs, st, μ, G, F, re, kn, (Done.bind h).mono fun μ1 G1 x st1 H1 f1 k1 q1 u ru => ?_⟩
  refine ⟨vs, st1, μ1, G1, F, re.fut f1, k1, (Done.bind q1).mono fun μ2 G2 y st2 H2 f2 k2 q2 w rw' => ?_⟩
  refine h2 σ H2 _ ⟨vs, st2, μ2, G2, F, (re.fut f1).fut f2, k2, (Done.bind q2).mono fun μ3 G3 ps st3 H3 f3 k3 q3 ws rws => ?_⟩
  exact Done.here k3 q3 _ ⟨u, w, ws, rfl, (ru.fut f2).fut f3, rw'.fut f3, rws⟩
theorem keys_rep {K : PySem.W.Frag} {μ : List Addr} {G : Hp} : ∀ {ps : List (D × D)} {ws : List (V × V)} {kvs : List (Key × D)}, RepPs K μ G ps ws → keysK ps = some kvs → ∃ qs : List (Key × V), ws = qs.map (fun kv => (kV kv.1, kv.2)) ∧ RepKV K μ G kvs qs
  | [], ws, kvs, h, e => by
    have : ws = [] := h
    subst this
    injection e with e
    subst e
    exact ⟨[], rfl, rfl⟩
  | (k, d) :: r, ws, kvs, h, e => by
    obtain ⟨x, y, t, rfl, h1, h2, h3⟩ := h
    unfold keysK at e
    cases hk : keyK k with
    | none => rw [hk] at e; cases e
    | some q =>
      rw [hk] at e
      have e' : ((keysK r).map fun r => (q, d) :: r) = some kvs := e
      cases hr : keysK r with
      | none => rw [hr] at e'; cases e'
      | some rs =>
        rw [hr] at e'
        injection e' with e'
        subst e'
        obtain ⟨qs, rfl, rq⟩ := keys_rep h3 hr
        exact ⟨(q, y) :: qs, by rw [keyK_rep h1 hk]; rfl, ⟨y, qs, rfl, h2, rq⟩⟩
theorem repKV_merge {K : PySem.W.Frag} {μ : List Addr} {G : Hp} : ∀ {more : List (Key × D)} {ms : List (Key × V)} {kvs : List (Key × D)} {ps : List (Key × V)}, RepKV K μ G more ms → RepKV K μ G kvs ps → RepKV K μ G (mergeD kvs more) (mergeK ps ms)
  | [], ms, kvs, ps, h, h' => by
    have : ms = [] := h
    subst this
    exact h'
  | (k, d) :: r, ms, kvs, ps, h, h' => by
    obtain ⟨v, s, rfl, hv, t⟩ := h
    have := repKV_merge t (repKV_put (k := k) hv h')
    exact this
theorem keysK_length : ∀ {ps : List (D × D)} {kvs : List (Key × D)}, keysK ps = some kvs → kvs.length = ps.length
  | [], kvs, e => by injection e with e; subst e; rfl
  | (k, d) :: r, kvs, e => by
    unfold keysK at e
    cases hk : keyK k with
    | none => rw [hk] at e; cases e
    | some q =>
      rw [hk] at e
      have e' : ((keysK r).map fun r => (q, d) :: r) = some kvs := e
      cases hr : keysK r with
      | none => rw [hr] at e'; cases e'
      | some rs =>
        rw [hr] at e'
        injection e' with e'
        subst e'
        rw [List.length_cons, List.length_cons, keysK_length hr]
theorem repPs_length {K : PySem.W.Frag} {μ : List Addr} {G : Hp} : ∀ {ps : List (D × D)} {ws : List (V × V)}, RepPs K μ G ps ws → ws.length = ps.length
  | [], ws, h => by
    have : ws = [] := h
    subst this
    rfl
  | (k, d) :: r, ws, h => by
    obtain ⟨x, y, t, rfl, _, _, h3⟩ := h
    rw [List.length_cons, List.length_cons, repPs_length h3]
end
/-- as many pairs as are written -/
def PLen (m : EPs) (n : Nat) : Prop := ∀ vs st ps st', m vs st = .ok ps st' → ps.length = n
theorem plen_nil : PLen pNil 0 := fun _ _ _ _ h => by injection h with h _; subst h; rfl
theorem plen_cons {k v : EM} {r : EPs} {n : Nat} (h : PLen r n) : PLen (pCons k v r) (n + 1) := by
  intro vs st ps st' e
  unfold pCons at e
  cases h1 : k vs st with
  | bad => rw [h1] at e; cases e
  | exc _ _ => rw [h1] at e; cases e
  | ok x s1 =>
    rw [h1] at e
    simp only [Re.bind] at e
    cases h2 : v vs s1 with
    | bad => rw [h2] at e; cases e
    | exc _ _ => rw [h2] at e; cases e
    | ok y s2 =>
      rw [h2] at e
      simp only [Re.bind] at e
      cases h3 : r vs s2 with
      | bad => rw [h3] at e; cases e
      | exc _ _ => rw [h3] at e; cases e
      | ok qs s3 =>
        rw [h3] at e
        simp only [Re.bind] at e
        injection e with e _
        subst e
        rw [List.length_cons, h _ _ _ _ h3]
section
variable {X : Cx} {W : WX} {pos : Pos} {keys : List (Option Expr)} {values : List Expr} {m : EPs} {n : Nat}
theorem m_dsp (h : MPs X W pos keys values m) (hn : PLen m n := by repeat (first | exact plen_nil | refine plen_cons ?_)) (h15 : n ≤ 15 := by decide) (hall : keys.all (·.isSome) = true := by rfl) (hl : keys.length = values.length := by rfl) (h0 : keys ≠ [] := by exact fun z => nomatch z) (hk15 : keys.length ≤ 15 := by decide) :
    ME X W (.Dict keys values pos) (eDsp m) := by
  obtain ⟨trs, h1, h2⟩ := h.ex
  refine (pe_disp h1 hall hl h0 hk15).of fun σ H Q q p hp => ?_
  obtain ⟨vs, st, μ, G, F, re, k, q⟩ := q
  have fp : F p = none := k.fr.free hp
  refine h2 σ _ _ ⟨vs, st, μ, G, upd F p (.dK []), re, k.guard hp, ?_⟩
  unfold eDsp at q
  cases hd : m vs st with
  | bad => rw [hd] at q; exact q.elim
  | exc e st1 =>
    rw [hd] at q
    intro μ1 G1 H1 cls dd f1 k1 rx
    exact q μ1 G1 H1 cls dd f1 (k1.unguard fp) rx
  | ok ps st1 =>
    rw [hd] at q
    intro μ1 G1 H1 f1 k1 ws rws
    refine ⟨k1.gat, ?_⟩
    have q1 : Done X.K X.mg W σ μ1 G1 F (match keysK ps with | some kvs => .ok (.loc st1.length) (st1 ++ [some (.dct (mergeD [] kvs))]) | none => .bad) (Fin X.K Q) := Done.fut f1 q
    cases hk : keysK ps with
    | none => rw [hk] at q1; exact q1.elim
    | some kvs =>
      rw [hk] at q1
      obtain ⟨qs, rfl, rq⟩ := keys_rep rws hk
      have e1 : ps.length = n := hn _ _ _ _ hd
      have e2 := repKV_length rq
      have e3 := keysK_length hk
      refine ⟨qs, rfl, by omega, ?_⟩
      have k2 := (k1.reguard (o' := .dK (mergeK [] qs))).place (ob := .dct (mergeD [] kvs)) fp ⟨_, rfl, repKV_merge rq rfl⟩
      refine q1 (μ1 ++ [p]) G1 _ ⟨⟨[p], rfl⟩, .refl G1⟩ k2 _ (.loc ?_)
      rw [← k1.len, List.getElem?_append_right (Nat.le_refl _), Nat.sub_self]
      rfl
/-- {} -/
def eDnw : EM := fun _ st => .ok (.loc st.length) (st ++ [some (.dct [])])
theorem m_dnw : ME X W (.Dict [] [] pos) eDnw := pe_dnewK.of fun σ H Q h p hp => by
  obtain ⟨vs, st, μ, G, F, re, k, h⟩ := h
  refine h (μ ++ [p]) G _ ⟨⟨[p], rfl⟩, .refl G⟩ (k.alloc hp ⟨_, rfl, rfl⟩) _ (.loc ?_)
  rw [← k.len, List.getElem?_append_right (Nat.le_refl _), Nat.sub_self]
  rfl
end
/-! ### d.get -/
def isDct (st : Store) : D → Bool
  | .loc n => match cell st n with
    | some (.dct _) => true
    | _ => false
  | _ => false
def eGet1 (o a : EM) : EM := fun vs st => (o vs st).bind fun x st => if isDct st x = true then (a vs st).bind fun y st => match dGet st x y with
  | some o => .ok (o.getD .non) st
  | none => .bad else .bad
def eGet2 (o a b : EM) : EM := fun vs st => (o vs st).bind fun x st => if isDct st x = true then (a vs st).bind fun y st => (b vs st).bind fun z st => match dGet st x y with
  | some o => .ok (o.getD z) st
  | none => .bad else .bad
section
variable {X : Cx} {W : WX} {o e f : Expr} {apos cpos : Pos} {mo me mf : EM}
theorem isDct_rep {K : PySem.W.Frag} {mg : Str → Option Value} {μ : List Addr} {G F : Hp} {st : Store} {H : Hp} {x : D} {v : V} (k : Kn K mg μ G F st H) (r : Rep K μ G x v) (h : isDct st x = true) : ∃ a, v = .ref a ∧ IsD H a := by
  cases x with
  | loc n =>
    unfold isDct at h
    simp only at h
    split at h
    · rename_i kvs hc
      obtain ⟨a, ps, rfl, _, hs, _⟩ := dct_rep k r hc
      exact ⟨a, rfl, .inl ⟨ps, .of hs⟩⟩
    · cases h
  | _ => cases h
theorem relO_getD {K : PySem.W.Frag} {μ : List Addr} {G : Hp} {o : Option D} {o' : Option V} {d : D} {z : V} (r : relO K μ G o o') (rd : Rep K μ G d z) : Rep K μ G (o.getD d) (o'.getD z) := by
  cases o with
  | none => have : o' = none := r; rw [this]; exact rd
  | some d => obtain ⟨v, rfl, h⟩ := r; exact h
theorem m_get1 (hu : X.A.units + 1 < cLine) (ho : ME X W o mo) (he : ME X W e me) (m : M1 X o "get" apos e cpos := by exact ⟨rfl, rfl, rfl, rfl⟩) : ME X W (.Call (.Attribute o "get" apos) [e] [] cpos) (eGet1 mo me) := (pe_dget1 hu ho he m).of fun σ H Q h => by
  obtain ⟨vs, st, μ, G, F, re, k, h⟩ := h
  refine ⟨vs, st, μ, G, F, re, k, (Done.bind h).mono fun μ1 G1 x st1 H1 f1 k1 h1 v rv => ?_⟩
  obtain ⟨hd, h1⟩ := ite_done h1
  obtain ⟨a, rfl, isd⟩ := isDct_rep k1 rv hd
  refine ⟨a, rfl, isd, vs, st1, μ1, G1, F, re.fut f1, k1, (Done.bind h1).mono fun μ2 G2 y st2 H2 f2 k2 h2 w rw' => ?_⟩
  split at h2
  · rename_i o e
    obtain ⟨a', o', e', g, ro⟩ := dGet_rep k2 (rv.fut f2) rw' e
    cases e'
    exact ⟨o', g, fin_here k2 h2 (relO_getD ro .non)⟩
  · exact h2.elim
theorem m_get2 (hu : X.A.units + 1 < cLine) (ho : ME X W o mo) (he : ME X W e me) (hf : ME X W f mf) (m : M2 X o "get" apos e f cpos := by exact ⟨rfl, rfl, rfl, rfl⟩) : ME X W (.Call (.Attribute o "get" apos) [e, f] [] cpos) (eGet2 mo me mf) := (pe_dget2 hu ho he hf m).of fun σ H Q h => by
  obtain ⟨vs, st, μ, G, F, re, k, h⟩ := h
  refine ⟨vs, st, μ, G, F, re, k, (Done.bind h).mono fun μ1 G1 x st1 H1 f1 k1 h1 v rv => ?_⟩
  obtain ⟨hd, h1⟩ := ite_done h1
  obtain ⟨a, rfl, isd⟩ := isDct_rep k1 rv hd
  refine ⟨a, rfl, isd, vs, st1, μ1, G1, F, re.fut f1, k1, (Done.bind h1).mono fun μ2 G2 y st2 H2 f2 k2 h2 w rw' => ?_⟩
  refine ⟨vs, st2, μ2, G2, F, (re.fut f1).fut f2, k2, (Done.bind h2).mono fun μ3 G3 z st3 H3 f3 k3 h3 u ru => ?_⟩
  split at h3
  · rename_i o e
    obtain ⟨a', o', e', g, ro⟩ := dGet_rep k3 ((rv.fut f2).fut f3) (rw'.fut f3) e
    cases e'
    exact ⟨o', g, fin_here k3 h3 (relO_getD ro ru)⟩
  · exact h3.elim
end
end Dn
namespace Dn
open PySem PySem.Spec PyProof.Rows L2

/-! ### l.index(x) -/
def idxB (x : D) : List D → Nat → Option Nat
  | [], _ => none
  | y :: r, j => if eqvD y x = true then some j else idxB x r (j + 1)
def indexD (x : D) (xs : List D) (st : Store) : Re D := match xs with
  | [y] => opt (lstOf st x) fun ds => if okd 60 y = true ∧ ds.all (okd 59) = true then opt (idxB y ds 0) fun j => .ok (.int (j : Nat)) st else .bad
  | _ => .bad
theorem idxB_some {x : D} : ∀ {ds : List D} {j n : Nat}, idxB x ds n = some j → n ≤ j ∧ (∃ z, ds[j - n]? = some z ∧ eqvD z x = true) ∧ ∀ (m : Nat) (z' : D), m < j - n → ds[m]? = some z' → eqvD z' x = false
  | [], _, _, h => by cases h
  | y :: r, j, n, h => by
    unfold idxB at h
    split at h
    · rename_i e
      injection h with h
      subst h
      refine ⟨Nat.le_refl _, ⟨y, by rw [Nat.sub_self]; rfl, e⟩, fun m z' hm _ => ?_⟩
      rw [Nat.sub_self] at hm
      exact absurd hm (Nat.not_lt_zero _)
    · rename_i e
      obtain ⟨h1, ⟨z, hz, ez⟩, h3⟩ := idxB_some h
      have e1 : j - n = (j - (n + 1)) + 1 := by omega
      refine ⟨by omega, ⟨z, by rw [e1]; exact hz, ez⟩, fun m z' hm hz' => ?_⟩
      cases m with
      | zero =>
        have e2 : y = z' := by simpa using hz'
        rw [← e2]
        exact Bool.eq_false_iff.mpr e
      | succ m => exact h3 m z' (by omega) (by simpa using hz')
theorem pds_get (ds : List D) (i : Nat) : (pds ds)[i]? = (ds[i]?).map pd := by rw [pds_map, List.getElem?_map]
section
variable {X : Cx} {K : PySem.W.Frag} {mg : Str → Option Value}
theorem lst_dp {μ : List Addr} {G F : Hp} {st : Store} {H : Hp} {x : D} {v : V} {ds : List D} (k : Kn K mg μ G F st H) (r : Rep K μ G x v) (e : lstOf st x = some ds) (h : ds.all (okd 59) = true) : ∃ a, v = .ref a ∧ Dp K H (.ref a) (.list (pds ds)) := by
  obtain ⟨a, vs, rfl, hs, rs⟩ := lstOf_rep k r e
  exact ⟨a, rfl, .lst (.of hs) (reps_dps k.ex 59 ds vs h rs)⟩
theorem shaped_lst {ds : List D} (h : ds.all (okd 59) = true) : SeqAt.shaped (.list (pds ds)) = true := okd_shaped (d := .lst ds) (by simpa [okd] using h)
theorem s_index : SM2 K mg indexD (rIndexD K) := by
  intro W σ μ G F st H x v xs vs Q k rv rs h
  unfold indexD at h
  split at h
  · rename_i y
    obtain ⟨ds, e, h⟩ := opt_done h
    obtain ⟨⟨h1, h2⟩, h⟩ := ite_done h
    obtain ⟨j, ej, h⟩ := opt_done h
    obtain ⟨w, rfl, rw'⟩ := reps_one rs
    obtain ⟨a, rfl, hd⟩ := lst_dp k rv e h2
    obtain ⟨_, ⟨z, hz, ez⟩, hno⟩ := idxB_some ej
    rw [Nat.sub_zero] at hz hno
    refine ⟨a, w, pd y, pds ds, j, pd z, rfl, rfl, hd, rep_dp k.ex 60 y w h1 rw', shaped_lst h2, okd_shaped h1, by rw [pds_get, hz]; rfl, ez, fun m z' hm hz' => ?_, fin_here k h .int⟩
    rw [pds_get] at hz'
    cases e2 : ds[m]? with
    | none => rw [e2] at hz'; cases hz'
    | some z2 =>
      rw [e2] at hz'
      have e3 : pd z2 = z' := by simpa using hz'
      rw [← e3]
      exact hno m z2 hm e2
  · exact h.elim
end
/-- T.index(x), T a module's tuple of texts -/
def eIxT (zs : List Str) (a : EMs) : EM := fun vs st => (a vs st).bind fun xs st => match xs with
  | [.str z] => if z ∈ zs then .ok (.int (zs.idxOf z : Nat)) st else .bad
  | _ => .bad
/-- a module's tuple of texts -/
structure CstT (K : PySem.W.Frag) (mg : Str → Option Value) (x : Str) (zs : List Str) : Prop where
  ex : ∃ a o, mg x = some (.ref a) ∧ K.lookup a = some o ∧ o.cls = .type "tuple" ∧ o.dict = none ∧ ∀ H, SqT K H a (zs.map V.str)
theorem idx_first {z : Str} : ∀ {zs : List Str}, z ∈ zs → zs[zs.idxOf z]? = some z ∧ ∀ m, m < zs.idxOf z → zs[m]? ≠ some z := by
  intro zs hz
  have hl := List.idxOf_lt_length_of_mem hz
  refine ⟨by rw [List.getElem?_eq_getElem hl, List.getElem_idxOf hl], fun m hm e => ?_⟩
  obtain ⟨hm2, e2⟩ := List.getElem?_eq_some_iff.mp e
  have := List.not_of_lt_findIdx (p := (· == z)) (xs := zs) (i := m) (by simpa [List.idxOf] using hm)
  rw [e2] at this
  simp at this
section
variable {X : Cx} {W : WX} {e : Expr} {ms : EMs} {x : Str} {zs : List Str} {p apos cpos : Pos}
theorem m_ixT (c : CstT X.K X.mg x zs) (ha : MA X W [e] ms) (hg : Gl X x := by rfl) (hd : (x == ("__debug__" : Str)) = false := by decide)
    (hbase : attributeBase (.Name x p) "index" X.env (eval (.Name x p) X.env) = eval (.Name x p) X.env := by rfl)
    (hfew : ((backTo cpos (starEach [e] X.env)).all (fun x => !x.1) && (backToKw cpos (keywordEach [] X.env)).all (fun x => x.1.isSome)
      && decide (([e] : List Expr).length + ([] : List Keyword).length + (if ([] : List Keyword).isEmpty then 0 else 1) < 30)) = true := by rfl)
    (hline : (apos.endLine == cpos.line) = true := by rfl) (hst : starEach [e] X.env = (false, eval e X.env) :: starEach [] X.env := by rfl) (hplain : (backTo cpos (starEach [] X.env)).any (·.1) = false := by rfl) :
    ME X W (.Call (.Attribute (.Name x p) "index" apos) [e] [] cpos) (eIxT zs ms) := by
  obtain ⟨a, o, h1, h2, h3, h4, h5⟩ := c.ex
  refine (pe_bm PySem.F.plainAttrs_tuple PySem.F.slot_tuple_index (by rfl) mt_tup_index (pe_glob hg h1 (show RelV (V.ref a) (Value.ref a) from rfl) hd) ha hbase hfew hline hst hplain).of fun σ H Q h => ?_
  obtain ⟨vs, st, μ, G, F, re, k, h⟩ := h
  refine ⟨.inr (.inl ⟨rfl, o, h2, h3, h4⟩), vs, st, μ, G, F, re, k, (Done.bind h).mono fun μ1 G1 xs st1 H1 f1 k1 q1 ws rws => ?_⟩
  split at q1
  · rename_i z
    obtain ⟨hz, q1⟩ := ite_done q1
    obtain ⟨v, rfl, rv⟩ := reps_one rws
    rw [rep_str rv]
    obtain ⟨i1, i2⟩ := idx_first hz
    exact ⟨a, zs, z, zs.idxOf z, rfl, rfl, h5 H1, i1, i2, fin_here k1 q1 .int⟩
  · exact q1.elim
end
/-! ### calls of defs, in one piece -/
/-- a def of the module -/
def Cal (P : Program) (w : World) (K : PySem.W.Frag) (mg : Str → Option Value) (base : Heap) (x : Str) (k : Nat) (ps : List Str) (m : FnD) : Prop :=
  ∃ fa fd, FnM P w K mg base k fa fd ps m ∧ mg x = some (.ref fa) ∧ PySem.W.keepIn K (.ref fa) = true ∧ Binds K fd ps []
theorem Cal.mono {P : Program} {w : World} {K : PySem.W.Frag} {mg : Str → Option Value} {base : Heap} {x : Str} {j k : Nat} {ps : List Str} {m : FnD} (c : Cal P w K mg base x j ps m) (h : j ≤ k) : Cal P w K mg base x k ps m := by
  obtain ⟨fa, fd, h1, h2, h3, h4⟩ := c
  exact ⟨fa, fd, h1.mono h, h2, h3, h4⟩
section
variable {X : Cx} {W : WX} {e : Expr} {es : List Expr} {ms : EMs} {x : Str} {ps : List Str} {k : Nat} {m : FnD} {p pos : Pos}
theorem m_cal (c : Cal X.prog X.w X.K X.mg X.base x k ps m) (hr : Room k X.A) (tk : Takes X W) (ha : MA X W (e :: es) ms) (hms : ALen ms ps.length := by repeat constructor) (hg : Gl X x := by rfl) (hdb : (x == ("__debug__" : Str)) = false := by decide)
    (he : starEach (e :: es) X.env = (false, eval e X.env) :: starEach es X.env := by rfl) (hpl : (backTo pos (starEach es X.env)).any (·.1) = false := by rfl) : ME X W (.Call (.Name x p) (e :: es) [] pos) (eN m ms) := by
  obtain ⟨fa, fd, h1, h2, h3, h4⟩ := c
  exact m_call h1 hr h2 h3 h4 tk ha hms hg hdb he hpl
end
theorem tk0 {X : Cx} : Takes X W0 := fun _ _ x => by
  obtain ⟨_, _, _, _, _, _, _, _, _, _, _, _, _, _, _, _, z⟩ := x
  exact z.elim
theorem hu65 {k : Nat} {A : Around} (r : Room k A) : A.units + 65 < cLine := by have := r.un; omega
theorem hu64 {k : Nat} {A : Around} (r : Room k A) : A.units + 64 < cLine := by have := r.un; omega
theorem hu1 {k : Nat} {A : Around} (r : Room k A) : A.units + 1 < cLine := by have := r.un; omega
/-- a def that never answers -/
theorem fnM_bad {P : Program} {w : World} {K : PySem.W.Frag} {mg : Str → Option Value} {base : Heap} {k : Nat} {fa : Addr} {fd : FuncData} {ps : List Str} : FnM P w K mg base k fa fd ps (fun _ _ => .bad) :=
  ⟨fun vs H Q E h => h.1, fun A outer s H args us vs Q E _ _ _ _ h => by
    obtain ⟨_, ds, st, μ, G, F, _, _, h⟩ := h
    exact h.elim⟩
end Dn
namespace Dn
open PySem PySem.Spec PyProof.Rows L2
theorem rv_int {i : Int} {t : Tok} : RelV (.int i) (.int i t) := ⟨t, rfl⟩
theorem rv_str {i : Str} {t : Tok} : RelV (.str i) (.str i t) := ⟨t, rfl⟩
theorem rv_non : RelV .non .none := rfl
theorem rv_bl {b : Bool} : RelV (.bl b) (.bool b) := rfl
theorem rv_ref {a : Addr} : RelV (.ref a) (.ref a) := rfl
theorem cx_false {P : Program} {w : World} {H : Hp} {s : Shared} {e : Value} {s' : Shared} (h : L2.CX P w [] H s (fun _ _ _ => False) e s') : False := by
  obtain ⟨_, _, _, _, _, _, _, _, _, _, _, _, h⟩ := h
  exact h
theorem law_start {K : PySem.W.Frag} {mg : Str → Option Value} {H : Hp} {a : Addr} {ns : List Int} {m : FnD} {st : Store} {Q : VK} {E : XK} (hs : SqL K H a (ns.map V.int)) (e : m [.frz (ns.map D.int)] [] = .ok (.bl true) st) (q : ∀ H2, Q (.bl true) H2) :
    spD K mg 1 m [.ref a] H Q E := by
  refine ⟨rfl, [.frz (ns.map D.int)], [], [], H, fun _ => none, .cons (.frz hs .ints) .nil, ⟨.refl H, fun _ _ h => (nomatch h), fun _ _ h => (nomatch h), rfl, .nil, fun n ob h => (by simp at h), fun a h => (by simp at h), fun a h => (by simp at h)⟩, ?_⟩
  rw [e]
  intro μ1 G1 H1 _ _ z rz
  rw [rep_bl rz]
  exact q H1
end Dn
namespace Dn
open PySem PySem.Spec PyProof.Rows L2

/-! ### what a denotation gives -/
def wpQ {α : Type} (r : Re α) (Q : α → Store → Prop) : Prop := match r with
  | .ok a st => Q a st
  | _ => False
structure wp {α : Type} (r : Re α) (Q : α → Store → Prop) (_ : Lk Q := Unit.unit) : Prop where
  of : wpQ r Q
/-- a statement's ways out -/
structure Po where
  n : Vars → Store → Prop
  r : D → Store → Prop
  b : Vars → Store → Prop
  c : Vars → Store → Prop
def wpSQ (r : Rs) (P : Po) : Prop := match r with
  | .nx vs st => P.n vs st
  | .ret d st => P.r d st
  | .brk vs st => P.b vs st
  | .ct vs st => P.c vs st
  | _ => False
structure wpS (r : Rs) (P : Po) (_ : Lk P := Unit.unit) : Prop where
  of : wpSQ r P
theorem wp_q {α : Type} {r : Re α} {Q : α → Store → Prop} : wp r Q = wpQ r Q := propext ⟨fun h => h.of, fun h => ⟨h⟩⟩
theorem wpS_q {r : Rs} {P : Po} : wpS r P = wpSQ r P := propext ⟨fun h => h.of, fun h => ⟨h⟩⟩
section
variable {α β : Type} {r : Re α} {Q Q' : α → Store → Prop}
theorem wp_mono (h : wp r Q) (k : ∀ a st, Q a st → Q' a st) : wp r Q' := by
  cases r with
  | ok a st => exact ⟨k a st h.of⟩
  | _ => exact ⟨h.of⟩
@[simp] theorem wp_ok {a : α} {st : Store} : wp (.ok a st) Q = Q a st := by rw [wp_q]; rfl
theorem wp_bad : wp (.bad : Re α) Q = False := by rw [wp_q]; rfl
theorem wp_exc {e : Exn} {st : Store} : wp (.exc e st : Re α) Q = False := by rw [wp_q]; rfl
@[simp] theorem wp_bind {k : α → Store → Re β} {Q : β → Store → Prop} : wp (r.bind k) Q = wp r fun a st => wp (k a st) Q := by
  cases r with
  | bad => rw [wp_bad]; exact wp_bad
  | exc e st => rw [wp_exc]; exact wp_exc
  | ok a st => rw [wp_ok]; rfl
@[simp] theorem wp_okk {k : α → Store → Re β} {Q : β → Store → Prop} : wp (r.okk k) Q = wp r fun a st => wp (k a st) Q := by
  cases r with
  | bad => rw [wp_bad]; exact wp_bad
  | exc e st => rw [wp_exc]; exact wp_bad
  | ok a st => rw [wp_ok]; rfl
@[simp] theorem bind_ok {a : α} {st : Store} {k : α → Store → Re β} : Re.bind (.ok a st) k = k a st := by rw [Re.bind.eq_def]
@[simp] theorem bind_exc {e : Exn} {st : Store} {k : α → Store → Re β} : Re.bind (.exc e st) k = .exc e st := by rw [Re.bind.eq_def]
@[simp] theorem okk_ok {a : α} {st : Store} {k : α → Store → Re β} : Re.okk (.ok a st) k = k a st := by rw [Re.okk.eq_def]
@[simp] theorem thn_ok {a : α} {st : Store} {vs : Vars} {k : α → Store → Rs} : Re.thn (.ok a st) vs k = k a st := by rw [Re.thn.eq_def]
@[simp] theorem thn_exc {e : Exn} {st : Store} {vs : Vars} {k : α → Store → Rs} : Re.thn (.exc e st : Re α) vs k = .exc e vs st := by rw [Re.thn.eq_def]
@[simp] theorem wpS_thn {vs : Vars} {k : α → Store → Rs} {P : Po} : wpS (r.thn vs k) P = wp r fun a st => wpS (k a st) P := by
  cases r with
  | bad => rw [wp_bad, wpS_q]; rfl
  | exc e st => rw [wp_exc, wpS_q]; rfl
  | ok a st => rw [wp_ok]; rfl
end
section
variable {r : Rs} {P P' : Po} {vs : Vars} {st : Store} {d : D} {b : SM}
theorem wpS_mono (h : wpS r P) (k1 : ∀ vs st, P.n vs st → P'.n vs st) (k2 : ∀ d st, P.r d st → P'.r d st) (k3 : ∀ vs st, P.b vs st → P'.b vs st) (k4 : ∀ vs st, P.c vs st → P'.c vs st) : wpS r P' := by
  cases r with
  | nx vs st => exact ⟨k1 _ _ h.of⟩
  | ret d st => exact ⟨k2 _ _ h.of⟩
  | brk vs st => exact ⟨k3 _ _ h.of⟩
  | ct vs st => exact ⟨k4 _ _ h.of⟩
  | _ => exact ⟨h.of⟩
@[simp] theorem wpS_nx : wpS (.nx vs st) P = P.n vs st := wpS_q
@[simp] theorem wpS_ret : wpS (.ret d st) P = P.r d st := wpS_q
@[simp] theorem wpS_brk : wpS (.brk vs st) P = P.b vs st := wpS_q
@[simp] theorem wpS_ct : wpS (.ct vs st) P = P.c vs st := wpS_q
theorem wpS_bad : wpS .bad P = False := wpS_q
theorem wpS_exc {e : Exn} : wpS (.exc e vs st) P = False := wpS_q
@[simp] theorem wpS_seq : wpS (r.seq b) P = wpS r { P with n := fun vs st => wpS (b vs st) P } := by
  cases r with
  | nx vs st => rw [wpS_nx]; rfl
  | bad => rw [wpS_bad]; exact wpS_bad
  | ret d st => rw [wpS_ret]; exact wpS_ret
  | brk d st => rw [wpS_brk]; exact wpS_brk
  | ct d st => rw [wpS_ct]; exact wpS_ct
  | exc e d st => rw [wpS_exc]; exact wpS_exc
@[simp] theorem seq_nx : Rs.seq (.nx vs st) b = b vs st := by rw [Rs.seq.eq_def]
@[simp] theorem seq_ret : Rs.seq (.ret d st) b = .ret d st := rfl
@[simp] theorem seq_brk : Rs.seq (.brk vs st) b = .brk vs st := rfl
@[simp] theorem seq_ct : Rs.seq (.ct vs st) b = .ct vs st := rfl
@[simp] theorem seq_exc {e : Exn} : Rs.seq (.exc e vs st) b = .exc e vs st := rfl
end
theorem wp_eq {α : Type} {r : Re α} {a : α} {st : Store} (h : wp r fun x s => x = a ∧ s = st) : r = .ok a st := by
  cases r with
  | ok x s => obtain ⟨⟨rfl, rfl⟩⟩ := h; rfl
  | _ => exact h.of.elim
theorem wp_ex {α : Type} {r : Re α} {Q : α → Store → Prop} (h : wp r Q) : ∃ a st, r = .ok a st ∧ Q a st := by
  cases r with
  | ok x s => exact ⟨x, s, rfl, h.of⟩
  | _ => exact h.of.elim

/-! ### terms -/
section
variable {vs : Vars} {st : Store} {a b c : EM} {as ms : EMs} {f g : D → D → Store → Re D} {h : D → Store → Re D} {x y : D} {i : Nat} {bb : Bool}
@[simp] theorem getV_zero {o : Option D} {r : Vars} : getV (o :: r) 0 = o := rfl
@[simp] theorem getV_succ {o : Option D} {r : Vars} {n : Nat} : getV (o :: r) (n + 1) = getV r n := rfl
@[simp] theorem eV_eq : eV i vs st = match getV vs i with | some d => .ok d st | none => .bad := rfl
@[simp] theorem eC_eq {d : D} : eC d vs st = .ok d st := rfl
@[simp] theorem e1_eq : e1 h a vs st = (a vs st).bind fun x st => h x st := rfl
@[simp] theorem e2_eq : e2 f a b vs st = (a vs st).bind fun x st => (b vs st).bind fun y st => f x y st := rfl
@[simp] theorem onB_true {t f : Re D} : onB (.bl true) t f = t := by rw [onB]
@[simp] theorem onB_false {t f : Re D} : onB (.bl false) t f = f := by rw [onB]
@[simp] theorem onS_true {t f : Rs} : onS (.bl true) t f = t := by rw [onS]
@[simp] theorem onS_false {t f : Rs} : onS (.bl false) t f = f := by rw [onS]
theorem wp_onB {t f : Re D} {Q : D → Store → Prop} : wp (onB (.bl bb) t f) Q ↔ (bb = true → wp t Q) ∧ (bb = false → wp f Q) := by cases bb <;> simp
theorem wpS_onS {t f : Rs} {P : Po} : wpS (onS (.bl bb) t f) P ↔ (bb = true → wpS t P) ∧ (bb = false → wpS f P) := by cases bb <;> simp
theorem onB_ok {u v : D} : onB (.bl bb) (.ok u st) (.ok v st) = .ok (if bb then u else v) st := by cases bb <;> rfl
@[simp] theorem eAnd_eq : eAnd a b vs st = (a vs st).bind fun x st => onB x (b vs st) (.ok (.bl false) st) := rfl
@[simp] theorem eOr_eq : eOr a b vs st = (a vs st).bind fun x st => onB x (.ok (.bl true) st) (b vs st) := rfl
@[simp] theorem eNot_eq : eNot a vs st = (a vs st).bind fun x st => onB x (.ok (.bl false) st) (.ok (.bl true) st) := rfl
@[simp] theorem not_bl : onB (.bl bb) (.ok (.bl false) st) (.ok (.bl true) st) = .ok (.bl !bb) st := by cases bb <;> rfl
@[simp] theorem and_bl {b2 : Bool} : onB (.bl bb) (.ok (.bl b2) st) (.ok (.bl false) st) = .ok (.bl (bb && b2)) st := by cases bb <;> rfl
@[simp] theorem or_bl {b2 : Bool} : onB (.bl bb) (.ok (.bl true) st) (.ok (.bl b2) st) = .ok (.bl (bb || b2)) st := by cases bb <;> rfl
@[simp] theorem eIf_eq : eIf c a b vs st = (c vs st).bind fun x st => onB x (a vs st) (b vs st) := rfl
@[simp] theorem eTru_eq : eTru a vs st = (a vs st).bind fun x st => match truthB st x with | some b => .ok (.bl b) st | none => .bad := rfl
@[simp] theorem truthB_bl : truthB st (.bl bb) = some bb := rfl
@[simp] theorem aNil_eq : aNil vs st = .ok [] st := rfl
@[simp] theorem aCons_eq : aCons a as vs st = (a vs st).bind fun x st => (as vs st).bind fun xs st => .ok (x :: xs) st := rfl
@[simp] theorem eTup_eq : eTup as vs st = (as vs st).bind fun xs st => if room xs.length then .ok (.tup xs) st else .bad := rfl
@[simp] theorem eLst_eq : eLst bb as vs st = (as vs st).bind fun xs st => if room xs.length then mkNew bb xs st else .bad := rfl
@[simp] theorem mkNew_f {ds : List D} : mkNew false ds st = .ok (.lst ds) st := rfl
@[simp] theorem mkNew_t {ds : List D} : mkNew true ds st = .ok (.loc st.length) (st ++ [some (.lst ds)]) := rfl
@[simp] theorem eN_eq {f : List D → Store → Re D} : eN f as vs st = (as vs st).bind fun xs st => f xs st := rfl
@[simp] theorem eChain_eq : eChain f g a b c vs st = (a vs st).bind fun x st => (b vs st).bind fun y st => (f x y st).bind fun z st => onB z ((c vs st).bind fun w st => g y w st) (.ok (.bl false) st) := rfl
@[simp] theorem oNone_eq : oNone vs st = .ok none st := rfl
@[simp] theorem oSome_eq : oSome a vs st = (a vs st).bind fun x st => match x with | .int i => .ok (some i) st | _ => .bad := rfl
@[simp] theorem eSl_eq {lo hi : Vars → Store → Re (Option Int)} : eSl bb a lo hi vs st = (a vs st).bind fun x st => (lo vs st).bind fun l st => (hi vs st).bind fun h st => sliceD bb x l h st := rfl
@[simp] theorem eM_eq {T : String} {f : D → List D → Store → Re D} : eM T f a as vs st = (a vs st).bind fun x st => if tyD T st x = true then (as vs st).bind fun xs st => f x xs st else .bad := rfl
@[simp] theorem tyD_lst {ds : List D} : tyD "list" st (.lst ds) = true := rfl
@[simp] theorem tyD_str {z : Str} : tyD "str" st (.str z) = true := rfl
@[simp] theorem tyD_loc {n : Nat} : tyD "list" st (.loc n) = (lstAt st n).isSome := rfl
@[simp] theorem sSeq_eq {s t : SM} : sSeq s t vs st = (s vs st).seq t := rfl
@[simp] theorem sNil_eq : sNil vs st = .nx vs st := rfl
@[simp] theorem sExpr_eq : sExpr a vs st = (a vs st).thn vs fun _ st => .nx vs st := rfl
@[simp] theorem sRet_eq : sRet a vs st = (a vs st).thn vs fun d st => .ret d st := rfl
@[simp] theorem sRetN_eq : sRetN vs st = .ret .non st := rfl
@[simp] theorem sBrk_eq : sBrk vs st = .brk vs st := rfl
@[simp] theorem sCt_eq : sCt vs st = .ct vs st := rfl
@[simp] theorem sIf_eq {s t : SM} : sIf c s t vs st = (c vs st).thn vs fun x st => onS x (s vs st) (t vs st) := rfl
@[simp] theorem gN_eq {d : D} : gN i d vs = some (vs.set i (some d)) := rfl
@[simp] theorem gT_eq {ts : List TM} {ds : List D} : gT ts (.tup ds) vs = gAll ts ds vs := rfl
@[simp] theorem gAll_nil : gAll [] [] vs = some vs := rfl
@[simp] theorem gAll_cons {t : TM} {ts : List TM} {d : D} {ds : List D} : gAll (t :: ts) (d :: ds) vs = (t d vs).bind fun vs => gAll ts ds vs := rfl
@[simp] theorem sAsg_eq {g : TM} : sAsg g a vs st = (a vs st).thn vs fun d st => match g d vs with | some vs => .nx vs st | none => .bad := rfl
@[simp] theorem sSub_eq {f : SD} {o j m : EM} : sSub f o j m vs st = (m vs st).thn vs fun v st => (o vs st).thn vs fun x st => (j vs st).thn vs fun y st => match f x y v st with | some st => .nx vs st | none => .bad := rfl
@[simp] theorem drp_nil : drp [] vs = vs := rfl
@[simp] theorem drp_cons {l : List Nat} : drp (i :: l) vs = drp l (vs.set i none) := rfl
@[simp] theorem eDsp_eq {ps : EPs} : eDsp ps vs st = (ps vs st).bind fun ps st => match keysK ps with | some kvs => .ok (.loc st.length) (st ++ [some (.dct (mergeD [] kvs))]) | none => .bad := rfl
@[simp] theorem eDnw_eq : eDnw vs st = .ok (.loc st.length) (st ++ [some (.dct [])]) := rfl
@[simp] theorem pNil_eq : pNil vs st = .ok [] st := rfl
@[simp] theorem pCons_eq {k v : EM} {r : EPs} : pCons k v r vs st = (k vs st).bind fun x st => (v vs st).bind fun y st => (r vs st).bind fun ps st => .ok ((x, y) :: ps) st := rfl
@[simp] theorem eGet1_eq : eGet1 a b vs st = (a vs st).bind fun x st => if isDct st x = true then (b vs st).bind fun y st => match dGet st x y with | some o => .ok (o.getD .non) st | none => .bad else .bad := rfl
@[simp] theorem eGet2_eq : eGet2 a b c vs st = (a vs st).bind fun x st => if isDct st x = true then (b vs st).bind fun y st => (c vs st).bind fun z st => match dGet st x y with | some o => .ok (o.getD z) st | none => .bad else .bad := rfl
@[simp] theorem eIxT_eq {zs : List Str} : eIxT zs as vs st = (as vs st).bind fun xs st => match xs with | [.str z] => if z ∈ zs then .ok (.int (zs.idxOf z : Nat)) st else .bad | _ => .bad := rfl
@[simp] theorem iE_eq : iE a vs st = (a vs st).bind fun x st => match itsOf st x with | some it => .ok it st | none => .bad := rfl
@[simp] theorem iEn_eq : iEn as vs st = (as vs st).bind fun xs st => match xs with | [x] => (match itsOf st x with | some it => .ok (enumP it.1, it.2) st | none => .bad) | _ => .bad := rfl
@[simp] theorem iR_eq : iR as vs st = (as vs st).bind fun xs st => match xs with
  | [.int j] => if fitR j then .ok (rng 0 j.toNat, []) st else .bad
  | [.int i, .int j] => if fitR i ∧ fitR j then .ok (rng i (j - i).toNat, []) st else .bad
  | _ => .bad := rfl
@[simp] theorem itsOf_tup {ds : List D} : itsOf st (.tup ds) = some (ds, []) := rfl
@[simp] theorem itsOf_lst {ds : List D} : itsOf st (.lst ds) = some (ds, []) := rfl
@[simp] theorem itsOf_frz {ds : List D} : itsOf st (.frz ds) = some (ds, []) := rfl
@[simp] theorem vars_eq {n : Nat} {ds : List D} : vars n ds = ds.map some ++ List.replicate (n - ds.length) none := rfl
theorem wp_fnD {n : Nat} {s : SM} {ds : List D} {Q : D → Store → Prop} : wp (fnD n s ds st) Q = wpS (s (vars n ds) st) ⟨fun _ st' => wp (gcRet st .non st') Q, fun d st' => wp (gcRet st d st') Q, fun _ _ => False, fun _ _ => False⟩ := by
  unfold fnD
  cases s (vars n ds) st with
  | exc e vs' st' =>
    rw [wpS_exc]
    show wp (gcExc st e st') Q = False
    unfold gcExc
    split
    · exact wp_exc
    · exact wp_bad
  | nx vs' st' => rw [wpS_nx]
  | ret d st' => rw [wpS_ret]
  | bad => rw [wpS_bad]; exact wp_bad
  | brk vs' st' => rw [wpS_brk]; exact wp_bad
  | ct vs' st' => rw [wpS_ct]; exact wp_bad
theorem wp_fnK {n : Nat} {s : SM} {ds : List D} {Q : D → Store → Prop} : wp (fnK n s ds st) Q = wpS (s (vars n ds) st) ⟨fun _ st' => Q .non st', fun d st' => Q d st', fun _ _ => False, fun _ _ => False⟩ := by
  unfold fnK
  cases s (vars n ds) st with
  | exc e vs' st' => rw [wpS_exc]; exact wp_exc
  | nx vs' st' => rw [wpS_nx]; exact wp_ok
  | ret d st' => rw [wpS_ret]; exact wp_ok
  | bad => rw [wpS_bad]; exact wp_bad
  | brk vs' st' => rw [wpS_brk]; exact wp_bad
  | ct vs' st' => rw [wpS_ct]; exact wp_bad
end
/-! ### values -/
section
variable {st : Store} {i j : Int} {b : Bool} {ds es : List D} {n : Nat} {y z : Str} {p q : Bool}
@[simp] theorem add_int : addD b (.int i) (.int j) st = .ok (.int (i + j)) st := rfl
@[simp] theorem add_str : addD b (.str y) (.str z) st = if room (y.length + z.length) then .ok (.str (y ++ z)) st else .bad := rfl
@[simp] theorem add_tup : addD b (.tup ds) (.tup es) st = if room (ds.length + es.length) then .ok (.tup (ds ++ es)) st else .bad := rfl
@[simp] theorem sub_int : subD (.int i) (.int j) st = .ok (.int (i - j)) st := rfl
@[simp] theorem mul_int : mulD b (.int i) (.int j) st = if (-(2 ^ 64) < i ∧ i < 2 ^ 64) ∨ (-(2 ^ 64) < j ∧ j < 2 ^ 64) then .ok (.int (i * j)) st else .bad := rfl
@[simp] theorem fdiv_int : fdivD (.int i) (.int j) st = if 0 < j ∧ j < 1073741824 then .ok (.int (i / j)) st else .bad := rfl
@[simp] theorem mod_int : modD (.int i) (.int j) st = if 0 < j then .ok (.int (i % j)) st else .bad := rfl
@[simp] theorem pow_int : powD (.int i) (.int j) st = if 0 ≤ j ∧ j ≤ 1000000 ∧ i.natAbs < 2 ^ 64 then .ok (.int (i ^ j.toNat)) st else .bad := rfl
@[simp] theorem eq_int : eqD (.int i) (.int j) st = .ok (.bl (decide (i = j))) st := rfl
@[simp] theorem eq_str : eqD (.str y) (.str z) st = .ok (.bl (decide (y = z))) st := rfl
@[simp] theorem eq_bl : eqD (.bl p) (.bl q) st = .ok (.bl (decide (p = q))) st := rfl
@[simp] theorem ne_int : neD (.int i) (.int j) st = .ok (.bl !(decide (i = j))) st := rfl
@[simp] theorem ne_str : neD (.str y) (.str z) st = .ok (.bl !(decide (y = z))) st := rfl
@[simp] theorem lt_int : ltD (.int i) (.int j) st = .ok (.bl (decide (i < j))) st := rfl
@[simp] theorem le_int : leD (.int i) (.int j) st = .ok (.bl (decide (i ≤ j))) st := rfl
@[simp] theorem gt_int : gtD (.int i) (.int j) st = .ok (.bl (decide (j < i))) st := rfl
@[simp] theorem ge_int : geD (.int i) (.int j) st = .ok (.bl (decide (j ≤ i))) st := rfl
@[simp] theorem neg_int : negD (.int i) st = .ok (.int (-i)) st := rfl
@[simp] theorem ixA_tup : ixA (.tup ds) (.int i) st = match atI ds i with | some d => .ok d st | none => .bad := rfl
@[simp] theorem ixA_lst : ixA (.lst ds) (.int i) st = match atI ds i with | some d => .ok d st | none => .bad := rfl
@[simp] theorem ixA_frz : ixA (.frz ds) (.int i) st = match atI ds i with | some d => .ok d st | none => .bad := rfl
theorem ixA_loc (h : lstAt st n = some ds) : ixA (.loc n) (.int i) st = match atI ds i with | some d => .ok d st | none => .bad := by
  have e1 : dGet st (.loc n) (.int i) = none := by
    unfold dGet
    simp only [lstAt_cell h]
  unfold ixA
  rw [e1]
  show ixD (.loc n) (.int i) st = _
  unfold ixD
  simp only [seqOf, h] <;> cases atI ds i <;> rfl
theorem ixA_dct {kvs : List (Key × D)} {k : D} {q : Key} {d : D} (h : cell st n = some (.dct kvs)) (e : keyK k = some q) (g : getK kvs q = some d) : ixA (.loc n) k st = .ok d st := by
  have e1 : dGet st (.loc n) k = some (some d) := by
    unfold dGet
    simp only [h, e, Option.map_some, g]
  unfold ixA
  rw [e1]
@[simp] theorem len_eq {x : D} : lenD [x] st = opt (lenB st x) fun n => .ok (.int n) st := rfl
@[simp] theorem lenB_tup : lenB st (.tup ds) = some ds.length := rfl
@[simp] theorem lenB_lst : lenB st (.lst ds) = some ds.length := rfl
@[simp] theorem lenB_frz : lenB st (.frz ds) = some ds.length := rfl
@[simp] theorem opt_some {α : Type} {a : α} {k : α → Re D} : opt (some a) k = k a := by rw [opt]
@[simp] theorem tuple_eq {x : D} : tupleD [x] st = opt (seqOf st x) fun ds => .ok (.tup ds) st := rfl
@[simp] theorem list_eq {x : D} : listD b [x] st = opt (seqOf st x) fun ds => mkNew b ds st := rfl
@[simp] theorem seqOf_tup : seqOf st (.tup ds) = some ds := rfl
@[simp] theorem seqOf_lst : seqOf st (.lst ds) = some ds := rfl
@[simp] theorem seqOf_frz : seqOf st (.frz ds) = some ds := rfl
@[simp] theorem seqOf_loc : seqOf st (.loc n) = lstAt st n := rfl
@[simp] theorem lstOf_lst : lstOf st (.lst ds) = some ds := rfl
@[simp] theorem lstOf_loc : lstOf st (.loc n) = lstAt st n := rfl
@[simp] theorem abs_int : absD [.int i] st = .ok (.int (if i < 0 then -i else i)) st := rfl
@[simp] theorem intD_int : intD [.int i] st = .ok (.int i) st := rfl
@[simp] theorem strD_int : strD [.int i] st = if i.natAbs.log2 < 1920 then .ok (.str (toString i)) st else .bad := rfl
@[simp] theorem append_eq {x : D} : appendD (.loc n) [x] st = opt (lstAt st n) fun ds => if room (ds.length + 1) then .ok .non (st.set n (some (.lst (ds ++ [x])))) else .bad := rfl
@[simp] theorem extend_eq {x : D} : extendD (.loc n) [x] st = opt (lstAt st n) fun ds => opt (lstOf st x) fun es => if room (ds.length + es.length) then .ok .non (st.set n (some (.lst (ds ++ es)))) else .bad := rfl
@[simp] theorem sl_tup {lo hi : Option Int} : sliceD b (.tup ds) lo hi st = .ok (.tup (cutD ds lo hi)) st := rfl
end
@[simp] theorem atI_pos {α : Type} {xs : List α} {i : Int} (h : 0 ≤ i) : atI xs i = xs[i.toNat]? := by
  unfold atI ixN
  rw [if_pos h]
  by_cases hl : i < xs.length
  · rw [if_pos hl]; rfl
  · rw [if_neg hl]
    have : xs[i.toNat]? = none := List.getElem?_eq_none (by omega)
    rw [this]; rfl
theorem ixN_pos {n : Nat} {k : Int} (h0 : 0 ≤ k) (h1 : k < n) : ixN n k = some k.toNat := by
  unfold ixN
  rw [if_pos h0, if_pos h1]
theorem setA_loc {st : Store} {n : Nat} {ds : List D} {k : Int} {z : D} (h : lstAt st n = some ds) : setA (.loc n) (.int k) z st = (ixN ds.length k).bind fun j => some (st.set n (some (.lst (ds.set j z)))) := by
  unfold setA
  simp only [lstAt_cell h]
  unfold setD
  simp only [h]
  rfl
/-! ### stores -/
section
variable {st0 l : Store} {i : Nat} {o : Option Ob}
@[simp] theorem cell_zero : cell (o :: l) 0 = o := by cases o <;> rfl
@[simp] theorem cell_succ : cell (o :: l) (i + 1) = cell l i := rfl
@[simp] theorem cell_app : cell (st0 ++ l) (st0.length + i) = cell l i := by
  unfold cell
  rw [List.getElem?_append_right (Nat.le_add_right _ _), Nat.add_sub_cancel_left]
@[simp] theorem cell_app0 : cell (st0 ++ l) st0.length = cell l 0 := cell_app (i := 0)
theorem lstAt_eq : lstAt l i = match cell l i with | some (.lst ds) => some ds | _ => none := rfl
@[simp] theorem lstAt_zero {ds : List D} : lstAt (some (.lst ds) :: l) 0 = some ds := rfl
@[simp] theorem lstAt_succ : lstAt (o :: l) (i + 1) = lstAt l i := rfl
@[simp] theorem lstAt_app : lstAt (st0 ++ l) (st0.length + i) = lstAt l i := by
  unfold lstAt
  rw [cell_app]
@[simp] theorem lstAt_app0 : lstAt (st0 ++ l) st0.length = lstAt l 0 := lstAt_app (i := 0)
@[simp] theorem set_app : (st0 ++ l).set (st0.length + i) o = st0 ++ l.set i o := by
  rw [List.set_append_right _ _ (Nat.le_add_right _ _), Nat.add_sub_cancel_left]
@[simp] theorem set_app0 : (st0 ++ l).set st0.length o = st0 ++ l.set 0 o := set_app (i := 0)
end
@[simp] theorem lenB_loc {st : Store} {n : Nat} : lenB st (.loc n) = (match cell st n with | some (.lst ds) => some ds.length | some (.dct kvs) => some kvs.length | _ => none) := rfl
/-- data without places -/
def lf (d : D) : Bool := locsLt 0 d
def lfs (ds : List D) : Bool := locsLts 0 ds
mutual
theorem locsLt_mono {m n : Nat} (h : m ≤ n) : ∀ {d : D}, locsLt m d = true → locsLt n d = true
  | .non, _ => rfl
  | .bl _, _ => rfl
  | .int _, _ => rfl
  | .str _, _ => rfl
  | .tup _, e => locsLts_mono h e
  | .lst _, e => locsLts_mono h e
  | .frz _, e => locsLts_mono h e
  | .loc _, e => decide_eq_true (Nat.lt_of_lt_of_le (of_decide_eq_true e) h)
theorem locsLts_mono {m n : Nat} (h : m ≤ n) : ∀ {ds : List D}, locsLts m ds = true → locsLts n ds = true
  | [], _ => rfl
  | d :: ds, e => by
    have e' : (locsLt m d && locsLts m ds) = true := e
    rw [Bool.and_eq_true] at e'
    show (locsLt n d && locsLts n ds) = true
    rw [locsLt_mono h e'.1, locsLts_mono h e'.2]
    rfl
end
@[simp] theorem lf_non : lf .non = true := by simp only [lf, locsLt]
@[simp] theorem lf_bl {b : Bool} : lf (.bl b) = true := by simp only [lf, locsLt]
@[simp] theorem lf_int {b : Int} : lf (.int b) = true := by simp only [lf, locsLt]
@[simp] theorem lf_str {b : Str} : lf (.str b) = true := by simp only [lf, locsLt]
@[simp] theorem lf_tup {ds : List D} : lf (.tup ds) = lfs ds := by simp only [lf, locsLt, lfs]
@[simp] theorem lf_lst {ds : List D} : lf (.lst ds) = lfs ds := by simp only [lf, locsLt, lfs]
@[simp] theorem lf_frz {ds : List D} : lf (.frz ds) = lfs ds := by simp only [lf, locsLt, lfs]
@[simp] theorem lfs_nil : lfs [] = true := by simp only [lfs, locsLts]
@[simp] theorem lfs_cons {d : D} {ds : List D} : lfs (d :: ds) = (lf d && lfs ds) := by simp only [lfs, lf, locsLts]
theorem lfs_all {ds : List D} : lfs ds = true ↔ ∀ d ∈ ds, lf d = true := by
  induction ds with
  | nil => simp
  | cons d ds ih => simp [ih]
@[simp] theorem lfs_append {ds es : List D} : lfs (ds ++ es) = (lfs ds && lfs es) := by
  induction ds with
  | nil => simp
  | cons d ds ih => simp [ih, Bool.and_assoc]
theorem lfs_map {α : Type} {f : α → D} {xs : List α} (h : ∀ x, lf (f x) = true) : lfs (xs.map f) = true := lfs_all.mpr fun d hd => by
  obtain ⟨x, _, rfl⟩ := List.mem_map.mp hd
  exact h x
section
variable {st0 l : Store} {d : D} {Q : D → Store → Prop}
theorem keepOk_app : keepOk st0 (st0 ++ l) := fun i hi => .inl (List.getElem?_append_left hi)
theorem gc_ret {st : Store} (k : keepOk st0 st) (h : lf d = true) : gcRet st0 d st = .ok d (st.take st0.length) := by
  unfold gcRet
  rw [if_pos k]
  have e : reify st0.length st 4 d = some d := by
    unfold reify
    rw [if_pos (locsLt_mono (Nat.zero_le _) h)]
  rw [e]
@[simp] theorem gc_app (h : lf d = true) : gcRet st0 d (st0 ++ l) = .ok d st0 := by rw [gc_ret keepOk_app h, List.take_left']; rfl
@[simp] theorem gc_same (h : lf d = true) : gcRet st0 d st0 = .ok d st0 := by
  have := gc_app (st0 := st0) (l := []) (d := d) h
  rw [List.append_nil] at this
  exact this
/-- a list at an own place -/
theorem gc_lst {ds : List D} {i : Nat} (h : lstAt l i = some ds) (hl : lfs ds = true) : gcRet st0 (.loc (st0.length + i)) (st0 ++ l) = .ok (.lst ds) st0 := by
  unfold gcRet
  rw [if_pos keepOk_app]
  have e0 : ∀ n st (k : Nat) (ds : List D), lfs ds = true → ds.mapM (reify n st (k + 1)) = some ds := by
    intro n st k ds
    induction ds with
    | nil => intro _; rfl
    | cons d ds ih =>
      intro h
      rw [lfs_cons, Bool.and_eq_true] at h
      have e1 : reify n st (k + 1) d = some d := by
        unfold reify
        rw [if_pos (locsLt_mono (Nat.zero_le _) h.1)]
      simp [List.mapM_cons, e1, ih h.2]
  have e : reify st0.length (st0 ++ l) 4 (.loc (st0.length + i)) = some (.lst ds) := by
    unfold reify
    have : ¬ (locsLt st0.length (.loc (st0.length + i)) = true) := by
      show ¬ (decide (st0.length + i < st0.length) = true)
      simp
    rw [if_neg this]
    simp only [lstAt_app, h, e0 _ _ _ _ hl, Option.map_some]
  rw [e, List.take_left']
  rfl
end
@[simp] theorem ofs_inj {a b : String} : (Str.ofString a = Str.ofString b) = (a = b) := by
  refine propext ⟨fun h => ?_, fun h => by rw [h]⟩
  rw [Str.ofString_eq_toList, Str.ofString_eq_toList] at h
  injection h with h
  have h2 : a.toList.map Char.toNat = b.toList.map Char.toNat := by
    have := congrArg Array.toList h
    simpa using this
  have inj : ∀ x y : Char, x.toNat = y.toNat → x = y := fun x y e => Char.ext (UInt32.toNat_inj.mp e)
  have h3 : a.toList = b.toList := by
    have h4 : ∀ (l m : List Char), l.map Char.toNat = m.map Char.toNat → l = m := by
      intro l
      induction l with
      | nil => intro m e; cases m with
        | nil => rfl
        | cons _ _ => cases e
      | cons c l ih =>
        intro m e
        cases m with
        | nil => cases e
        | cons d m =>
          injection e with e1 e2
          rw [inj c d e1, ih m e2]
    exact h4 _ _ h2
  exact String.toList_inj.mp h3
theorem small_int : ∀ i : Nat, i < 64 → ((i : Int).natAbs.log2 < 1920) ∧ (Str.ofString (toString (i : Int))).length ≤ 2 := by decide +kernel
/-- a letter and a small number -/
theorem str_small {i : Nat} {st : Store} (h : i < 64) : strD [.int (i : Int)] st = .ok (.str (Str.ofString (Int.repr (i : Int)))) st := by
  rw [strD_int, if_pos (small_int i h).1]
  rfl
theorem add_small {i : Nat} {st : Store} {b : Bool} {p : Str} (h : i < 64) (hp : p.length ≤ 1000) : addD b (.str p) (.str (Str.ofString (Int.repr (i : Int)))) st = .ok (.str (p ++ Str.ofString (Int.repr (i : Int)))) st := by
  have := (small_int i h).2
  rw [add_str, if_pos]
  show p.length + (Str.ofString (toString (i : Int))).length ≤ 1000000
  omega
theorem rng_mem {lo : Int} {n : Nat} {d : D} (h : d ∈ rng lo n) : ∃ i : Nat, i < n ∧ d = .int (lo + i) := by
  unfold rng at h
  obtain ⟨i, hi, rfl⟩ := List.mem_map.mp h
  exact ⟨i, List.mem_range.mp hi, rfl⟩
@[simp] theorem rng_length {lo : Int} {n : Nat} : (rng lo n).length = n := by simp [rng]
/-! ### loops -/
section
theorem forGo_wp {g : TM} {b : SM} {fg : List Nat} {gd : Store → Prop} {P : Po} (Inv : List D → Vars → Store → Prop)
    (hg : ∀ r vs st, Inv r vs st → gd st)
    (step : ∀ d r vs st, Inv (d :: r) vs st → ∃ vs1, g d vs = some vs1 ∧ wpS (b vs1 st) ⟨fun vs2 st2 => Inv r (drp fg vs2) st2, P.r, fun vs2 st2 => P.n (drp fg vs2) st2, fun vs2 st2 => Inv r (drp fg vs2) st2⟩)
    (fin : ∀ vs st, Inv [] vs st → P.n vs st) : ∀ (ds : List D) (vs : Vars) (st : Store), Inv ds vs st → wpS (forGo g b fg gd ds vs st) P
  | [], vs, st, h => by
    unfold forGo
    rw [if_pos (hg _ _ _ h)]
    exact ⟨fin _ _ h⟩
  | d :: ds, vs, st, h => by
    unfold forGo
    rw [if_pos (hg _ _ _ h)]
    obtain ⟨vs1, e, w⟩ := step d ds vs st h
    rw [e]
    simp only
    cases hb : b vs1 st with
    | nx vs2 st2 => rw [hb] at w; exact forGo_wp Inv hg step fin ds _ _ w.of
    | ct vs2 st2 => rw [hb] at w; exact forGo_wp Inv hg step fin ds _ _ w.of
    | brk vs2 st2 => rw [hb] at w; exact ⟨w.of⟩
    | ret d2 st2 => rw [hb] at w; exact ⟨w.of⟩
    | bad => rw [hb] at w; exact w.of.elim
    | exc e vs2 st2 => rw [hb] at w; exact w.of.elim
theorem sFor_wp {im : IM} {g : TM} {b : SM} {fg : List Nat} {vs : Vars} {st : Store} {P : Po} :
    wpS (sFor im g b fg vs st) P = wp (im vs st) fun it st => wpS (forGo g b fg (grd it) it.1 (drp fg vs) st) P := by
  unfold sFor
  rw [wpS_thn]
theorem compGo_wp {g : TM} {t e : EM} {gd : Store → Prop} {vs : Vars} (Inv : List D → List D → Store → Prop) (hg : ∀ r acc st, Inv r acc st → gd st)
    (step : ∀ d r acc st, Inv (d :: r) acc st → ∃ vs1, g d vs = some vs1 ∧ wp (t vs1 st) fun x st1 => (x = .bl true ∧ wp (e vs1 st1) fun y st2 => Inv r (acc ++ [y]) st2) ∨ (x = .bl false ∧ Inv r acc st1)) :
    ∀ (ds acc : List D) (st : Store), Inv ds acc st → wp (compGo g t e gd vs ds st) fun ys st' => Inv [] (acc ++ ys) st'
  | [], acc, st, h => by
    unfold compGo
    rw [if_pos (hg _ _ _ h)]
    rw [wp_ok, List.append_nil]
    exact h
  | d :: ds, acc, st, h => by
    unfold compGo
    rw [if_pos (hg _ _ _ h)]
    obtain ⟨vs1, e1, w⟩ := step d ds acc st h
    rw [e1]
    simp only [wp_okk]
    refine wp_mono w fun x st1 hx => ?_
    rcases hx with ⟨rfl, w2⟩ | ⟨rfl, h2⟩
    · simp only [wp_okk]
      refine wp_mono w2 fun y st2 h2 => ?_
      rw [wp_okk]
      refine wp_mono (compGo_wp Inv hg step ds _ _ h2) fun ys st3 h3 => ?_
      rw [List.append_assoc] at h3
      exact ⟨h3⟩
    · exact compGo_wp Inv hg step ds _ _ h2
theorem eComp_wp {n : Bool} {im : IM} {g : TM} {t e : EM} {own : List Nat} {vs : Vars} {st : Store} {Q : D → Store → Prop} :
    wp (eComp n im g t e own vs st) Q = wp (im vs st) fun it st => room it.1.length ∧ wp (compGo g t e (grd it) (drp own vs) it.1 st) fun ys st => wp (mkNew n ys st) Q := by
  unfold eComp
  rw [wp_bind]
  congr 1
  funext it st
  split
  · rename_i h
    simp only [wp_okk, h, true_and]
  · rename_i h
    simp only [h, false_and]
    exact wp_bad
/-- the elements change nothing -/
theorem compGo_pure {g : TM} {t e : EM} {gd : Store → Prop} {vs : Vars} {st : Store} {p : D → Bool} {f : D → D} (hg : gd st) : ∀ {ds : List D},
    (∀ d ∈ ds, ∃ vs1, g d vs = some vs1 ∧ t vs1 st = .ok (.bl (p d)) st ∧ (p d = true → e vs1 st = .ok (f d) st)) → compGo g t e gd vs ds st = .ok ((ds.filter p).map f) st
  | [], _ => by unfold compGo; rw [if_pos hg]; rfl
  | d :: ds, h => by
    unfold compGo
    rw [if_pos hg]
    obtain ⟨vs1, e1, e2, e3⟩ := h d List.mem_cons_self
    have ih := compGo_pure hg fun d' hd => h d' (List.mem_cons_of_mem _ hd)
    rw [e1]
    simp only [e2, okk_ok]
    cases hp : p d with
    | true => simp only [e3 hp, okk_ok, ih, List.filter_cons, hp, if_true, List.map_cons]
    | false => simp only [ih, List.filter_cons, hp, Bool.false_eq_true, if_false]
theorem sWhile_ct {c : EM} {b : SM} {vs vs1 : Vars} {st st1 st2 : Store} (hc : c vs st = .ok (.bl true) st1) (hb : b vs st1 = .ct vs1 st2) : sWhile c b vs st = sWhile c b vs1 st2 := by
  by_cases h' : ∃ r n, wGo c b n vs1 st2 = some r
  · obtain ⟨r, n, e⟩ := h'
    rw [sWhile_eq e]
    refine sWhile_eq (n := n + 1) ?_
    unfold wGo
    rw [hc]
    simp only [hb]
    exact e
  · have e1 : sWhile c b vs1 st2 = .bad := by
      unfold sWhile
      rw [dif_neg h']
    rw [e1]
    unfold sWhile
    rw [dif_neg]
    rintro ⟨r, n, e⟩
    cases n with
    | zero => cases e
    | succ n =>
      unfold wGo at e
      rw [hc] at e
      simp only [hb] at e
      exact h' ⟨r, n, e⟩
theorem sWhile_brk {c : EM} {b : SM} {vs vs1 : Vars} {st st1 st2 : Store} (hc : c vs st = .ok (.bl true) st1) (hb : b vs st1 = .brk vs1 st2) : sWhile c b vs st = .nx vs1 st2 := by
  refine sWhile_eq (n := 1) ?_
  unfold wGo
  rw [hc]
  simp only [hb]
theorem sWhile_ret {c : EM} {b : SM} {vs : Vars} {st st1 st2 : Store} {d : D} (hc : c vs st = .ok (.bl true) st1) (hb : b vs st1 = .ret d st2) : sWhile c b vs st = .ret d st2 := by
  refine sWhile_eq (n := 1) ?_
  unfold wGo
  rw [hc]
  simp only [hb]
theorem while_wp {c : EM} {b : SM} {P : Po} (Inv : Nat → Vars → Store → Prop)
    (step : ∀ n vs st, Inv n vs st → wp (c vs st) fun d st1 => (d = .bl false ∧ P.n vs st1) ∨ (d = .bl true ∧ wpS (b vs st1) ⟨fun vs2 st2 => ∃ m, m < n ∧ Inv m vs2 st2, P.r, fun vs2 st2 => P.n vs2 st2, fun vs2 st2 => ∃ m, m < n ∧ Inv m vs2 st2⟩)) :
    ∀ (n : Nat) (vs : Vars) (st : Store), Inv n vs st → wpS (sWhile c b vs st) P := by
  intro n
  induction n using Nat.strongRecOn with
  | ind n ih =>
    intro vs st h
    obtain ⟨d, st1, e, w⟩ := wp_ex (step n vs st h)
    rcases w with ⟨rfl, w⟩ | ⟨rfl, w⟩
    · rw [sWhile_end e]
      exact ⟨w⟩
    · cases hb : b vs st1 with
      | nx vs2 st2 =>
        rw [hb] at w
        obtain ⟨m, hm, hi⟩ := w.of
        rw [sWhile_turn e hb]
        exact ih m hm _ _ hi
      | ct vs2 st2 =>
        rw [hb] at w
        obtain ⟨m, hm, hi⟩ := w.of
        rw [sWhile_ct e hb]
        exact ih m hm _ _ hi
      | brk vs2 st2 =>
        rw [hb] at w
        rw [sWhile_brk e hb]
        exact ⟨w.of⟩
      | ret d2 st2 =>
        rw [hb] at w
        rw [sWhile_ret e hb]
        exact ⟨w.of⟩
      | bad => rw [hb] at w; exact w.of.elim
      | exc e vs2 st2 => rw [hb] at w; exact w.of.elim
end
end Dn
namespace Dn
open PySem PySem.Spec PyProof.Rows L2
/-! ### draws of a script -/
noncomputable def takeB1 : SM := (sIf (eAnd (e2 eqD (e2 ixA (eV 0) (eC (.int 2))) (eC (.int 0))) (e2 ltD (e2 ixA (eV 0) (eC (.int 1))) (eN lenD (aCons (e2 ixA (eV 0) (eC (.int 0))) (aNil))))) (sSeq (sSub setA (eV 0) (eC (.int 2)) (eN absD (aCons (eN intD (aCons (e2 ixA (e2 ixA (eV 0) (eC (.int 0))) (e2 ixA (eV 0) (eC (.int 1)))) (aNil))) (aNil)))) (sSeq (sSub setA (eV 0) (eC (.int 1)) (e2 (addD false) (e2 ixA (eV 0) (eC (.int 1))) (eC (.int 1)))) (sIf (e2 ltD (e2 ixA (eV 0) (eC (.int 2))) (e2 powD (eC (.int 10)) (eC (.int 18)))) (sSeq (sAsg (gN 2) (eN intD (aCons (e2 ixA (eV 0) (eC (.int 2))) (aNil)))) (sSeq (sSub setA (eV 0) (eC (.int 2)) (eC (.int 0))) (sRet (e2 modD (eV 2) (eV 1))))) (sNil)))) (sNil))
noncomputable def takeB2 : SM := (sIf (e2 gtD (e2 ixA (eV 0) (eC (.int 2))) (eC (.int 0))) (sSeq (sAsg (gN 3) (e2 modD (eN intD (aCons (e2 ixA (eV 0) (eC (.int 2))) (aNil))) (eV 1))) (sSeq (sSub setA (eV 0) (eC (.int 2)) (e2 fdivD (eN intD (aCons (e2 ixA (eV 0) (eC (.int 2))) (aNil))) (eV 1))) (sRet (eV 3)))) (sNil))
noncomputable def takeB3 : SM := (sSeq (sSub setA (eV 0) (eC (.int 3)) (e2 modD (eN intD (aCons (e2 (addD false) (e2 (mulD false) (e2 ixA (eV 0) (eC (.int 3))) (eC (.int 48271))) (eC (.int 11))) (aNil))) (eC (.int 2147483647)))) (sRet (e2 modD (eN intD (aCons (e2 fdivD (e2 ixA (eV 0) (eC (.int 3))) (eC (.int 3))) (aNil))) (eV 1))))
noncomputable def takeB : SM := sSeq takeB1 (sSeq takeB2 takeB3)
noncomputable def takeM : FnD := fnD 4 takeB
noncomputable def beginB : SM := sSeq (sAsg (gN 1) (eC (.int 1))) (sSeq (sFor (iE (eV 0)) (gN 2) (sAsg (gN 1) (e2 modD (e2 (addD false) (e2 (addD false) (e2 (mulD false) (eV 1) (eC (.int 69621))) (e2 modD (eN intD (aCons (eV 2) (aNil))) (eC (.int 2147483629)))) (eC (.int 7))) (eC (.int 2147483647)))) [2]) (sRet (eLst true (aCons (eN (listD false) (aCons (eV 0) (aNil))) (aCons (eC (.int 0)) (aCons (eC (.int 0)) (aCons (eV 1) (aNil))))))))
noncomputable def beginM : FnD := fnK 3 beginB
noncomputable def pickB : SM := sRet (e2 ixA (eV 1) (eN takeM (aCons (eV 0) (aCons (eN lenD (aCons (eV 1) (aNil))) (aNil)))))
noncomputable def pickM : FnD := fnD 2 pickB
/-- the draws' list -/
def DrawOk (c : Option Ob) : Prop := ∃ (ns : List Int) (i : Nat) (n seed : Int), c = some (.lst [.lst (ns.map D.int), .int i, .int n, .int seed])
theorem lfs_ints {ns : List Int} : lfs (ns.map D.int) = true := lfs_map fun _ => rfl
theorem gc_draw {c c' : Option Ob} {t : Store} {d : D} (h : DrawOk c') (hd : lf d = true) : gcRet (c :: t) d (c' :: t) = .ok d (c' :: t) := by
  have k : keepOk (c :: t) (c' :: t) := fun i hi => by
    cases i with
    | zero =>
      refine .inr ⟨c', rfl, fun ob e => ?_⟩
      obtain ⟨ns, i, n, seed, rfl⟩ := h
      injection e with e
      subst e
      have : lfs [.lst (ns.map D.int), .int i, .int n, .int seed] = true := by simp [lfs_ints]
      exact locsLts_mono (Nat.zero_le _) this
    | succ i => exact .inl rfl
  rw [gc_ret k hd]
  show Re.ok d ((c' :: t).take (c' :: t).length) = _
  rw [List.take_length]
theorem take_wp {c : Option Ob} {t : Store} {m : Int} {Q : D → Store → Prop} (h : DrawOk c) (h0 : 0 < m) (h1 : m < 1073741824) (q : ∀ r c', DrawOk c' → 0 ≤ r → r < m → Q (.int r) (c' :: t)) : wp (takeM [.loc 0, .int m] (c :: t)) Q := by
  obtain ⟨ns, i, n, seed, rfl⟩ := h
  have gc : ∀ (i' : Nat) (n' seed' r : Int), 0 ≤ r → r < m → wp (gcRet (some (.lst [.lst (ns.map D.int), .int i, .int n, .int seed]) :: t) (.int r) (some (.lst [.lst (ns.map D.int), .int i', .int n', .int seed']) :: t)) Q := fun i' n' seed' r h0 h1 => by
    have hd : DrawOk (some (.lst [.lst (ns.map D.int), .int i', .int n', .int seed'])) := ⟨ns, i', n', seed', rfl⟩
    rw [gc_draw hd rfl, wp_ok]
    exact q r _ hd h0 h1
  have md : ∀ x : Int, 0 ≤ x % m ∧ x % m < m := fun x => ⟨Int.emod_nonneg _ (by omega), Int.emod_lt_of_pos _ h0⟩
  have sec : ∀ (i' : Nat) (n' : Int), wpS ((sSeq takeB2 takeB3) [some (.loc 0), some (.int m), none, none] (some (.lst [.lst (ns.map D.int), .int i', .int n', .int seed]) :: t)) ⟨fun _ st' => wp (gcRet (some (.lst [.lst (ns.map D.int), .int i, .int n, .int seed]) :: t) .non st') Q, fun d st' => wp (gcRet (some (.lst [.lst (ns.map D.int), .int i, .int n, .int seed]) :: t) d st') Q, fun _ _ => False, fun _ _ => False⟩ := by
    intro i' n'
    unfold takeB2 takeB3
    by_cases hn : 0 < n'
    · simp [ixA_loc, setA_loc, ixN_pos, hn, h0, h1]
      exact gc _ _ _ _ (md _).1 (md _).2
    · simp [ixA_loc, setA_loc, ixN_pos, hn, h0, h1]
      exact gc _ _ _ _ (md _).1 (md _).2
  unfold takeM
  rw [wp_fnD]
  show wpS (sSeq takeB1 (sSeq takeB2 takeB3) _ _) _
  unfold takeB1
  by_cases hc : n = 0 ∧ i < ns.length
  · obtain ⟨rfl, hi⟩ := hc
    have e : ns[i]? = some ns[i] := List.getElem?_eq_getElem hi
    by_cases hx : (if ns[i] < 0 then -ns[i] else ns[i]) < 1000000000000000000
    · simp [ixA_loc, setA_loc, ixN_pos, hi, e, hx, h0]
      exact gc (i + 1) 0 _ _ (md _).1 (md _).2
    · simp [ixA_loc, setA_loc, ixN_pos, hi, e, hx, h0]
      have s2 := sec (i + 1) (if ns[i] < 0 then -ns[i] else ns[i])
      rw [sSeq_eq, wpS_seq] at s2
      exact s2
  · have hb : (decide (n = 0) && decide (i < ns.length)) = false := by
      rw [Bool.and_eq_false_iff, decide_eq_false_iff_not, decide_eq_false_iff_not]
      by_cases h : n = 0
      · exact .inr fun z => hc ⟨h, z⟩
      · exact .inl h
    simp [ixA_loc, hb]
    have s2 := sec i n
    rw [sSeq_eq, wpS_seq] at s2
    exact s2
theorem begin_ok {ns : List Int} : ∃ c, DrawOk c ∧ beginM [.frz (ns.map D.int)] [] = .ok (.loc 0) [c] := by
  have : wp (beginM [.frz (ns.map D.int)] []) fun d st => d = .loc 0 ∧ ∃ c, DrawOk c ∧ st = [c] := by
    unfold beginM
    rw [wp_fnK]
    unfold beginB
    simp [sFor_wp]
    refine forGo_wp (fun r vs st => (∃ l, r = l.map D.int) ∧ st = [] ∧ ∃ s : Int, vs = [some (.frz (ns.map D.int)), some (.int s), none]) (fun _ _ _ _ => trivial) (fun d r vs st h => ?_) (fun vs st h => ?_) _ _ _ ⟨⟨ns, rfl⟩, rfl, 1, rfl⟩
    · obtain ⟨⟨l, hl⟩, rfl, s, rfl⟩ := h
      cases l with
      | nil => cases hl
      | cons x l =>
        injection hl with h1 h2
        subst h1 h2
        simp
        exact ⟨l, rfl⟩
    · obtain ⟨_, rfl, s, rfl⟩ := h
      simp
      exact ⟨ns, 0, 0, s, rfl⟩
  obtain ⟨d, st, e, rfl, c, hc, rfl⟩ := wp_ex this
  exact ⟨c, hc, e⟩
theorem pick_wp {c : Option Ob} {t : Store} {ds : List D} {Q : D → Store → Prop} (h : DrawOk c) (h0 : 0 < ds.length) (h1 : ds.length < 1000000) (hl : lfs ds = true) (q : ∀ d c', DrawOk c' → d ∈ ds → Q d (c' :: t)) : wp (pickM [.loc 0, .lst ds] (c :: t)) Q := by
  unfold pickM
  rw [wp_fnD]
  unfold pickB
  simp
  refine take_wp h (by omega) (by omega) fun r c' hc hr0 hr1 => ?_
  have hr : r.toNat < ds.length := by omega
  have e : ds[r.toNat]? = some ds[r.toNat] := List.getElem?_eq_getElem hr
  have hd : lf ds[r.toNat] = true := lfs_all.mp hl _ (List.getElem_mem hr)
  simp [hr0, e, gc_draw hc hd]
  exact q _ _ hc (List.getElem_mem hr)
end Dn
namespace Dn
open PySem PySem.Spec PyProof.Rows L2
theorem okd_mono {n m : Nat} (h : n ≤ m) : ∀ {d : D}, okd n d = true → okd m d = true := by
  induction n generalizing m with
  | zero => intro d e; cases d <;> simp_all [okd]
  | succ n ih =>
    intro d e
    obtain ⟨m, rfl⟩ : ∃ k, m = k + 1 := ⟨m - 1, by omega⟩
    cases d with
    | tup ds =>
      simp only [okd, List.all_eq_true] at e ⊢
      exact fun x hx => ih (by omega) (e x hx)
    | lst ds =>
      simp only [okd, List.all_eq_true] at e ⊢
      exact fun x hx => ih (by omega) (e x hx)
    | _ => simp_all [okd]
theorem eqvD_refl {n : Nat} {d : D} (h : okd n d = true) : eqvD d d = true := SeqAt.eqv_refl _ (by
  have : ∀ (n : Nat) (d : D), okd n d = true → (pd d).canLay0 = true := fun n d h => (okd_shape n d h).1
  exact this n d h)
theorem okd_res {st : Store} {d : D} {n : Nat} (h : okd n d = true) : resD st d = d := by
  cases d with
  | loc _ => cases n <;> simp [okd] at h
  | _ => rfl
theorem eqB_refl {st : Store} {d : D} (h : okd 60 d = true) : eqB st d d = some true := by
  have hr : resD st d = d := okd_res h
  cases d with
  | non => rfl
  | int i => simp [eqB]
  | bl i => simp [eqB]
  | str i => simp [eqB]
  | tup ds =>
    show (if okd 60 (resD st (.tup ds)) && okd 60 (resD st (.tup ds)) then some (eqvD (resD st (.tup ds)) (resD st (.tup ds))) else none) = some true
    rw [hr, h, eqvD_refl h]
    rfl
  | lst ds =>
    show (if okd 60 (resD st (.lst ds)) && okd 60 (resD st (.lst ds)) then some (eqvD (resD st (.lst ds)) (resD st (.lst ds))) else none) = some true
    rw [hr, h, eqvD_refl h]
    rfl
  | frz ds => simp [okd] at h
  | loc n => simp [okd] at h
theorem eq_refl {st : Store} {d : D} (h : okd 60 d = true) : eqD d d st = .ok (.bl true) st := by
  unfold eqD
  rw [eqB_refl h]
theorem ne_refl {st : Store} {d : D} (h : okd 60 d = true) : neD d d st = .ok (.bl false) st := by
  unfold neD
  rw [eqB_refl h]
  rfl
theorem okd_int {n : Nat} {i : Int} : okd n (.int i) = true := by cases n <;> rfl
theorem okd_bl {n : Nat} {i : Bool} : okd n (.bl i) = true := by cases n <;> rfl
theorem okd_non {n : Nat} : okd n .non = true := by cases n <;> rfl
theorem okd_str {n : Nat} {x : Str} (h : PyData.strOk x = true) : okd n (.str x) = true := by cases n <;> exact h
theorem okd_tup {n : Nat} {ds : List D} (h : ∀ d ∈ ds, okd n d = true) : okd (n + 1) (.tup ds) = true := List.all_eq_true.mpr h
theorem okd_lst {n : Nat} {ds : List D} (h : ∀ d ∈ ds, okd n d = true) : okd (n + 1) (.lst ds) = true := List.all_eq_true.mpr h
theorem okd_map {α : Type} {n : Nat} {f : α → D} {xs : List α} (h : ∀ x ∈ xs, okd n (f x) = true) : ∀ d ∈ xs.map f, okd n d = true := fun d hd => by
  obtain ⟨x, hx, rfl⟩ := List.mem_map.mp hd
  exact h x hx
@[simp] theorem eqv_int {i j : Int} : eqvD (.int i) (.int j) = decide (i = j) := by
  unfold eqvD
  simp only [pd, PyData.eqv]
  by_cases h : i = j <;> simp [h]
@[simp] theorem eqv_str {i j : Str} : eqvD (.str i) (.str j) = decide (i = j) := by
  unfold eqvD
  simp only [pd, PyData.eqv]
  by_cases h : i = j <;> simp [h]
section
variable {st : Store} {neg b : Bool} {f : D → D → Store → Re D} {x : D} {ds : List D} {i : Int} {z : Str}
@[simp] theorem inA_tup : inA neg f x (.tup ds) st = f x (.tup ds) st := rfl
@[simp] theorem inA_lst : inA neg f x (.lst ds) st = f x (.lst ds) st := rfl
@[simp] theorem inA_frz : inA neg f x (.frz ds) st = f x (.frz ds) st := rfl
@[simp] theorem inA_str : inA neg f x (.str z) st = f x (.str z) st := rfl
theorem inB_flat (h : flatD x = true) (hs : ds.all flatD = true) {y : D} (hy : seqOf st y = some ds) : inB st x y = some (ds.any fun z => eqvD z x) := by
  have hm : (match seqOf st y with
      | some ds => if flatD x && ds.all flatD then some (ds.any fun z => eqvD z x)
        else if okd 60 x && ds.all (okd 59) then some (ds.any fun z => eqvD z x) else none
      | none => none) = some (ds.any fun z => eqvD z x) := by
    rw [hy]
    simp only [h, hs, Bool.and_self, if_true]
  unfold inB
  split
  · rename_i c z'
    cases hy
  · exact hm
theorem in_flat (h : flatD x = true) (hs : ds.all flatD = true) {y : D} (hy : seqOf st y = some ds) : inD x y st = .ok (.bl (ds.any fun z => eqvD z x)) st := by
  unfold inD
  rw [inB_flat h hs hy]
theorem nin_flat (h : flatD x = true) (hs : ds.all flatD = true) {y : D} (hy : seqOf st y = some ds) : ninD x y st = .ok (.bl !(ds.any fun z => eqvD z x)) st := by
  unfold ninD
  rw [inB_flat h hs hy]
@[simp] theorem flat_int : flatD (.int i) = true := by simp only [flatD]
@[simp] theorem flat_str : flatD (.str z) = true := by simp only [flatD]
@[simp] theorem flat_bl : flatD (.bl b) = true := by simp only [flatD]
@[simp] theorem flat_non : flatD .non = true := by simp only [flatD]
end
theorem idxB_strs {z : Str} : ∀ {zs : List Str} (n : Nat), z ∈ zs → idxB (.str z) (zs.map .str) n = some (n + zs.idxOf z)
  | y :: zs, n, h => by
    unfold idxB
    rw [List.map_cons]
    simp only [eqv_str]
    by_cases e : y = z
    · subst e
      simp
    · have h' : z ∈ zs := by
        rcases List.mem_cons.mp h with rfl | h
        · exact absurd rfl e
        · exact h
      have e2 : (y == z) = false := by simp [e]
      rw [if_neg (by simpa using e), idxB_strs (n + 1) h', List.idxOf_cons, e2]
      simp
      omega
theorem index_strs {st : Store} {z : Str} {zs : List Str} (h : z ∈ zs) (hk : zs.all PyData.strOk = true) : indexD (.lst (zs.map .str)) [.str z] st = .ok (.int (zs.idxOf z : Nat)) st := by
  have hk' := List.all_eq_true.mp hk
  unfold indexD
  simp only [lstOf_lst, opt_some]
  rw [if_pos ⟨okd_str (hk' z h), List.all_eq_true.mpr (okd_map fun x hx => okd_str (hk' x hx))⟩, idxB_strs 0 h]
  simp
/-! ### dicts -/
section
variable {st : Store} {n : Nat} {z : Str} {i : Int} {k : L2.Key} {d : D} {r : List (L2.Key × D)} {ps : List (D × D)}
@[simp] theorem keysK_nil : keysK [] = some [] := rfl
@[simp] theorem keysK_str : keysK ((.str z, d) :: ps) = (keysK ps).map ((.inr z, d) :: ·) := rfl
@[simp] theorem keysK_int : keysK ((.int i, d) :: ps) = (keysK ps).map ((.inl i, d) :: ·) := rfl
@[simp] theorem getK_nil : getK ([] : List (L2.Key × D)) k = none := rfl
@[simp] theorem getK_cons {j : L2.Key} : getK ((j, d) :: r) k = if j = k then some d else getK r k := by
  unfold getK
  rw [List.find?_cons]
  by_cases e : j = k <;> simp [e]
@[simp] theorem ixA_strkey : ixA (.loc n) (.str z) st = match cell st n with
    | some (.dct kvs) => (match getK kvs (.inr z) with | some d => .ok d st | none => .bad)
    | _ => .bad := by
  cases h : cell st n with
  | none =>
    unfold ixA dGet ixD
    simp [h]
  | some o =>
    cases o with
    | dct kvs =>
      unfold ixA dGet
      simp only [h, keyK, Option.map_some]
      cases getK kvs (.inr z) <;> rfl
    | _ =>
      unfold ixA dGet ixD
      simp [h]
@[simp] theorem ixA_intkey : ixA (.loc n) (.int i) st = match cell st n with
    | some (.dct kvs) => (match getK kvs (.inl i) with | some d => .ok d st | none => .bad)
    | some (.lst ds) => (match atI ds i with | some d => .ok d st | none => .bad)
    | _ => .bad := by
  cases h : cell st n with
  | none =>
    unfold ixA dGet ixD seqOf lstAt
    simp [h]
  | some o =>
    cases o with
    | dct kvs =>
      unfold ixA dGet
      simp only [h, keyK, Option.map_some]
      cases getK kvs (.inl i) <;> rfl
    | lst ds => exact ixA_loc (by unfold lstAt; rw [h])
    | dtt kvs =>
      unfold ixA dGet ixD seqOf lstAt
      simp [h]
    | ins c fs =>
      unfold ixA dGet ixD seqOf lstAt
      simp [h]
end
end Dn
namespace Dn
open PySem PySem.Spec PyProof.Rows L2
/-! ### comprehensions that draw -/
/-- an element, behind draws -/
def DE (T : Store) (Pr : D → Prop) (y : D) (st : Store) : Prop := Pr y ∧ ∃ c, DrawOk c ∧ st = c :: T
theorem de_of {T : Store} {Pr : D → Prop} {y : D} {c : Option Ob} (h : Pr y) (k : DrawOk c) : DE T Pr y (c :: T) := ⟨h, c, k, rfl⟩
/-- a test, behind draws -/
def DT (T : Store) (k : Store → Prop) (x : D) (st : Store) : Prop := ∃ c, DrawOk c ∧ st = c :: T ∧ ∃ b, x = .bl b ∧ (b = true → k (c :: T))
theorem dt_of {T : Store} {k : Store → Prop} {b : Bool} {c : Option Ob} (h : DrawOk c) (q : b = true → k (c :: T)) : DT T k (.bl b) (c :: T) := ⟨c, h, rfl, b, rfl, q⟩
section
variable {g : TM} {tt e : EM} {gd : Store → Prop} {vs : Vars} {T : Store} {Pr : D → Prop}
theorem compGo_draw1 (hg : ∀ c, gd (c :: T)) : ∀ (ds : List D) (c : Option Ob), DrawOk c → (∀ d ∈ ds, ∀ c, DrawOk c → ∃ vs1, g d vs = some vs1 ∧ wp (e vs1 (c :: T)) (DE T Pr)) →
    wp (compGo g (eC (.bl true)) e gd vs ds (c :: T)) fun ys st => (∀ y ∈ ys, Pr y) ∧ ys.length = ds.length ∧ ∃ c2, DrawOk c2 ∧ st = c2 :: T
  | [], c, hc, _ => by
    unfold compGo
    rw [if_pos (hg _), wp_ok]
    exact ⟨by simp, rfl, c, hc, rfl⟩
  | d :: ds, c, hc, h => by
    unfold compGo
    rw [if_pos (hg _)]
    obtain ⟨vs1, e1, w⟩ := h d List.mem_cons_self c hc
    rw [e1]
    simp only [eC_eq, okk_ok, wp_okk]
    refine wp_mono w fun y st1 h1 => ?_
    obtain ⟨hy, c1, hc1, rfl⟩ := h1
    rw [wp_okk]
    refine wp_mono (compGo_draw1 hg ds c1 hc1 fun d' hd => h d' (List.mem_cons_of_mem _ hd)) fun ys st2 h2 => ?_
    obtain ⟨h3, h4, h5⟩ := h2
    rw [wp_ok]
    exact ⟨fun z hz => by
      rcases List.mem_cons.mp hz with rfl | hz
      · exact hy
      · exact h3 z hz, by simp [h4], h5⟩
theorem compGo_draw (hg : ∀ c, gd (c :: T)) : ∀ (ds : List D) (c : Option Ob), DrawOk c → (∀ d ∈ ds, ∀ c, DrawOk c → ∃ vs1, g d vs = some vs1 ∧ wp (tt vs1 (c :: T)) (DT T fun st => wp (e vs1 st) (DE T Pr))) →
    wp (compGo g tt e gd vs ds (c :: T)) fun ys st => (∀ y ∈ ys, Pr y) ∧ ys.length ≤ ds.length ∧ ∃ c2, DrawOk c2 ∧ st = c2 :: T
  | [], c, hc, _ => by
    unfold compGo
    rw [if_pos (hg _), wp_ok]
    exact ⟨by simp, Nat.le_refl _, c, hc, rfl⟩
  | d :: ds, c, hc, h => by
    unfold compGo
    rw [if_pos (hg _)]
    obtain ⟨vs1, e1, w⟩ := h d List.mem_cons_self c hc
    rw [e1]
    simp only [wp_okk]
    refine wp_mono w fun x st1 h1 => ?_
    obtain ⟨c1, hc1, rfl, b, rfl, hb⟩ := h1
    cases b with
    | true =>
      simp only [wp_okk]
      refine wp_mono (hb rfl) fun y st1 h1 => ?_
      obtain ⟨hy, c2, hc2, rfl⟩ := h1
      rw [wp_okk]
      refine wp_mono (compGo_draw hg ds c2 hc2 fun d' hd => h d' (List.mem_cons_of_mem _ hd)) fun ys st2 h2 => ?_
      obtain ⟨h3, h4, h5⟩ := h2
      rw [wp_ok]
      exact ⟨fun z hz => by
        rcases List.mem_cons.mp hz with rfl | hz
        · exact hy
        · exact h3 z hz, by simp; omega, h5⟩
    | false =>
      refine wp_mono (compGo_draw hg ds c1 hc1 fun d' hd => h d' (List.mem_cons_of_mem _ hd)) fun ys st2 h2 => ?_
      obtain ⟨h3, h4, h5⟩ := h2
      exact ⟨h3, by simp; omega, h5⟩
end
theorem list_of {α : Type} {f : α → D} : ∀ {ys : List D}, (∀ y ∈ ys, ∃ a, y = f a) → ∃ l : List α, ys = l.map f
  | [], _ => ⟨[], rfl⟩
  | y :: ys, h => by
    obtain ⟨a, rfl⟩ := h y List.mem_cons_self
    obtain ⟨l, rfl⟩ := list_of fun z hz => h z (List.mem_cons_of_mem _ hz)
    exact ⟨a :: l, rfl⟩
theorem list_ofP {α : Type} {f : α → D} {p : α → Prop} : ∀ {ys : List D}, (∀ y ∈ ys, ∃ a, y = f a ∧ p a) → ∃ l : List α, ys = l.map f ∧ ∀ a ∈ l, p a
  | [], _ => ⟨[], rfl, fun _ h => by cases h⟩
  | y :: ys, h => by
    obtain ⟨a, rfl, ha⟩ := h y List.mem_cons_self
    obtain ⟨l, rfl, hl⟩ := list_ofP fun z hz => h z (List.mem_cons_of_mem _ hz)
    exact ⟨a :: l, rfl, fun b hb => by
      rcases List.mem_cons.mp hb with rfl | hb
      · exact ha
      · exact hl b hb⟩
@[simp] theorem grd_nil {ds : List D} {st : Store} : grd (ds, []) st = True := rfl
theorem enumP_map {α : Type} {f : α → D} {xs : List α} : enumP (xs.map f) = xs.zipIdx.map fun p => D.tup [.int (p.2 : Nat), f p.1] := by
  unfold enumP
  rw [List.zipIdx_map, List.map_map]
  rfl
theorem fitR_of {i : Int} (h0 : -1000000000 ≤ i) (h1 : i ≤ 1000000000) : fitR i := ⟨by omega, by omega⟩
/-- .. and what was put behind it -/
theorem gc_drawL {c c' : Option Ob} {t l : Store} {d : D} (h : DrawOk c') (hd : lf d = true) : gcRet (c :: t) d (c' :: (t ++ l)) = .ok d (c' :: t) := by
  have k : keepOk (c :: t) (c' :: (t ++ l)) := fun i hi => by
    cases i with
    | zero =>
      refine .inr ⟨c', rfl, fun ob e => ?_⟩
      obtain ⟨ns, i, n, seed, rfl⟩ := h
      injection e with e
      subst e
      have : lfs [.lst (ns.map D.int), .int i, .int n, .int seed] = true := by simp [lfs_ints]
      exact locsLts_mono (Nat.zero_le _) this
    | succ i =>
      refine .inl ?_
      show (t ++ l)[i]? = t[i]?
      exact List.getElem?_append_left (by simpa using hi)
  rw [gc_ret k hd]
  show Re.ok d ((c' :: (t ++ l)).take (t.length + 1)) = _
  rw [List.take_succ_cons, List.take_left']
  rfl
theorem cut_to {ds : List D} {k : Nat} (h : k ≤ ds.length) : cutD ds none (some (k : Int)) = ds.take k := by
  unfold cutD
  rw [HT.sIx_none, HT.sIx_nat, Nat.min_eq_left h]
  simp
theorem cut_from {ds : List D} {k : Nat} (h : k ≤ ds.length) : cutD ds (some (k : Int)) none = ds.drop k := by
  unfold cutD
  rw [HT.sIx_none, HT.sIx_nat, Nat.min_eq_left h]
  exact List.take_of_length_le (by simp)
theorem gc_nil {st : Store} {d : D} (h : lf d = true) : gcRet [] d st = .ok d [] := by
  rw [gc_ret (fun i hi => by simp at hi) h]
  rfl
theorem rng_drop {lo : Int} {n j : Nat} {d : D} {r : List D} (h : (rng lo n).drop j = d :: r) : j < n ∧ d = .int (lo + j) ∧ r = (rng lo n).drop (j + 1) := by
  have hj : j < n := by
    rcases Nat.lt_or_ge j n with h1 | h1
    · exact h1
    · rw [List.drop_eq_nil_of_le (by simpa using h1)] at h
      cases h
  rw [List.drop_eq_getElem_cons (by simpa using hj)] at h
  injection h with h1 h2
  refine ⟨hj, ?_, h2.symm⟩
  rw [← h1]
  simp [rng]
theorem rng_end {lo : Int} {n j : Nat} (h : [] = (rng lo n).drop j) : n ≤ j := by
  have := congrArg List.length h
  simp at this
  omega
theorem max2_int {i j : Int} {st : Store} : maxD [.int i, .int j] st = .ok (.int (if j > i then j else i)) st := rfl
theorem compGo_map {α : Type} {g : TM} {e : EM} {gd : Store → Prop} {vs : Vars} {st : Store} {f h : α → D} (hg : gd st) : ∀ {xs : List α},
    (∀ x ∈ xs, ∃ vs1, g (f x) vs = some vs1 ∧ e vs1 st = .ok (h x) st) → compGo g (eC (.bl true)) e gd vs (xs.map f) st = .ok (xs.map h) st
  | [], _ => by
    show compGo g (eC (.bl true)) e gd vs [] st = _
    unfold compGo
    rw [if_pos hg]
    rfl
  | x :: xs, H => by
    show compGo g (eC (.bl true)) e gd vs (f x :: xs.map f) st = _
    unfold compGo
    rw [if_pos hg]
    obtain ⟨vs1, e1, e2⟩ := H x List.mem_cons_self
    have ih := compGo_map hg fun y hy => H y (List.mem_cons_of_mem _ hy)
    rw [e1]
    simp only [eC_eq, okk_ok, e2, ih, List.map_cons]
theorem compGo_fmap {α : Type} {g : TM} {t e : EM} {gd : Store → Prop} {vs : Vars} {st : Store} {f h : α → D} {p : α → Bool} (hg : gd st) : ∀ {xs : List α},
    (∀ x ∈ xs, ∃ vs1, g (f x) vs = some vs1 ∧ t vs1 st = .ok (.bl (p x)) st ∧ (p x = true → e vs1 st = .ok (h x) st)) → compGo g t e gd vs (xs.map f) st = .ok ((xs.filter p).map h) st
  | [], _ => by
    show compGo g t e gd vs [] st = _
    unfold compGo
    rw [if_pos hg]
    rfl
  | x :: xs, H => by
    show compGo g t e gd vs (f x :: xs.map f) st = _
    unfold compGo
    rw [if_pos hg]
    obtain ⟨vs1, e1, e2, e3⟩ := H x List.mem_cons_self
    have ih := compGo_fmap hg fun y hy => H y (List.mem_cons_of_mem _ hy)
    rw [e1]
    simp only [e2, okk_ok]
    cases hp : p x with
    | true => simp only [e3 hp, okk_ok, ih, List.filter_cons, hp, if_true, List.map_cons]
    | false => simp only [ih, List.filter_cons, hp, Bool.false_eq_true, if_false]
end Dn
namespace Dn
open PySem PySem.Spec PyProof.Rows L2
/-! ### sorted(xs), min(xs) of like data -/
def isTupC : PyData → Bool
  | .tuple (_ :: _) => true
  | _ => false
def notTN : PyData → Bool
  | .tuple _ => false
  | .none => false
  | _ => true
def likes (ds : List D) : Bool := (ds.map pd).all fun x => (ds.map pd).all fun y => PySem.W.alike x y
def srtOk (ds : List D) : Bool := ds.all (okd 40) && (likes ds && ((ds.map pd).all isTupC || (ds.map pd).all notTN))
def leDt (x y : D) : Bool := PySem.W.dataLe false pd x y
def sortedD (b : Bool) : List D → Store → Re D := one fun x st => opt (lstOf st x) fun ds => if srtOk ds = true then mkNew b (ds.mergeSort leDt) st else .bad
def ltDt (x y : D) : Bool := PySem.W.dataLt (pd x) (pd y)
def minDt (x : D) (xs : List D) : D := xs.foldl (fun a y => if ltDt y a then y else a) x
def notNon : D → Bool
  | .non => false
  | _ => true
def minB (xs : List D) (st : Store) : Re D := match xs with
  | [x] => match (lstOf st x).bind intsOf with
    | some _ => min1 x st
    | none => match lstOf st x with
      | some (d :: ds) => if ((d :: ds).all (okd 40) && (likes (d :: ds) && (d :: ds).all notNon)) = true then .ok (minDt d ds) st else .bad
      | _ => .bad
  | _ => minD xs st
theorem likes_all {ds : List D} (h : likes ds = true) : PySem.W.AllAlike (ds.map pd) := fun d hd d' hd' => by
  unfold likes at h
  rw [List.all_eq_true] at h
  exact List.all_eq_true.mp (h d hd) d' hd'
theorem sortable_of {ds : List D} (h : ((ds.map pd).all isTupC || (ds.map pd).all notTN) = true) : PySem.W.Sortable (ds.map pd) := by
  rw [Bool.or_eq_true] at h
  rcases h with h | h
  · refine .inl fun d hd => ?_
    have := List.all_eq_true.mp h d hd
    cases d with
    | tuple xs =>
      cases xs with
      | nil => cases this
      | cons x r => exact ⟨x, r, rfl⟩
    | _ => cases this
  · refine .inr fun d hd => ?_
    have := List.all_eq_true.mp h d hd
    refine ⟨fun e => ?_, fun xs e => ?_⟩
    · subst e; cases this
    · subst e; cases this
def rSortA (K : PySem.W.Frag) : List V → Hp → VK → Prop := fun vs H Q => ∃ (a : Addr) (ps : List (V × D)), vs = [V.ref a] ∧ SqL K H a (ps.map Prod.fst) ∧ DpAll K H (ps.map Prod.fst) ((ps.map Prod.snd).map pd) ∧ srtOk (ps.map Prod.snd) = true ∧
  ∀ p, H p = none → Q (.ref p) (upd H p (.lst ((ps.mergeSort (PySem.W.dataLe false fun p => pd p.2)).map Prod.fst)))
theorem each_vals : ∀ {ps : List (V × D)} {its : List Value}, Vals (ps.map Prod.fst) its → PySem.W.EachIs (fun v (p : V × D) => RelV p.1 v) its ps
  | [], _, r => by
    cases r
    exact .nil
  | p :: ps, _, r => by
    cases r with
    | cons r1 r2 => exact .cons r1 (each_vals r2)
theorem vals_each : ∀ {ps : List (V × D)} {its : List Value}, PySem.W.EachIs (fun v (p : V × D) => RelV p.1 v) its ps → Vals (ps.map Prod.fst) its
  | [], _, r => by
    cases r
    exact .nil
  | p :: ps, _, r => by
    cases r with
    | cons r1 r2 => exact .cons r1 (vals_each r2)
theorem cr_sortA {X : Cx} (hu : X.A.units + 65 < cLine) : CallR X (.builtin "sorted") (rSortA X.K) := by
  intro pins s σ H vs us Q I r h
  obtain ⟨a, ps, rfl, hs, hd, ho, q⟩ := h
  obtain ⟨its, rv, hl, hz⟩ := I.list hs
  rw [Vals.ref1 r]
  have e := each_vals rv
  obtain ⟨as, hra⟩ := Dp.readsAll I _ _ its hd rv
  rw [List.map_map] at hra
  have er : PySem.W.EachIs (fun v (p : V × D) => ∃ as, Reads s.heap v (pd p.2) as) its ps := PySem.W.readsAll_each (fun p : V × D => pd p.2) hra
  unfold srtOk at ho
  rw [Bool.and_eq_true, Bool.and_eq_true] at ho
  obtain ⟨h1, h2, h3⟩ := ho
  have e2 : ps.map (fun p : V × D => pd p.2) = (ps.map Prod.snd).map pd := by rw [List.map_map]; rfl
  have hal : PySem.W.AllAlike (ps.map fun p : V × D => pd p.2) := by rw [e2]; exact likes_all h2
  have hk : PySem.W.Sortable (ps.map fun p : V × D => pd p.2) := by rw [e2]; exact sortable_of h3
  rw [List.length_map] at hz
  refine PySem.W.sorted_data hl.isList e er hal hk hz (fun p hp => ?_) fun out hol eo => ?_
  · have := (okd_shape 40 p.2 (List.all_eq_true.mp h1 p.2 (List.mem_map_of_mem hp))).2
    omega
  · obtain ⟨ep, he'⟩ := PyProof.Rows.sortedAll_at s.heap its out.toArray
    have hlen : ((ps.mergeSort (PySem.W.dataLe false fun p : V × D => pd p.2)).map Prod.fst).length ≤ sizeLine := by
      rw [List.length_map, (List.mergeSort_perm _ _).length_eq]
      exact hz
    exact ⟨.ref _, upd H (s.heap.objs.size + 1) (.lst ((ps.mergeSort (PySem.W.dataLe false fun p : V × D => pd p.2)).map Prod.fst)), I.laid (t' := s.toks) (fun _ _ => PyProof.Rows.sortedAll_old) (Nat.le_succ _) ⟨hlen, out, ep, vals_each eo, he'⟩, rfl, q _ (I.hok.fresh (Nat.le_succ _))⟩
section
variable {K : PySem.W.Frag} {mg : Str → Option Value} {μ : List Addr} {G H : Hp}
theorem reps_zip : ∀ {ds : List D} {vs : List V}, Reps K μ G ds vs → ∃ ps : List (V × D), ps.map Prod.fst = vs ∧ ps.map Prod.snd = ds ∧ ∀ p ∈ ps, Rep K μ G p.2 p.1
  | [], vs, h => by
    rw [reps_nil h]
    exact ⟨[], rfl, rfl, fun _ h => by cases h⟩
  | d :: ds, vs, h => by
    obtain ⟨v, r, rfl, hv, t⟩ := reps_cons h
    obtain ⟨ps, h1, h2, h3⟩ := reps_zip t
    refine ⟨(v, d) :: ps, by rw [List.map_cons, h1], by rw [List.map_cons, h2], fun p hp => ?_⟩
    rcases List.mem_cons.mp hp with rfl | hp
    · exact hv
    · exact h3 p hp
theorem zip_reps : ∀ {ps : List (V × D)}, (∀ p ∈ ps, Rep K μ G p.2 p.1) → Reps K μ G (ps.map Prod.snd) (ps.map Prod.fst)
  | [], _ => .nil
  | p :: ps, h => .cons (h p List.mem_cons_self) (zip_reps fun q hq => h q (List.mem_cons_of_mem _ hq))
theorem zip_dp (e : Ex G H) {n : Nat} : ∀ {ps : List (V × D)}, (∀ p ∈ ps, Rep K μ G p.2 p.1) → (ps.map Prod.snd).all (okd n) = true → DpAll K H (ps.map Prod.fst) ((ps.map Prod.snd).map pd)
  | [], _, _ => .nil
  | p :: ps, h, o => by
    rw [List.map_cons, List.all_cons, Bool.and_eq_true] at o
    exact .cons (rep_dp e n p.2 p.1 o.1 (h p List.mem_cons_self)) (zip_dp e (fun q hq => h q (List.mem_cons_of_mem _ hq)) o.2)
theorem sort_snd {ps : List (V × D)} : (ps.mergeSort (PySem.W.dataLe false fun p => pd p.2)).map Prod.snd = (ps.map Prod.snd).mergeSort leDt := by
  refine List.map_mergeSort fun a _ b _ => ?_
  rfl
theorem s_sorted (b : Bool) : SN K mg (sortedD b) (rSortA K) := sn_one fun W σ μ G F st H x v Q k rv h => by
  obtain ⟨ds, e, h⟩ := opt_done h
  obtain ⟨ho, h⟩ := ite_done h
  obtain ⟨a, ws, rfl, hs, rw'⟩ := lstOf_rep k rv e
  obtain ⟨ps, rfl, rfl, hp⟩ := reps_zip rw'
  have ho2 := ho
  unfold srtOk at ho2
  rw [Bool.and_eq_true] at ho2
  refine ⟨a, ps, rfl, .of hs, zip_dp k.ex hp ho2.1, ho, ?_⟩
  refine new_list k (ds := (ps.map Prod.snd).mergeSort leDt) ?_ h
  rw [← sort_snd]
  exact zip_reps fun p h' => hp p ((List.mergeSort_perm _ _).mem_iff.mp h')
end
/-! ### min -/
def foldP (p : V × D) (ps : List (V × D)) : V × D := ps.foldl (fun a y => if ltDt y.2 a.2 then y else a) p
theorem foldP_snd : ∀ (p : V × D) (ps : List (V × D)), (foldP p ps).2 = minDt p.2 (ps.map Prod.snd)
  | _, [] => rfl
  | p, q :: ps => by
    show (foldP (if ltDt q.2 p.2 then q else p) ps).2 = minDt (if ltDt q.2 p.2 then q.2 else p.2) (ps.map Prod.snd)
    rw [foldP_snd]
    by_cases h : ltDt q.2 p.2 = true
    · rw [if_pos h, if_pos h]
    · rw [if_neg h, if_neg h]
theorem foldP_mem : ∀ (p : V × D) (ps : List (V × D)), foldP p ps ∈ p :: ps
  | _, [] => List.mem_cons_self
  | p, q :: ps => by
    have h := foldP_mem (if ltDt q.2 p.2 then q else p) ps
    show foldP (if ltDt q.2 p.2 then q else p) ps ∈ _
    rcases List.mem_cons.mp h with h | h
    · rw [h]
      by_cases h2 : ltDt q.2 p.2 = true
      · rw [if_pos h2]; exact List.mem_cons_of_mem _ List.mem_cons_self
      · rw [if_neg h2]; exact List.mem_cons_self
    · exact List.mem_cons_of_mem _ (List.mem_cons_of_mem _ h)
def rMinD (K : PySem.W.Frag) : List V → Hp → VK → Prop := fun vs H Q => ∃ (a : Addr) (p : V × D) (ps : List (V × D)), vs = [V.ref a] ∧ SqL K H a ((p :: ps).map Prod.fst) ∧ DpAll K H ((p :: ps).map Prod.fst) (((p :: ps).map Prod.snd).map pd) ∧
  (((p :: ps).map Prod.snd).all (okd 40) && (likes ((p :: ps).map Prod.snd) && ((p :: ps).map Prod.snd).all notNon)) = true ∧ Q (foldP p ps).1 H
theorem getD_pd (l : List (V × D)) (i : Nat) : ((l.map Prod.snd).map pd).getD i .none = pd (l.getD i (V.non, D.non)).2 := by
  rw [List.getD_eq_getElem?_getD, List.getD_eq_getElem?_getD, List.getElem?_map, List.getElem?_map]
  cases l[i]? <;> rfl
theorem cr_minD {X : Cx} (hc : X.calm = true) (hu : X.A.units + 65 < cLine) : CallR X (.builtin "min") (rMinD X.K) := by
  intro pins s σ H vs us Q I r h
  obtain ⟨a, p, ps, rfl, hs, hd, ho, q⟩ := h
  obtain ⟨its, rv, hl, hz⟩ := I.list hs
  rw [Vals.ref1 r]
  obtain ⟨as, hra⟩ := Dp.readsAll I _ _ its hd rv
  rw [Bool.and_eq_true, Bool.and_eq_true] at ho
  obtain ⟨h1, h2, h3⟩ := ho
  have hln : its.toArray.size = ps.length + 1 := by
    have := rv.length
    rw [List.length_map, List.length_cons] at this
    simp only [List.size_toArray]
    exact this.symm
  have hal : PySem.W.AlikeAll (((p :: ps).map Prod.snd).map pd) := ⟨fun x hx y hy => likes_all h2 x hx y hy, fun x hx e => by
    obtain ⟨d, hd, rfl⟩ := List.mem_map.mp hx
    have := List.all_eq_true.mp h3 d hd
    have h4 := List.all_eq_true.mp h1 d hd
    cases d with
    | non => cases this
    | frz _ => simp [okd] at h4
    | loc _ => simp [okd] at h4
    | _ => simp [pd] at e⟩
  have hdep : PyData.depthAll (((p :: ps).map Prod.snd).map pd) ≤ 40 := by
    have all : ∀ ds : List D, ds.all (okd 40) = true → PyData.depthAll (ds.map pd) ≤ 40 := fun ds => by
      induction ds with
      | nil => intro _; simp [PyData.depthAll]
      | cons d ds ih =>
        intro h
        rw [List.all_cons, Bool.and_eq_true] at h
        have := (okd_shape 40 d h.1).2
        have := ih h.2
        rw [List.map_cons, PyData.depthAll]
        omega
    exact all _ h1
  have hcm := PySem.W.cmpIn_lt (prog := X.prog) (w := X.w) (A := X.A.in1) (s := s) (vs := its.toArray) hra hal (by show X.A.units + 1 + _ < _; omega)
  have e0 : (fun i j => PySem.W.dataLt ((((p :: ps).map Prod.snd).map pd).getD i .none) ((((p :: ps).map Prod.snd).map pd).getD j .none)) = fun i j => (fun x y : V × D => ltDt x.2 y.2) ((p :: ps).getD i (V.non, D.non)) ((p :: ps).getD j (V.non, D.non)) := by
    funext i j
    rw [getD_pd, getD_pd]
    rfl
  rw [e0] at hcm
  refine call_min_walkH (PySem.W.iter_listW (A := X.A.in1) (I.ok.hd hc) hl.isList fun s₂ e W st hfp hw hk => ?_)
  refine ⟨_, _, _, _, _, _, _, s.heap, _, rfl, W, st, hfp, by omega, hw, hk, hcm, fun v s' hP m => ?_⟩
  obtain ⟨h', tk, rfl, hk'⟩ := PySem.W.moved_old e rfl m
  obtain ⟨f1, f2⟩ := PySem.W.argBest_fold (fun x y : V × D => ltDt x.2 y.2) (V.non, D.non) p ps ps.length (Nat.le_refl _)
  rw [List.take_length] at f2
  have e1 : its.toArray.size - 1 = ps.length := by omega
  rw [e1] at hP
  have hi : argBest (fun i j => (fun x y : V × D => ltDt x.2 y.2) ((p :: ps).getD i (V.non, D.non)) ((p :: ps).getD j (V.non, D.non))) ps.length < (p :: ps).length := by
    rw [List.length_cons]
    exact Nat.lt_succ_of_le f1
  have hg : (p :: ps)[argBest (fun i j => (fun x y : V × D => ltDt x.2 y.2) ((p :: ps).getD i (V.non, D.non)) ((p :: ps).getD j (V.non, D.non))) ps.length]? = some (foldP p ps) := by
    rw [List.getD_eq_getElem?_getD, List.getElem?_eq_getElem hi] at f2
    rw [List.getElem?_eq_getElem hi]
    exact congrArg some f2
  obtain ⟨u, hu1, hu2⟩ := Vals.get rv (i := argBest (fun i j => (fun x y : V × D => ltDt x.2 y.2) ((p :: ps).getD i (V.non, D.non)) ((p :: ps).getD j (V.non, D.non))) ps.length) (x := (foldP p ps).1) (by rw [List.getElem?_map, hg]; rfl)
  have hP' : its[argBest (fun i j => (fun x y : V × D => ltDt x.2 y.2) ((p :: ps).getD i (V.non, D.non)) ((p :: ps).getD j (V.non, D.non))) ps.length]? = some v := by
    rw [← List.getElem?_toArray]
    exact hP
  rw [hP'] at hu1
  injection hu1 with hu1
  subst hu1
  exact ⟨_, H, I.kept hk', hu2, q⟩
abbrev rMinB (K : PySem.W.Frag) : List V → Hp → VK → Prop := fun xs H Q => rMinA K xs H Q ∨ rMinD K xs H Q
theorem or_minB {X : Cx} (hc : X.calm = true) (hu : X.A.units + 65 < cLine) : CallR X (.builtin "min") (rMinB X.K) := (or_min hc).or (cr_minD hc hu)
theorem s_minB {K : PySem.W.Frag} {mg : Str → Option Value} : SN K mg minB (rMinB K) := fun W σ μ G F st H xs vs Q k rv h => by
  match xs, rv, h with
  | [x], rv, h =>
    cases e1 : (lstOf st x).bind intsOf with
    | some ns =>
      have e : minB [x] st = minD [x] st := by
        unfold minB minD
        simp only [e1]
      rw [e] at h
      exact .inl (s_min W σ μ G F st H [x] vs Q k rv h)
    | none =>
      cases e2 : lstOf st x with
      | none =>
        have e : minB [x] st = .bad := by
          unfold minB
          dsimp only
          rw [e1]
          dsimp only
          rw [e2]
        rw [e] at h
        exact h.elim
      | some ds =>
        cases ds with
        | nil =>
          have e : minB [x] st = .bad := by
            unfold minB
            dsimp only
            rw [e1]
            dsimp only
            rw [e2]
          rw [e] at h
          exact h.elim
        | cons d ds =>
          have e : minB [x] st = if ((d :: ds).all (okd 40) && (likes (d :: ds) && (d :: ds).all notNon)) = true then .ok (minDt d ds) st else .bad := by
            unfold minB
            dsimp only
            rw [e1]
            dsimp only
            rw [e2]
          rw [e] at h
          obtain ⟨ho, h⟩ := ite_done h
          obtain ⟨v, r, rfl, hv, t⟩ := reps_cons rv
          rw [reps_nil t]
          obtain ⟨a, ws, rfl, hs, rw'⟩ := lstOf_rep k hv e2
          obtain ⟨ps, e3, e4, hp⟩ := reps_zip rw'
          cases ps with
          | nil => cases e4
          | cons p ps =>
            rw [← e4] at ho
            have ho2 := ho
            rw [Bool.and_eq_true] at ho2
            injection e4 with e5 e6
            subst e5 e6
            refine .inr ⟨a, p, ps, rfl, by rw [e3]; exact .of hs, zip_dp k.ex hp ho2.1, ho, ?_⟩
            refine fin_here k h ?_
            rw [← foldP_snd]
            exact hp _ (foldP_mem p ps)
  | [], rv, h => exact .inl (s_min W σ μ G F st H [] vs Q k rv h)
  | x :: y :: r, rv, h => exact .inl (s_min W σ μ G F st H (x :: y :: r) vs Q k rv h)
end Dn
namespace Dn
open PySem PySem.Spec PyProof.Rows L2
/-! ### more values -/
section
variable {st : Store} {b p q : Bool} {i j : Int} {z y : Str} {ds es : List D} {x : D} {n : Nat}
@[simp] theorem is_bl : isD (.bl p) (.bl q) st = .ok (.bl (decide (p = q))) st := rfl
@[simp] theorem is_bl_non : isD (.bl p) .non st = .ok (.bl false) st := rfl
@[simp] theorem is_non_non : isD .non .non st = .ok (.bl true) st := rfl
@[simp] theorem is_int_non : isD (.int i) .non st = .ok (.bl false) st := rfl
@[simp] theorem is_str_non : isD (.str z) .non st = .ok (.bl false) st := rfl
@[simp] theorem is_tup_non : isD (.tup ds) .non st = .ok (.bl false) st := rfl
@[simp] theorem isnot_bl_non : isnotD (.bl p) .non st = .ok (.bl true) st := rfl
@[simp] theorem isnot_non_non : isnotD .non .non st = .ok (.bl false) st := rfl
@[simp] theorem isnot_int_non : isnotD (.int i) .non st = .ok (.bl true) st := rfl
@[simp] theorem isnot_str_non : isnotD (.str z) .non st = .ok (.bl true) st := rfl
@[simp] theorem isnot_tup_non : isnotD (.tup ds) .non st = .ok (.bl true) st := rfl
@[simp] theorem ne_bl : neD (.bl p) (.bl q) st = .ok (.bl !(decide (p = q))) st := rfl
@[simp] theorem eq_non_non : eqD .non .non st = .ok (.bl true) st := rfl
@[simp] theorem eqv_bl : eqvD (.bl p) (.bl q) = decide (p = q) := by
  unfold eqvD
  cases p <;> cases q <;> simp [pd, PyData.eqv]
@[simp] theorem eqv_non_non : eqvD .non .non = true := by simp [eqvD, pd, PyData.eqv]
@[simp] theorem eqv_non_bl : eqvD .non (.bl p) = false := by simp [eqvD, pd, PyData.eqv]
@[simp] theorem eqv_bl_non : eqvD (.bl p) .non = false := by simp [eqvD, pd, PyData.eqv]
@[simp] theorem eqv_int_non : eqvD (.int i) .non = false := by simp [eqvD, pd, PyData.eqv]
@[simp] theorem eqv_non_int : eqvD .non (.int i) = false := by simp [eqvD, pd, PyData.eqv]
@[simp] theorem eqv_str_non : eqvD (.str z) .non = false := by simp [eqvD, pd, PyData.eqv]
@[simp] theorem eqv_non_str : eqvD .non (.str z) = false := by simp [eqvD, pd, PyData.eqv]
@[simp] theorem shl_int : shlD (.int i) (.int j) st = if 0 ≤ j ∧ j ≤ 1000000 ∧ i.natAbs < 2 ^ 64 then .ok (.int (i * 2 ^ j.toNat)) st else .bad := rfl
@[simp] theorem shr_int : shrD (.int i) (.int j) st = if 0 ≤ j then .ok (.int (i / 2 ^ j.toNat)) st else .bad := rfl
@[simp] theorem and_int : andD (.int i) (.int j) st = .ok (.int (Builtin.bitAnd i j)) st := rfl
@[simp] theorem and_one : Builtin.bitAnd i 1 = i % 2 := bitAnd_m1 i
@[simp] theorem cut_tail : cutD (x :: ds) (some 1) none = ds := by
  have := cut_from (ds := x :: ds) (k := 1) (by simp)
  simpa using this
theorem cut_from1 : cutD ds (some 1) none = ds.drop 1 := by
  cases ds with
  | nil => rfl
  | cons x ds => simp
@[simp] theorem sl_lst {lo hi : Option Int} : sliceD b (.lst ds) lo hi st = mkNew b (cutD ds lo hi) st := rfl
@[simp] theorem sum_eq : sumD [x] st = opt ((lstOf st x).bind intsOf) fun ns => .ok (.int ns.sum) st := rfl
@[simp] theorem all_eq : allD [x] st = opt ((lstOf st x).bind blsOf) fun bs => .ok (.bl (bs.all id)) st := rfl
@[simp] theorem any_eq : anyD [x] st = opt ((lstOf st x).bind blsOf) fun bs => .ok (.bl (bs.any id)) st := rfl
@[simp] theorem sorted_eq : sortedD b [x] st = opt (lstOf st x) fun ds => if srtOk ds = true then mkNew b (ds.mergeSort leDt) st else .bad := rfl
@[simp] theorem intsOf_nil : intsOf [] = some [] := rfl
@[simp] theorem intsOf_cons : intsOf (.int i :: ds) = (intsOf ds).map (i :: ·) := rfl
@[simp] theorem blsOf_nil : blsOf [] = some [] := rfl
@[simp] theorem blsOf_cons : blsOf (.bl p :: ds) = (blsOf ds).map (p :: ·) := rfl
end
@[simp] theorem intsOf_ints {α : Type} {f : α → Int} : ∀ {xs : List α}, intsOf (xs.map fun a => .int (f a)) = some (xs.map f)
  | [] => rfl
  | x :: xs => by
    show (intsOf (xs.map fun a => .int (f a))).map (f x :: ·) = _
    rw [intsOf_ints]
    rfl
@[simp] theorem blsOf_bls {α : Type} {f : α → Bool} : ∀ {xs : List α}, blsOf (xs.map fun a => .bl (f a)) = some (xs.map f)
  | [] => rfl
  | x :: xs => by
    show (blsOf (xs.map fun a => .bl (f a))).map (f x :: ·) = _
    rw [blsOf_bls]
    rfl
theorem intsOf_map' {ns : List Int} : intsOf (ns.map .int) = some ns := by
  have := intsOf_ints (f := id) (xs := ns)
  simpa using this
/-- numbers in a tuple or a list -/
theorem any_eqv_int {α : Type} {f : α → Int} {xs : List α} {i : Int} : (xs.map fun a => D.int (f a)).any (fun z => eqvD z (.int i)) = decide (∃ a ∈ xs, f a = i) := by
  rw [List.any_map]
  induction xs with
  | nil => simp
  | cons x xs ih => simp_all
theorem all_flat_int {α : Type} {f : α → Int} {xs : List α} : (xs.map fun a => D.int (f a)).all flatD = true := by
  rw [List.all_map]
  exact List.all_eq_true.mpr fun _ _ => rfl
theorem in_ints {α : Type} {f : α → Int} {xs : List α} {i : Int} {st : Store} {y : D} (h : seqOf st y = some (xs.map fun a => D.int (f a))) : inD (.int i) y st = .ok (.bl (decide (∃ a ∈ xs, f a = i))) st := by
  rw [in_flat rfl all_flat_int h, any_eqv_int]
theorem nin_ints {α : Type} {f : α → Int} {xs : List α} {i : Int} {st : Store} {y : D} (h : seqOf st y = some (xs.map fun a => D.int (f a))) : ninD (.int i) y st = .ok (.bl !(decide (∃ a ∈ xs, f a = i))) st := by
  rw [nin_flat rfl all_flat_int h, any_eqv_int]
theorem rng_map {lo : Int} {n : Nat} : rng lo n = (List.range n).map fun (i : Nat) => D.int (lo + i) := rfl
theorem rng0_map {n : Nat} : rng 0 n = (List.range n).map fun (i : Nat) => D.int (i : Nat) := by
  unfold rng
  refine List.map_congr_left fun i _ => ?_
  rw [Int.zero_add]
/-! ### the order of data -/
theorem le_trans {x y z : D} (h : leDt x y = true) (k : leDt y z = true) : leDt x z = true := (PySem.W.sortLe_total (listOrd itemOrd) false fun b : D => PySem.W.keyToks (pd b)).trans x y z h k
theorem le_total (x y : D) : leDt x y = true ∨ leDt y x = true := (PySem.W.sortLe_total (listOrd itemOrd) false fun b : D => PySem.W.keyToks (pd b)).total x y
theorem sort_pw {ds : List D} : (ds.mergeSort leDt).Pairwise fun x y => leDt x y = true := List.pairwise_mergeSort (le := leDt) (fun _ _ _ h k => le_trans h k) (fun x y => by rw [Bool.or_eq_true]; exact le_total x y) ds
theorem leDt_is (x y : D) : leDt x y = !ltDt y x := rfl
theorem lt_of_eqv {x y : PyData} (ha : PySem.W.alike x y = true) (h : PyData.eqv x y = true) : PySem.W.dataLt x y = false := by
  unfold PySem.W.dataLt
  rw [(PySem.W.toks_eqv x y ha).1 h]
  exact PyProof.Rows.lex_irrefl (O := itemOrd) _
theorem inA_loc {neg : Bool} {f : D → D → Store → Re D} {x : D} {n : Nat} {ds : List D} {st : Store} (h : lstAt st n = some ds) : inA neg f x (.loc n) st = f x (.loc n) st := by
  have e1 : dGet st (.loc n) x = none := by
    unfold dGet
    simp only [lstAt_cell h]
  unfold inA
  rw [e1]
end Dn
namespace Dn
open PySem PySem.Spec PyProof.Rows L2
section
variable {P : Program} {w : World} {B : Around} {Er : Value → Shared → Prop} {z : Shared}
/-- what a set is made as -/
abbrev fresh (w : World) : Obj := { cls := .type "set", dict := none, data := .set #[] 0 (.fresh 0 0 (!w.params.followText "set-order")) }
theorem made_set {x : Value} {Q : Value → Shared → Prop} {T : Shared → Prop}
    (hi : wpAny (model P w) B.in1.in1 (Builtin.«set.__init__» ⟨[.ref z.heap.objs.size, x], []⟩) (fun f z2 => f = .done (.ret .none) ∧ T z2) (fun _ _ => False) { z with heap := z.heap.push (fresh w) })
    (hq : ∀ z2, T z2 → Q (.ref z.heap.objs.size) z2) :
    wpAny (model P w) B (call (.type "set") [x]) Q Er z := by
  obtain ⟨c0, l0, m0⟩ := F.called_set.mro
  have mk := F.called_set.made
  have sb := F.called_set.sub
  refine wpAny_call (codeAny_of_tree ?_)
  show wpAny _ _ (callAny (.type "set") _) _ _ _
  refine wpAny_pure ⟨Code.quiet_builtin _ (by decide +kernel), codeAny_builtin F.entry_type_call ?_⟩
  rw [Around.under_plain (weight_type_call_type "set" [x] []) rfl]
  have p1 := F.called_set.notType
  have p2 := F.called_set.canCreate
  have p3 := F.typeCall_set_1 x
  repeat (any_goals (first | assumption | wp_step))
  refine codeAny_mono (code_set_led1 x (E := Er) (Q₁ := fun v z1 => v = .ref z.heap.objs.size ∧ z1 = { z with heap := z.heap.push (fresh w) }) ⟨rfl, rfl⟩) fun r z1 hr => ?_
  rcases r with er | fl
  · exact hr
  rcases fl with _ | _ | _ | v
  · exact hr.elim
  · exact hr.elim
  · exact hr.elim
  · skip
    obtain ⟨rfl, rfl⟩ := hr
    have at0 : (z.heap.push (fresh w)).get? z.heap.objs.size = some (fresh w) := Heap.get?_push_size _ rfl
    have ty0 : Shared.TypeIs { z with heap := z.heap.push (fresh w) } (.ref z.heap.objs.size) "set" := ⟨_, at0, rfl⟩
    have i1 := F.called_set.init.lookup
    have i2 := F.called_set.init.bind (.ref z.heap.objs.size)
    repeat (any_goals (first | assumption | wp_step))
    refine codeAny_mono (codeAny_call_builtin (R := wants (fun r z2 => r = .none ∧ T z2) Er) F.called_set.init.plain F.entry_set_init (check_set_init_1 ty0 ?_)) fun r2 z2 h2 => ?_
    · refine wpAny_mono hi (fun f z2 h => ?_) fun _ _ h => h.elim
      obtain ⟨rfl, h⟩ := h
      exact ⟨rfl, h⟩
    · rcases r2 with er | fl
      · exact h2
      · rcases fl with _ | _ | _ | v
        · exact h2.elim
        · exact h2.elim
        · exact h2.elim
        · obtain ⟨rfl, h⟩ := h2
          repeat (any_goals (first | assumption | wp_step))
          exact hq _ h
theorem set_lst {l : Addr} {xs : Array Value} (ns : List Int) {Q : Value → Shared → Prop} (nh : B.handled = none) (hl : z.heap.IsList l xs) (hx : IntsAre xs.toList ns) (hb : ns.length + 1 < scanBound)
    (hq : ∀ (g : Heap) (tk c : Nat), SetR w g z.heap.objs.size (fun j => decide (j ∈ ns)) c → c ≤ ns.length → (∀ b o, z.heap.get? b = some o → g.get? b = some o) → Q (.ref z.heap.objs.size) { z with heap := g, toks := tk }) :
    wpAny (model P w) B (call (.type "set") [.ref l]) Q Er z := by
  have hn : xs.size = ns.length := by
    have e := hx.length
    rwa [Array.length_toList] at e
  have hlz : l < z.heap.objs.size := by
    obtain ⟨o, ho, _⟩ := hl
    exact Heap.lt_size ho
  have l2 : (z.heap.push (fresh w)).IsList l xs := hl.push _
  refine made_set (T := fun z2 => ∃ g tk c, z2 = { z with heap := g, toks := tk } ∧ SetR w g z.heap.objs.size (fun j => decide (j ∈ ns)) c ∧ c ≤ ns.length ∧ ∀ b o, z.heap.get? b = some o → g.get? b = some o) ?_ fun z2 h => ?_
  · obtain ⟨⟨lc, ld, lx, ls⟩, ho, lcls, ln, ldat⟩ := hl
    simp only at lcls ldat
    subst lcls ldat
    have ho2 : (z.heap.push (fresh w)).get? l = some ⟨.type "list", ld, .seq xs ln, ls⟩ := Heap.get?_push_of_some _ ho
    have k1 := F.sub_list_set
    have k2 := F.sub_list_frozenset
    have k3 : (Value.type "list" == Value.type "dict") = false := by decide
    unfold Builtin.«set.__init__» noKeywords Builtin.Frozenset.updateFrom
    generalize hPI : pyIter = PI
    wp_walk
    subst hPI
    refine wpAny_pyIter_list l2 (wpAny_bind (wpAny_runValue ?_))
    have zs : (z.heap.push (fresh w)).objs.size = z.heap.objs.size + 1 := Heap.size_push ..
    have nh3 : B.in1.in1.in1.handled = none := by simp [nh]
    have li : l ≠ (z.heap.push (fresh w)).objs.size := by
      rw [zs]
      exact Nat.ne_of_lt (Nat.lt_succ_of_lt hlz)
    have off : z.heap.objs.size ∉ [(z.heap.push (fresh w)).objs.size, l] := by
      rw [zs]
      simp only [List.mem_cons, List.not_mem_nil, or_false, not_or]
      exact ⟨Nat.ne_of_lt (Nat.lt_succ_self _), Nat.ne_of_gt hlz⟩
    have items : ∀ (i : Nat) (v : Value), xs[i]? = some v → ∃ k t, ns[i]? = some k ∧ v = .int k t := fun i v hv => by
      have hi : i < ns.length := hn ▸ (Array.getElem?_eq_some_iff.mp hv).1
      obtain ⟨t, e⟩ := IntsAre.int_at hx i v (by rw [Array.getElem?_toList]; exact hv)
      exact ⟨ns[i], t, List.getElem?_eq_getElem hi, by rw [e, List.getD_eq_getElem?_getD, List.getElem?_eq_getElem hi]; rfl⟩
    refine set_update_ints (Walks.list nh3 _ l li xs).toS _ off ns hn hb items (xs.size - 0) 0 _ (by omega) (Nat.zero_le _) ⟨⟨_, Heap.get?_push_size _ rfl, rfl, rfl⟩, l2.push _⟩
      ⟨0, Nat.le_refl 0, setR_new_at (Heap.get?_push_of_some _ (Heap.get?_push_size _ rfl))⟩ fun z3 c mv hc sr => ?_
    obtain ⟨g, g2, g3, tk, g5⟩ := z3
    obtain rfl : g2 = z.gens := mv.gens
    obtain rfl : g3 = z.drawn := mv.drawn
    obtain rfl : g5 = z.os := mv.os
    refine wpAny_pure ?_
    show wpAny _ _ (ret Value.none) _ _ _
    rw [hn] at hc
    refine wpAny_pure ⟨rfl, g, tk, c, rfl, sr, hc, fun b o e => ?_⟩
    have hb0 : b < z.heap.objs.size := Heap.lt_size e
    refine mv.heap b o ?_ (Heap.get?_push_of_some _ (Heap.get?_push_of_some _ e))
    simp only [List.mem_cons, List.not_mem_nil, or_false, not_or]
    exact ⟨Nat.ne_of_lt hb0, by rw [zs]; exact Nat.ne_of_lt (Nat.lt_succ_of_lt hb0)⟩
  · obtain ⟨g, tk, c, rfl, h1, h2, h3⟩ := h
    exact hq g tk c h1 h2 h3
theorem set_tpl {l : Addr} {xs : Array Value} (ks : List (Addr × List Int)) {Q : Value → Shared → Prop} (nh : B.handled = none) (hl : z.heap.IsTuple l xs) (hx : xs.toList = ks.map fun p => Value.ref p.1)
    (hk : ∀ p ∈ ks, IsT P w z.heap p.2 p.1) (hf : ks.length < 64) (hu : B.units + 3 < cLine)
    (hq : ∀ (g : Heap) (tk : Nat) L es ep t, SetTR P w g z.heap.objs.size L es ep t → Got ks ks.length L → (∀ b o, z.heap.get? b = some o → g.get? b = some o) → Q (.ref z.heap.objs.size) { z with heap := g, toks := tk }) :
    wpAny (model P w) B (call (.type "set") [.ref l]) Q Er z := by
  have hn : xs.size = ks.length := by
    have e := congrArg List.length hx
    rwa [Array.length_toList, List.length_map] at e
  have hlz : l < z.heap.objs.size := by
    obtain ⟨o, ho, _⟩ := hl
    exact Heap.lt_size ho
  have l2 : (z.heap.push (fresh w)).IsTuple l xs := hl.push _
  refine made_set (T := fun z2 => ∃ g tk L es ep t, z2 = { z with heap := g, toks := tk } ∧ SetTR P w g z.heap.objs.size L es ep t ∧ Got ks ks.length L ∧ ∀ b o, z.heap.get? b = some o → g.get? b = some o) ?_ fun z2 h => ?_
  · obtain ⟨⟨lc, ld, lx, ls⟩, ho, lcls, ln, ldat⟩ := hl
    simp only at lcls ldat
    subst lcls ldat
    have ho2 : (z.heap.push (fresh w)).get? l = some ⟨.type "tuple", ld, .seq xs ln, ls⟩ := Heap.get?_push_of_some _ ho
    have k1 := F.sub_tuple_set
    have k2 := F.sub_tuple_frozenset
    have k3 : (Value.type "tuple" == Value.type "dict") = false := by decide
    unfold Builtin.«set.__init__» noKeywords Builtin.Frozenset.updateFrom
    generalize hPI : pyIter = PI
    wp_walk
    subst hPI
    refine wpAny_pyIter_tuple l2 (wpAny_bind (wpAny_runValue ?_))
    have zs : (z.heap.push (fresh w)).objs.size = z.heap.objs.size + 1 := Heap.size_push ..
    have nh3 : B.in1.in1.in1.handled = none := by simp [nh]
    have li : l ≠ (z.heap.push (fresh w)).objs.size := by
      rw [zs]
      exact Nat.ne_of_lt (Nat.lt_succ_of_lt hlz)
    have off : z.heap.objs.size ∉ [(z.heap.push (fresh w)).objs.size, l] := by
      rw [zs]
      simp only [List.mem_cons, List.not_mem_nil, or_false, not_or]
      exact ⟨Nat.ne_of_lt (Nat.lt_succ_self _), Nat.ne_of_gt hlz⟩
    have items : ∀ (i : Nat) (v : Value), xs[i]? = some v → ∃ p, ks[i]? = some p ∧ v = .ref p.1 := fun i v hv => by
      have e : xs.toList[i]? = some v := by rw [Array.getElem?_toList]; exact hv
      rw [hx, List.getElem?_map] at e
      cases h : ks[i]? with
      | none => rw [h] at e; cases e
      | some p => rw [h] at e; exact ⟨p, rfl, (Option.some.inj e).symm⟩
    have away : ∀ b, z.heap.objs.size ≤ b → z.heap.get? b = none := fun b h => by
      cases e : z.heap.get? b with
      | none => rfl
      | some o => exact absurd (Nat.lt_of_lt_of_le (Heap.lt_size e) h) (Nat.lt_irrefl _)
    refine set_update_tups (Walks.tuple nh3 _ l li xs).toS _ off ks hn hf items z.heap hk (away _ (Nat.le_refl _)) (fun b hb => away b (by
        rw [List.mem_singleton.mp hb, zs]
        exact Nat.le_succ _)) hu (xs.size - 0) 0 _ (by omega) (Nat.zero_le _) ⟨⟨_, Heap.get?_push_size _ rfl, rfl, rfl⟩, l2.push _⟩ (fun b o e => Heap.get?_push_of_some _ (Heap.get?_push_of_some _ e))
      ⟨[], #[], 0, _, setTR_fresh (Heap.get?_push_of_some _ (Heap.get?_push_size _ rfl)), Got.zero ks⟩ fun z3 L es ep t mv sr gt kp => ?_
    obtain ⟨g, g2, g3, tk, g5⟩ := z3
    obtain rfl : g2 = z.gens := mv.gens
    obtain rfl : g3 = z.drawn := mv.drawn
    obtain rfl : g5 = z.os := mv.os
    refine wpAny_pure ?_
    show wpAny _ _ (ret Value.none) _ _ _
    rw [hn] at gt
    exact wpAny_pure ⟨rfl, g, tk, L, es, ep, t, rfl, sr, gt, kp⟩
  · obtain ⟨g, tk, L, es, ep, t, rfl, h1, h2, h3⟩ := h
    exact hq g tk L es ep t h1 h2 h3
end
/-! ### sorted(set(xs)) on data -/
def dd {α : Type} [DecidableEq α] : List α → List α
  | [] => []
  | x :: r => if x ∈ r then dd r else x :: dd r
theorem mem_dd {α : Type} [DecidableEq α] {a : α} : ∀ {l : List α}, a ∈ dd l ↔ a ∈ l
  | [] => Iff.rfl
  | x :: r => by
    unfold dd
    by_cases h : x ∈ r
    · rw [if_pos h, mem_dd (l := r), List.mem_cons]
      exact ⟨fun z => .inr z, fun z => z.elim (fun e => e ▸ h) id⟩
    · rw [if_neg h, List.mem_cons, mem_dd (l := r), List.mem_cons]
theorem nd_dd {α : Type} [DecidableEq α] : ∀ {l : List α}, (dd l).Nodup
  | [] => List.nodup_nil
  | x :: r => by
    unfold dd
    by_cases h : x ∈ r
    · rw [if_pos h]; exact nd_dd
    · rw [if_neg h]; exact List.nodup_cons.mpr ⟨fun z => h (mem_dd.mp z), nd_dd⟩
theorem dd_len {α : Type} [DecidableEq α] : ∀ {l : List α}, (dd l).length ≤ l.length
  | [] => Nat.le_refl _
  | x :: r => by
    unfold dd
    split
    · exact Nat.le_succ_of_le dd_len
    · exact Nat.succ_le_succ dd_len
/-- two rising rows with the same members -/
theorem rising_one {α : Type} {f : α → Int} : ∀ {l m : List α}, l.Pairwise (fun x y => f x < f y) → m.Pairwise (fun x y => f x < f y) → (∀ x, x ∈ l ↔ x ∈ m) → l = m
  | [], [], _, _, _ => rfl
  | [], y :: m, _, _, h => absurd ((h y).mpr List.mem_cons_self) (by simp)
  | x :: l, [], _, _, h => absurd ((h x).mp List.mem_cons_self) (by simp)
  | x :: l, y :: m, hl, hm, h => by
    obtain ⟨l1, l2⟩ := List.pairwise_cons.mp hl
    obtain ⟨m1, m2⟩ := List.pairwise_cons.mp hm
    have e : x = y := by
      rcases List.mem_cons.mp ((h x).mp List.mem_cons_self) with e | e
      · exact e
      · rcases List.mem_cons.mp ((h y).mpr List.mem_cons_self) with e2 | e2
        · exact e2.symm
        · have := m1 x e
          have := l1 y e2
          omega
    subst e
    refine congrArg (x :: ·) (rising_one l2 m2 fun z => ?_)
    constructor
    · intro hz
      rcases List.mem_cons.mp ((h z).mp (List.mem_cons_of_mem _ hz)) with e | e
      · subst e
        have := l1 z hz
        omega
      · exact e
    · intro hz
      rcases List.mem_cons.mp ((h z).mpr (List.mem_cons_of_mem _ hz)) with e | e
      · subst e
        have := m1 z hz
        omega
      · exact e
def tupD (k : List Int) : D := .tup (k.map .int)
def ints1 : D → Option (List Int)
  | .tup ds => intsOf ds
  | _ => none
def keysOf : List D → Option (List (List Int))
  | [] => some []
  | d :: r => (ints1 d).bind fun k => (keysOf r).map (k :: ·)
theorem keysOf_map : ∀ {ds : List D} {ks : List (List Int)}, keysOf ds = some ks → ds = ks.map tupD
  | [], ks, h => by injection h with h; subst h; rfl
  | d :: ds, ks, h => by
    have h' : (ints1 d).bind (fun k => (keysOf ds).map (k :: ·)) = some ks := h
    cases d with
    | tup xs =>
      cases e : intsOf xs with
      | none => simp [ints1, e] at h'
      | some k =>
        cases e2 : keysOf ds with
        | none => simp [ints1, e, e2] at h'
        | some r =>
          simp [ints1, e, e2] at h'
          subst h'
          rw [keysOf_map e2, intsOf_map e]
          rfl
    | _ => simp [ints1] at h'
theorem keysOf_tups : ∀ (ks : List (List Int)), keysOf (ks.map tupD) = some ks
  | [] => rfl
  | k :: ks => by
    show (intsOf (k.map .int)).bind (fun k => (keysOf (ks.map tupD)).map (k :: ·)) = _
    rw [intsOf_map', keysOf_tups ks]
    rfl
def big : Int := 1000000
def inc (f : α → Int) (l : List α) : List α := l.mergeSort fun a b => decide (f a ≤ f b)
theorem inc_perm {α : Type} (f : α → Int) (l : List α) : (inc f l).Perm l := List.mergeSort_perm _ _
theorem inc_pw {α : Type} (f : α → Int) (l : List α) : (inc f l).Pairwise fun a b => f a ≤ f b := by
  have := List.pairwise_mergeSort (le := fun a b : α => decide (f a ≤ f b)) (fun a b c h1 h2 => by simp at *; omega) (fun a b => by simp; omega) l
  exact this.imp fun h => of_decide_eq_true h
def ssI (ns : List Int) : List Int := inc id (dd ns)
def ssT (ks : List (List Int)) : List (List Int) := inc (TS.code big) (dd ks)
theorem mem_ssI {ns : List Int} {i : Int} : i ∈ ssI ns ↔ i ∈ ns := by
  unfold ssI
  rw [(inc_perm _ _).mem_iff, mem_dd]
theorem mem_ssT {ks : List (List Int)} {k : List Int} : k ∈ ssT ks ↔ k ∈ ks := by
  unfold ssT
  rw [(inc_perm _ _).mem_iff, mem_dd]
theorem ssI_up (ns : List Int) : (ssI ns).Pairwise (· < ·) := by
  have h1 := inc_pw id (dd ns)
  have h2 : (ssI ns).Nodup := (inc_perm id (dd ns)).nodup_iff.mpr nd_dd
  exact (List.Pairwise.and h1 h2).imp fun {a b} h => by
    have : a ≤ b := h.1
    have := h.2
    omega
theorem ssI_len (ns : List Int) : (ssI ns).length ≤ ns.length := by
  unfold ssI
  rw [(inc_perm _ _).length_eq]
  exact dd_len
theorem ssT_len (ks : List (List Int)) : (ssT ks).length ≤ ks.length := by
  unfold ssT
  rw [(inc_perm _ _).length_eq]
  exact dd_len
theorem ssT_nd (ks : List (List Int)) : (ssT ks).Nodup := (inc_perm _ _).nodup_iff.mpr nd_dd
def ssOk (ks : List (List Int)) : Bool := decide (ks.length < 64) && match ks with
  | [] => true
  | k :: _ => decide (1 ≤ k.length) && ks.all fun x => decide (x.length = k.length) && x.all fun i => decide (0 ≤ i) && decide (i < big)
theorem ssOk_is {ks : List (List Int)} (h : ssOk ks = true) : ks.length < 64 ∧ ∃ d, 1 ≤ d ∧ ∀ k ∈ ks, k.length = d ∧ TS.Bd big k := by
  unfold ssOk at h
  rw [Bool.and_eq_true] at h
  obtain ⟨h1, h2⟩ := h
  refine ⟨of_decide_eq_true h1, ?_⟩
  cases ks with
  | nil => exact ⟨1, Nat.le_refl _, fun k hk => by cases hk⟩
  | cons k r =>
    have h2 : (decide (1 ≤ k.length) && (k :: r).all fun x => decide (x.length = k.length) && x.all fun i => decide (0 ≤ i) && decide (i < big)) = true := h2
    rw [Bool.and_eq_true] at h2
    refine ⟨k.length, of_decide_eq_true h2.1, fun x hx => ?_⟩
    have h3 := List.all_eq_true.mp h2.2 x hx
    rw [Bool.and_eq_true] at h3
    refine ⟨of_decide_eq_true h3.1, fun m hm => ?_⟩
    have h4 := List.all_eq_true.mp h3.2 m hm
    rw [Bool.and_eq_true] at h4
    exact ⟨of_decide_eq_true h4.1, of_decide_eq_true h4.2⟩
theorem code_inj {B : Int} : ∀ {x y : List Int}, x.length = y.length → TS.Bd B x → TS.Bd B y → TS.code B x = TS.code B y → x = y
  | [], [], _, _, _, _ => rfl
  | a :: x, b :: y, hl, hx, hy, h => by
    have hl' : x.length = y.length := by simpa using hl
    rcases Int.lt_trichotomy a b with z | z | z
    · have := TS.code_lt hl' hx.tail hy.tail z
      omega
    · subst z
      have n1 := mt (TS.code_same (B := B) (d := a) hl').mpr (by omega)
      have n2 := mt (TS.code_same (B := B) (d := a) hl'.symm).mpr (by omega)
      rw [code_inj hl' hx.tail hy.tail (by omega)]
    · have := TS.code_lt hl'.symm hy.tail hx.tail z
      omega
theorem ss_uniq {ks L : List (List Int)} (h : ssOk ks = true) (hm : ∀ k, k ∈ L ↔ k ∈ ks) (hn : L.Nodup) (hp : L.Pairwise fun x y => TS.code big x ≤ TS.code big y) : L = ssT ks := by
  obtain ⟨_, d, _, hd⟩ := ssOk_is h
  have up : ∀ {M : List (List Int)}, (∀ k, k ∈ M ↔ k ∈ ks) → M.Nodup → M.Pairwise (fun x y => TS.code big x ≤ TS.code big y) → M.Pairwise fun x y => TS.code big x < TS.code big y := fun {M} mm nd pw => by
    have h3 := List.Pairwise.and pw nd
    refine h3.imp_of_mem fun {a b} ma mb h => ?_
    obtain ⟨a1, a2⟩ := hd a ((mm a).mp ma)
    obtain ⟨b1, b2⟩ := hd b ((mm b).mp mb)
    have : TS.code big a ≠ TS.code big b := fun e => h.2 (code_inj (by rw [a1, b1]) a2 b2 e)
    have := h.1
    omega
  exact rising_one (up hm hn hp) (up (fun k => mem_ssT) (ssT_nd ks) (inc_pw _ _)) fun x => by rw [hm, mem_ssT]
def ssD (b : Bool) : List D → Store → Re D := one fun x st => opt (seqOf st x) fun ds =>
  match intsOf ds with
  | some ns => if ns.length < 60 then mkNew b ((ssI ns).map .int) st else .bad
  | none => match keysOf ds with
    | some ks => if ssOk ks = true then mkNew b ((ssT ks).map tupD) st else .bad
    | none => .bad
end Dn
namespace Dn
open PySem PySem.Spec PyProof.Rows L2
/-- set(xs), ints in a list or a tuple -/
def rSetI (K : PySem.W.Frag) (w : World) : List V → Hp → VK → Prop := fun xs H Q => ∃ (l : Addr) (ns : List Int), xs = [V.ref l] ∧ (SqL K H l (ns.map V.int) ∨ SqT K H l (ns.map V.int)) ∧ ns.length < 60 ∧
  ∀ a n, H a = none → n ≤ ns.length → Q (.ref a) (upd H a (SetO w a (fun j => decide (j ∈ ns)) n))
/-- set(xs), a tuple of tuples of ints -/
def rSetTT (K : PySem.W.Frag) (P : Program) (w : World) : List V → Hp → VK → Prop := fun xs H Q => ∃ (l : Addr) (ks : List (Addr × List Int)), xs = [V.ref l] ∧ SqT K H l (ks.map fun p => V.ref p.1) ∧ (∀ p ∈ ks, SqT K H p.1 (p.2.map V.int)) ∧ ks.length < 64 ∧
  ∀ a L, H a = none → (∀ p ∈ L, p ∈ ks) → (∀ p ∈ ks, p.2 ∈ L.map (·.2)) → Q (.ref a) (upd H a (SetTO P w a L))
section
variable {X : Cx}
theorem cr_setI (hc : X.calm = true) : CallR X (.type "set") (rSetI X.K X.w) := by
  intro pins s σ H xs us Q I r h
  obtain ⟨l, ns, rfl, hs, hn, q⟩ := h
  rw [Vals.ref1 r]
  have nw : H s.heap.objs.size = none := I.hok.fresh (Nat.le_refl _)
  have sb : ns.length + 1 < scanBound := by unfold scanBound; omega
  rcases hs with hs | hs
  · obtain ⟨its, rv, pl, hz⟩ := I.list hs
    refine set_lst (w := X.w) ns (I.ok.hd hc) pl.isList (by simpa using rv.ints) sb fun g tk c R hcn kp => ?_
    exact ⟨.ref s.heap.objs.size, upd H s.heap.objs.size (SetO X.w s.heap.objs.size (fun j => decide (j ∈ ns)) c), I.laid (t' := tk) kp (Nat.le_refl _) (setO_new R), rfl, q _ c nw hcn⟩
  · obtain ⟨its, rv, pl, hz⟩ := I.tuple hs
    refine call_set_tupI (w := X.w) ns (I.ok.hd hc) pl (by simpa using rv.ints) sb fun g tk c R hcn kp => ?_
    exact ⟨.ref s.heap.objs.size, upd H s.heap.objs.size (SetO X.w s.heap.objs.size (fun j => decide (j ∈ ns)) c), I.laid (t' := tk) kp (Nat.le_refl _) (setO_new R), rfl, q _ c nw hcn⟩
theorem cr_setTT (hc : X.calm = true) (hu : X.A.units + 64 < cLine) : CallR X (.type "set") (rSetTT X.K X.prog X.w) := by
  intro pins s σ H xs us Q I r h
  obtain ⟨l, ks, rfl, hs, hk, hf, q⟩ := h
  rw [Vals.ref1 r]
  have nw : H s.heap.objs.size = none := I.hok.fresh (Nat.le_refl _)
  obtain ⟨its, rv, pl, hz⟩ := I.tuple hs
  refine set_tpl (P := X.prog) (w := X.w) ks (I.ok.hd hc) pl (by simpa using refs_of_vals rv) (fun p hp => I.isT (hk p hp)) hf (by omega) fun g tk L es ep t R gt kp => ?_
  refine ⟨.ref s.heap.objs.size, upd H s.heap.objs.size (SetTO X.prog X.w s.heap.objs.size L), I.laid (t' := tk) kp (Nat.le_refl _) (setTO_new R.t0), rfl, q _ L nw (fun p hp => ?_) fun p hp => ?_⟩
  · exact List.mem_of_mem_take (gt.sub p hp)
  · exact gt.all p (by rw [List.take_length]; exact hp)
abbrev rSetXs (K : PySem.W.Frag) (P : Program) (w : World) : List V → Hp → VK → Prop := fun xs H Q => rSetI K w xs H Q ∨ (rSetOfT K P w xs H Q ∨ rSetTT K P w xs H Q)
abbrev rSrtA (K : PySem.W.Frag) (P : Program) (w : World) : List V → Hp → VK → Prop := fun xs H Q => rSortedSet w xs H Q ∨ rSortedT K P w xs H Q
theorem cr_setA (hc : X.calm = true) (hu : X.A.units + 64 < cLine) : CallR X (.type "set") (rSetXs X.K X.prog X.w) := (cr_setI hc).or ((cr_setOfT hc hu).or (cr_setTT hc hu))
theorem cr_srtA (hc : X.calm = true) : CallR X (.builtin "sorted") (rSrtA X.K X.prog X.w) := (cr_sortedSet hc).or (cr_sortedT hc)
end
section
variable {K : PySem.W.Frag} {mg : Str → Option Value} {μ : List Addr} {G : Hp}
theorem reps_tups : ∀ {ks : List (List Int)} {vs : List V}, Reps K μ G (ks.map tupD) vs → ∃ ps : List (Addr × List Int), vs = ps.map (fun p => V.ref p.1) ∧ ps.map (·.2) = ks ∧ ∀ p ∈ ps, SqT K G p.1 (p.2.map V.int)
  | [], vs, h => ⟨[], reps_nil h, rfl, fun _ h => by cases h⟩
  | k :: ks, vs, h => by
    obtain ⟨v, r, rfl, hv, t⟩ := reps_cons h
    obtain ⟨a, ws, rfl, hs, hr⟩ := rep_tup hv
    rw [reps_ints hr] at hs
    obtain ⟨ps, rfl, e2, hp⟩ := reps_tups t
    refine ⟨(a, k) :: ps, rfl, by rw [List.map_cons, e2], fun p h => ?_⟩
    rcases List.mem_cons.mp h with rfl | h
    · exact hs
    · exact hp p h
theorem tups_reps : ∀ {ps : List (Addr × List Int)}, (∀ p ∈ ps, SqT K G p.1 (p.2.map V.int)) → Reps K μ G ((ps.map (·.2)).map tupD) (ps.map fun p => V.ref p.1)
  | [], _ => .nil
  | p :: ps, h => .cons (.tup (h p List.mem_cons_self) .ints) (tups_reps fun q hq => h q (List.mem_cons_of_mem _ hq))
theorem s_ss (b : Bool) (P : Program) (w : World) : ∀ (W : WX) (σ : L2.St) (μ : List Addr) (G F : Hp) (st : Store) (H : Hp) (xs : List D) (vs : List V) (Q : VK), Kn K mg μ G F st H → Reps K μ G xs vs →
    Done K mg W σ μ G F (ssD b xs st) (Fin K Q) → rSetXs K P w vs H fun u H1 => rSrtA K P w [u] H1 Q := by
  intro W σ μ G F st H xs vs Q k rv h
  cases xs with
  | nil => exact h.elim
  | cons x r =>
    cases r with
    | cons _ _ => exact h.elim
    | nil =>
      obtain ⟨v, t, rfl, hv, ht⟩ := reps_cons rv
      rw [reps_nil ht]
      have h : Done K mg W σ μ G F (opt (seqOf st x) fun ds => match intsOf ds with
        | some ns => if ns.length < 60 then mkNew b ((ssI ns).map .int) st else .bad
        | none => match keysOf ds with
          | some ks => if ssOk ks = true then mkNew b ((ssT ks).map tupD) st else .bad
          | none => .bad) (Fin K Q) := h
      obtain ⟨ds, e, h⟩ := opt_done h
      obtain ⟨a, ws, rfl, hs, rw'⟩ := seqOf_rep k hv e
      cases e1 : intsOf ds with
      | some ns =>
        rw [e1] at h
        have h : Done K mg W σ μ G F (if ns.length < 60 then mkNew b ((ssI ns).map .int) st else .bad) (Fin K Q) := h
        obtain ⟨hl, h5⟩ := ite_done h
        clear h
        have e2 := intsOf_map e1
        subst e2
        rw [reps_ints rw'] at hs
        refine .inl ⟨a, ns, rfl, hs, hl, fun a' n ha hn => .inl ⟨a', _, n, rfl, upd_same, by omega, fun ns' p pw mm _ hp => ?_⟩⟩
        have en : ns' = ssI ns := rising_one (f := id) pw (ssI_up ns) fun i => by rw [mm, mem_ssI]; simp
        subst en
        exact new_list (k.junk ha) .ints h5 p hp
      | none =>
        rw [e1] at h
        cases e2 : keysOf ds with
        | none => rw [e2] at h; exact h.elim
        | some ks =>
          rw [e2] at h
          have h : Done K mg W σ μ G F (if ssOk ks = true then mkNew b ((ssT ks).map tupD) st else .bad) (Fin K Q) := h
          obtain ⟨ho, h⟩ := ite_done h
          have e3 := keysOf_map e2
          subst e3
          obtain ⟨ps, rfl, rfl, hp⟩ := reps_tups rw'
          obtain ⟨hl, d, d1, hd⟩ := ssOk_is ho
          rw [List.length_map] at hl
          have fin : ∀ a' L, H a' = none → (∀ p ∈ L, p ∈ ps) → (∀ p ∈ ps, p.2 ∈ L.map (·.2)) → rSrtA K P w [.ref a'] (upd H a' (SetTO P w a' L)) Q := fun a' L ha m1 m2 => by
            refine .inr ⟨a', L, d, big, rfl, upd_same, fun p hp' => (Ex.new ha).sqt (k.ex.sqt (hp p (m1 p hp'))), d1, fun p hp' => hd p.2 (List.mem_map_of_mem (m1 p hp')), fun L' q pm nd _ pw hq => ?_⟩
            have m3 : ∀ p ∈ L', p ∈ ps := fun p hp' => m1 p (pm.mem_iff.mp hp')
            have en : L'.map (·.2) = ssT (ps.map (·.2)) := ss_uniq ho (fun x => by
              constructor
              · intro hx
                obtain ⟨p, hp', rfl⟩ := List.mem_map.mp hx
                exact List.mem_map_of_mem (m3 p hp')
              · intro hx
                obtain ⟨p, hp', rfl⟩ := List.mem_map.mp hx
                obtain ⟨q', hq', e⟩ := List.mem_map.mp (m2 p hp')
                exact List.mem_map.mpr ⟨q', pm.mem_iff.mpr hq', e⟩) nd (List.pairwise_map.mpr pw)
            rw [← en] at h
            exact new_list (k.junk ha) (tups_reps fun p hp' => hp p (m3 p hp')) h q hq
          rcases hs with hs | hs
          · exact .inr (.inl ⟨a, ps, rfl, hs, fun p hp' => k.ex.sqt (hp p hp'), hl, fin⟩)
          · exact .inr (.inr ⟨a, ps, rfl, hs, fun p hp' => k.ex.sqt (hp p hp'), hl, fin⟩)
end
section
variable {X : Cx} {W : WX} {e : Expr} {m : EM} {p p2 q pos : Pos}
theorem m_ss (b : Bool) (hc : X.calm = true) (hu : X.A.units + 64 < cLine) (hm1 : X.mg "sorted" = none) (hm2 : X.mg "set" = none) (ha : ME X W e m) (hg1 : Gl X "sorted" := by rfl) (hg2 : Gl X "set" := by rfl)
    (he : starEach [e] X.env = (false, eval e X.env) :: starEach [] X.env := by rfl) :
    ME X W (.Call (.Name "sorted" p) [.Call (.Name "set" p2) [e] [] q] [] pos) (eN (ssD b) (aCons m aNil)) := by
  have h1 := pe_callTy (p := p2) (pos := q) (cr_setA hc hu) hg2 hm2 (by decide +kernel) (pa_cons ha pa_nil he) (by decide) (by decide) he rfl
  have h2 := pe_callB (p := p) (pos := pos) (cr_srtA hc) hg1 hm1 (by decide +kernel) (pa_cons h1 pa_nil) (by decide) (by decide)
  refine h2.of fun σ H Q h => ?_
  obtain ⟨vs, st, μ, G, F, re, k, h⟩ := h
  show tE X.K X.mg W m σ H fun v H1 => rSetXs X.K X.prog X.w [v] H1 fun u H2 => rSrtA X.K X.prog X.w [u] H2 Q
  refine ⟨vs, st, μ, G, F, re, k, ?_⟩
  have h2 := Done.bind (Done.bind h)
  refine h2.mono fun μ1 G1 d st1 H1 f1 k1 h3 v rv => ?_
  have h4 := h3 μ1 G1 H1 (.refl _ _) k1
  exact s_ss b X.prog X.w W σ μ1 G1 F st1 H1 [d] [v] Q k1 (.cons rv .nil) h4
end
end Dn
namespace Dn
open PySem PySem.Spec PyProof.Rows L2
theorem ixA_lo {st : Store} {d : D} {ds : List D} {i : Int} (h : lstOf st d = some ds) : ixA d (.int i) st = match atI ds i with | some d => .ok d st | none => .bad := by
  cases d with
  | lst xs =>
    injection h with h
    subst h
    exact ixA_lst
  | loc n => exact ixA_loc h
  | _ => cases h
theorem lenB_lo {st : Store} {d : D} {ds : List D} (h : lstOf st d = some ds) : lenB st d = some ds.length := by
  cases d with
  | lst xs =>
    injection h with h
    subst h
    rfl
  | loc n =>
    have : lstAt st n = some ds := h
    rw [lenB_loc, lstAt_cell this]
  | _ => cases h
/-- a comprehension that draws and takes some of the elements -/
theorem compGo_drawS {g : TM} {tt e : EM} {gd : Store → Prop} {vs : Vars} {T : Store} {f : D → D} (hg : ∀ c, gd (c :: T)) : ∀ (ds : List D) (c : Option Ob), DrawOk c →
    (∀ d ∈ ds, ∀ c, DrawOk c → ∃ vs1, g d vs = some vs1 ∧ wp (tt vs1 (c :: T)) (DT T fun st => wp (e vs1 st) fun y st' => y = f d ∧ ∃ c', DrawOk c' ∧ st' = c' :: T)) →
    wp (compGo g tt e gd vs ds (c :: T)) fun ys st => (∃ l : List D, l.Sublist ds ∧ ys = l.map f) ∧ ∃ c2, DrawOk c2 ∧ st = c2 :: T
  | [], c, hc, _ => by
    unfold compGo
    rw [if_pos (hg _), wp_ok]
    exact ⟨⟨[], List.nil_sublist _, rfl⟩, c, hc, rfl⟩
  | d :: ds, c, hc, h => by
    unfold compGo
    rw [if_pos (hg _)]
    obtain ⟨vs1, e1, w⟩ := h d List.mem_cons_self c hc
    rw [e1]
    simp only [wp_okk]
    refine wp_mono w fun x st1 h1 => ?_
    obtain ⟨c1, hc1, rfl, b, rfl, hb⟩ := h1
    cases b with
    | true =>
      simp only [wp_okk]
      refine wp_mono (hb rfl) fun y st1 h1 => ?_
      obtain ⟨rfl, c2, hc2, rfl⟩ := h1
      rw [wp_okk]
      refine wp_mono (compGo_drawS hg ds c2 hc2 fun d' hd => h d' (List.mem_cons_of_mem _ hd)) fun ys st2 h2 => ?_
      obtain ⟨⟨l, h3, rfl⟩, h5⟩ := h2
      rw [wp_ok]
      exact ⟨⟨d :: l, h3.cons_cons d, rfl⟩, h5⟩
    | false =>
      refine wp_mono (compGo_drawS hg ds c1 hc1 fun d' hd => h d' (List.mem_cons_of_mem _ hd)) fun ys st2 h2 => ?_
      obtain ⟨⟨l, h3, rfl⟩, h5⟩ := h2
      exact ⟨⟨l, h3.cons d, rfl⟩, h5⟩
theorem sub_map {α : Type} {f : α → D} : ∀ {xs : List α} {l : List D}, l.Sublist (xs.map f) → ∃ ys : List α, ys.Sublist xs ∧ l = ys.map f
  | [], l, h => by
    have := List.sublist_nil.mp h
    subst this
    exact ⟨[], List.nil_sublist _, rfl⟩
  | x :: xs, l, h => by
    rw [List.map_cons] at h
    cases h with
    | cons _ h =>
      obtain ⟨ys, h1, rfl⟩ := sub_map h
      exact ⟨ys, h1.cons x, rfl⟩
    | cons_cons _ h =>
      obtain ⟨ys, h1, rfl⟩ := sub_map h
      exact ⟨x :: ys, h1.cons_cons x, rfl⟩
theorem sub_rng {n : Nat} {l : List D} (h : l.Sublist (rng 0 n)) : ∃ ns : List Nat, ns.Sublist (List.range n) ∧ l = ns.map fun i => .int ((i : Nat) : Int) := by
  rw [rng0_map] at h
  exact sub_map h
theorem mem_subr {n i : Nat} {l : List Nat} (h : l.Sublist (List.range n)) (hi : i ∈ l) : i < n := List.mem_range.mp (h.subset hi)
theorem list_ofG {α β : Type} {f : α → β} {p : α → Prop} : ∀ {ys : List β}, (∀ y ∈ ys, ∃ a, y = f a ∧ p a) → ∃ l : List α, ys = l.map f ∧ ∀ a ∈ l, p a
  | [], _ => ⟨[], rfl, fun _ h => by cases h⟩
  | y :: ys, h => by
    obtain ⟨a, rfl, ha⟩ := h y List.mem_cons_self
    obtain ⟨l, rfl, hl⟩ := list_ofG fun z hz => h z (List.mem_cons_of_mem _ hz)
    exact ⟨a :: l, rfl, fun b hb => by
      rcases List.mem_cons.mp hb with rfl | hb
      · exact ha
      · exact hl b hb⟩
theorem ssOk_of {ks : List (List Int)} {d : Nat} (hl : ks.length < 64) (hd : 1 ≤ d) (h : ∀ k ∈ ks, k.length = d ∧ ∀ i ∈ k, 0 ≤ i ∧ i < big) : ssOk ks = true := by
  unfold ssOk
  rw [Bool.and_eq_true]
  refine ⟨decide_eq_true hl, ?_⟩
  cases ks with
  | nil => rfl
  | cons k r =>
    obtain ⟨k1, k2⟩ := h k List.mem_cons_self
    show (decide (1 ≤ k.length) && (k :: r).all fun x => decide (x.length = k.length) && x.all fun i => decide (0 ≤ i) && decide (i < big)) = true
    rw [Bool.and_eq_true]
    refine ⟨decide_eq_true (by omega), List.all_eq_true.mpr fun x hx => ?_⟩
    obtain ⟨x1, x2⟩ := h x hx
    rw [Bool.and_eq_true]
    refine ⟨decide_eq_true (by omega), List.all_eq_true.mpr fun i hi => ?_⟩
    rw [Bool.and_eq_true]
    exact ⟨decide_eq_true (x2 i hi).1, decide_eq_true (x2 i hi).2⟩
theorem ssI_nil : ssI [] = [] := by
  unfold ssI inc dd
  exact List.mergeSort_nil
theorem ssT_nil : ssT [] = [] := by
  unfold ssT inc dd
  exact List.mergeSort_nil
theorem ssD_ints {b : Bool} {x : D} {st : Store} {ns : List Int} (h : seqOf st x = some (ns.map .int)) (hl : ns.length < 60) : ssD b [x] st = mkNew b ((ssI ns).map .int) st := by
  show opt (seqOf st x) _ = _
  rw [h, opt_some, intsOf_map']
  exact if_pos hl
theorem ssD_tups {b : Bool} {x : D} {st : Store} {ks : List (List Int)} (h : seqOf st x = some (ks.map tupD)) (ho : ssOk ks = true) : ssD b [x] st = mkNew b ((ssT ks).map tupD) st := by
  cases ks with
  | nil =>
    have := ssD_ints (b := b) (x := x) (st := st) (ns := []) h (by simp)
    rw [this, ssI_nil, ssT_nil]
    rfl
  | cons k r =>
    show opt (seqOf st x) _ = _
    have e : intsOf ((k :: r).map tupD) = none := rfl
    rw [h, opt_some, e, keysOf_tups]
    exact if_pos ho
end Dn
namespace Dn
open PySem PySem.Spec PyProof.Rows L2
section
variable {κ : Type} [DecidableEq κ]
theorem getK_nilG {k : κ} : getK ([] : List (κ × D)) k = none := rfl
theorem getK_consG {j k : κ} {d : D} {r : List (κ × D)} : getK ((j, d) :: r) k = if j = k then some d else getK r k := by
  unfold getK
  rw [List.find?_cons]
  by_cases e : j = k <;> simp [e]
theorem getK_set {kvs : List (κ × D)} {k k' : κ} {d : D} : getK (setK kvs k d) k' = if k = k' then some d else getK kvs k' := by
  unfold setK
  split
  · rename_i h
    induction kvs with
    | nil => simp at h
    | cons p r ih =>
      obtain ⟨j, x⟩ := p
      by_cases hj : j = k
      · subst hj
        simp only [List.map_cons, if_true]
        rw [getK_consG, getK_consG]
        by_cases e : j = k'
        · simp [e]
        · simp only [e, if_false]
          clear ih h
          induction r with
          | nil => rfl
          | cons p r ih =>
            obtain ⟨i, y⟩ := p
            by_cases hi : i = j
            · subst hi
              simp only [List.map_cons, if_true]
              rw [getK_consG, getK_consG, if_neg e, if_neg e]
              exact ih
            · simp only [List.map_cons, hi, if_false]
              rw [getK_consG, getK_consG, ih]
      · have h' : (r.any fun p => decide (p.1 = k)) = true := by
          simpa [hj] using h
        simp only [List.map_cons, hj, if_false]
        rw [getK_consG, getK_consG, ih h']
        by_cases e : j = k'
        · subst e
          simp [Ne.symm hj]
        · simp [e]
  · rename_i h
    have h' : ∀ p ∈ kvs, p.1 ≠ k := fun p hp e => h (List.any_eq_true.mpr ⟨p, hp, decide_eq_true e⟩)
    clear h
    induction kvs with
    | nil =>
      show getK [(k, d)] k' = _
      rw [getK_consG]
    | cons p r ih =>
      obtain ⟨j, x⟩ := p
      rw [List.cons_append, getK_consG, getK_consG, ih fun p hp => h' p (List.mem_cons_of_mem _ hp)]
      have hj : j ≠ k := h' (j, x) List.mem_cons_self
      by_cases e : j = k'
      · subst e
        simp [Ne.symm hj]
      · simp [e]
end
theorem add_lst {b : Bool} {ds es : List D} {st : Store} : addD b (.lst ds) (.lst es) st = if room (ds.length + es.length) then mkNew b (ds ++ es) st else .bad := rfl
theorem dec_nat {a b : Nat} : decide ((a : Int) = (b : Int)) = decide (a = b) := decide_eq_decide.mpr (by omega)
theorem any_map_id {α : Type} {p : α → Bool} {xs : List α} : (xs.map p).any id = xs.any p := by rw [List.any_map]; rfl
theorem all_map_id {α : Type} {p : α → Bool} {xs : List α} : (xs.map p).all id = xs.all p := by rw [List.all_map]; rfl
abbrev nats (l : List Nat) : List D := l.map fun k => .int ((k : Nat) : Int)
theorem mem_cast {xs : List Nat} {i : Nat} : decide (∃ a ∈ xs, ((a : Nat) : Int) = (i : Int)) = decide (i ∈ xs) := by
  congr 1
  refine propext ⟨fun ⟨a, h1, h2⟩ => ?_, fun h => ⟨i, h, rfl⟩⟩
  have : a = i := by omega
  subst this
  exact h1
theorem in_nats {xs : List Nat} {i : Nat} {st : Store} {y : D} (h : seqOf st y = some (nats xs)) : inD (.int (i : Nat)) y st = .ok (.bl (decide (i ∈ xs))) st := by
  rw [in_ints (f := fun k : Nat => (k : Int)) h, mem_cast]
theorem nin_nats {xs : List Nat} {i : Nat} {st : Store} {y : D} (h : seqOf st y = some (nats xs)) : ninD (.int (i : Nat)) y st = .ok (.bl !(decide (i ∈ xs))) st := by
  rw [nin_ints (f := fun k : Nat => (k : Int)) h, mem_cast]
theorem setK_len {κ : Type} [DecidableEq κ] {kvs : List (κ × D)} {k : κ} {d : D} : (setK kvs k d).length ≤ kvs.length + 1 := by
  unfold setK
  split
  · rw [List.length_map]; omega
  · rw [List.length_append]; exact Nat.le_refl _
theorem setA_int {st : Store} {n : Nat} {kvs : List (Key × D)} {i : Int} {z : D} (h : cell st n = some (.dct kvs)) (hl : kvs.length + 1 ≤ 1000000) : setA (.loc n) (.int i) z st = some (st.set n (some (.dct (setK kvs (.inl i) z)))) := by
  unfold setA
  simp only [h, keyK]
  exact if_pos hl
theorem maxI_le {L : List Int} {d : Int} (h : L ≠ []) : maxI L ≤ d ↔ ∀ x ∈ L, x ≤ d := by
  cases L with
  | nil => exact absurd rfl h
  | cons i r =>
    obtain ⟨h1, h2⟩ := maxI_is (i := i) (r := r)
    exact ⟨fun h x hx => Int.le_trans (h2 x hx) h, fun h => h _ h1⟩
theorem max1_ints {x : D} {st : Store} {L : List Int} (h : (lstOf st x).bind intsOf = some L) (hn : L ≠ []) : maxD [x] st = .ok (.int (maxI L)) st := by
  show max1 x st = _
  unfold max1
  rw [h]
  cases L with
  | nil => exact absurd rfl hn
  | cons _ _ => rfl
end Dn
namespace Dn
open PySem PySem.Spec PyProof.Rows L2
/-! ### lists at places -/
theorem resD_lo {st : Store} {x : D} {xs : List D} (h : lstOf st x = some xs) : resD st x = .lst xs := by
  cases x with
  | lst ys => injection h with h; subst h; rfl
  | loc n =>
    have h : lstAt st n = some xs := h
    simp only [resD, h]
  | _ => cases h
theorem eqB_lo {st : Store} {x y : D} {xs ys : List D} (hx : lstOf st x = some xs) (hy : lstOf st y = some ys) : eqB st x y = if (okd 60 (.lst xs) && okd 60 (.lst ys)) = true then some (eqvD (.lst xs) (.lst ys)) else none := by
  have e : eqB st x y = if (okd 60 (resD st x) && okd 60 (resD st y)) = true then some (eqvD (resD st x) (resD st y)) else none := by
    cases x with
    | lst _ => cases y <;> first | rfl | cases hy
    | loc _ => cases y <;> first | rfl | cases hy
    | _ => cases hx
  rw [e, resD_lo hx, resD_lo hy]
theorem eq_lo {st : Store} {x y : D} {xs ys : List D} (hx : lstOf st x = some xs) (hy : lstOf st y = some ys) (h1 : okd 60 (.lst xs) = true) (h2 : okd 60 (.lst ys) = true) : eqD x y st = .ok (.bl (eqvD (.lst xs) (.lst ys))) st := by
  unfold eqD
  rw [eqB_lo hx hy, h1, h2]
  rfl
theorem ne_lo {st : Store} {x y : D} {xs ys : List D} (hx : lstOf st x = some xs) (hy : lstOf st y = some ys) (h1 : okd 60 (.lst xs) = true) (h2 : okd 60 (.lst ys) = true) : neD x y st = .ok (.bl !(eqvD (.lst xs) (.lst ys))) st := by
  unfold neD
  rw [eqB_lo hx hy, h1, h2]
  rfl
theorem eqv_lst_cons {x y : D} {xs ys : List D} : eqvD (.lst (x :: xs)) (.lst (y :: ys)) = (eqvD x y && eqvD (.lst xs) (.lst ys)) := by
  unfold eqvD
  simp only [pd, pds, PyData.eqv, PyData.eqvAll]
theorem eqv_tup_cons {x y : D} {xs ys : List D} : eqvD (.tup (x :: xs)) (.tup (y :: ys)) = (eqvD x y && eqvD (.tup xs) (.tup ys)) := by
  unfold eqvD
  simp only [pd, pds, PyData.eqv, PyData.eqvAll]
theorem eqv_lst_nil : eqvD (.lst []) (.lst []) = true := by simp [eqvD, pd, pds, PyData.eqv, PyData.eqvAll]
theorem eqv_tup_nil : eqvD (.tup []) (.tup []) = true := by simp [eqvD, pd, pds, PyData.eqv, PyData.eqvAll]
theorem eqv_lst_l {x : D} {xs : List D} : eqvD (.lst (x :: xs)) (.lst []) = false := by simp [eqvD, pd, pds, PyData.eqv, PyData.eqvAll]
theorem eqv_lst_r {x : D} {xs : List D} : eqvD (.lst []) (.lst (x :: xs)) = false := by simp [eqvD, pd, pds, PyData.eqv, PyData.eqvAll]
theorem eqv_tup_l {x : D} {xs : List D} : eqvD (.tup (x :: xs)) (.tup []) = false := by simp [eqvD, pd, pds, PyData.eqv, PyData.eqvAll]
theorem eqv_tup_r {x : D} {xs : List D} : eqvD (.tup []) (.tup (x :: xs)) = false := by simp [eqvD, pd, pds, PyData.eqv, PyData.eqvAll]
theorem eqv_lst_map {α : Type} {f : α → D} (hf : ∀ a b, (eqvD (f a) (f b) = true) ↔ a = b) : ∀ {xs ys : List α}, (eqvD (.lst (xs.map f)) (.lst (ys.map f)) = true) ↔ xs = ys
  | [], [] => by simp [eqv_lst_nil]
  | [], y :: ys => by simp [eqv_lst_r]
  | x :: xs, [] => by simp [eqv_lst_l]
  | x :: xs, y :: ys => by
    rw [List.map_cons, List.map_cons, eqv_lst_cons, Bool.and_eq_true, hf, eqv_lst_map hf, List.cons.injEq]
theorem eqv_tup_map {α : Type} {f : α → D} (hf : ∀ a b, (eqvD (f a) (f b) = true) ↔ a = b) : ∀ {xs ys : List α}, (eqvD (.tup (xs.map f)) (.tup (ys.map f)) = true) ↔ xs = ys
  | [], [] => by simp [eqv_tup_nil]
  | [], y :: ys => by simp [eqv_tup_r]
  | x :: xs, [] => by simp [eqv_tup_l]
  | x :: xs, y :: ys => by
    rw [List.map_cons, List.map_cons, eqv_tup_cons, Bool.and_eq_true, hf, eqv_tup_map hf, List.cons.injEq]
theorem eqv_nat {a b : Nat} : (eqvD (.int (a : Int)) (.int (b : Int)) = true) ↔ a = b := by
  rw [eqv_int, decide_eq_true_iff]
  omega
theorem eqv_nats {xs ys : List Nat} : eqvD (.lst (nats xs)) (.lst (nats ys)) = decide (xs = ys) := by
  rw [Bool.eq_iff_iff, decide_eq_true_iff]
  exact eqv_lst_map (fun _ _ => eqv_nat)
theorem lstAt_keep {st l : Store} {n : Nat} {ds : List D} (h : lstAt st n = some ds) : lstAt (st ++ l) n = some ds := by
  have hc := lstAt_cell h
  unfold cell at hc
  have hn : n < st.length := by
    rcases Nat.lt_or_ge n st.length with h1 | h1
    · exact h1
    · rw [List.getElem?_eq_none (by simpa using h1)] at hc
      cases hc
  unfold lstAt cell at h ⊢
  rw [List.getElem?_append_left hn]
  exact h
theorem lstOf_keep {st l : Store} {d : D} {ds : List D} (h : lstOf st d = some ds) : lstOf (st ++ l) d = some ds := by
  cases d with
  | lst _ => exact h
  | loc n => exact lstAt_keep h
  | _ => cases h
theorem okd_nats {n : Nat} {l : List Nat} : okd (n + 1) (.lst (nats l)) = true := okd_lst (okd_map fun _ _ => okd_int)
theorem okd_natt {n : Nat} {l : List Nat} : okd (n + 1) (.tup (nats l)) = true := okd_tup (okd_map fun _ _ => okd_int)
theorem truthB_lst {st : Store} {ds : List D} : truthB st (.lst ds) = some (!ds.isEmpty) := rfl
theorem truthB_tup {st : Store} {ds : List D} : truthB st (.tup ds) = some (!ds.isEmpty) := rfl
/-- an iterator over a list, wherever it is -/
theorem its_lo {st : Store} {d : D} {ds : List D} (h : lstOf st d = some ds) : ∃ g, itsOf st d = some (ds, g) ∧ grd (ds, g) st := by
  cases d with
  | lst ys =>
    injection h with h
    subst h
    exact ⟨[], rfl, by simp⟩
  | loc n =>
    have h : lstAt st n = some ds := h
    refine ⟨[(n, .lst ds)], ?_, ?_⟩
    · unfold itsOf
      dsimp only
      rw [h]
    · exact ⟨lstAt_cell h, trivial⟩
  | _ => cases h
end Dn
namespace Dn
open PySem PySem.Spec PyProof.Rows L2
/-! ### range(i, j, c) -/
def rngC (lo c : Int) (n : Nat) : List D := (List.range n).map fun (i : Nat) => D.int (lo + (i : Nat) * c)
theorem wk_rngC {K : PySem.W.Frag} {mg : Str → Option Value} {μ : List Addr} {G : Hp} {lo c : Int} {n : Nat} : Wk K mg μ G (Itc lo c n) (rngC lo c n, []) := by
  intro μ2 G2 F2 st2 H2 f2 k2 _
  have hl : (rngC lo c n).length = n := by simp [rngC]
  refine ⟨by rw [hl]; exact Nat.le_refl _, fun i d hd => ?_⟩
  have hi : i < n := by
    have := (List.getElem?_eq_some_iff.mp hd).1
    rwa [hl] at this
  refine ⟨hi, fun y H3 hy => ?_⟩
  obtain ⟨rfl, rfl⟩ := hy
  have e : d = .int (lo + (i : Nat) * c) := by
    unfold rngC at hd
    rw [List.getElem?_map, List.getElem?_range hi] at hd
    exact (Option.some.inj hd).symm
  subst e
  exact ⟨G2, .refl _ _, k2, .int⟩
def rgOk (i j c : Int) : Bool := decide (c ≠ 0) && (decide (c.natAbs < 1073741824) && (Builtin.Range.small i j c && decide (0 ≤ Builtin.Range.rangeSize i j c)))
def iR3 (ms : EMs) : IM := fun vs st => (ms vs st).bind fun xs st => match xs with
  | [.int i, .int j, .int c] => if rgOk i j c = true then .ok (rngC i c (Builtin.Range.rangeSize i j c).toNat, []) st else .bad
  | _ => .bad
section
variable {X : Cx} {W : WX} {tg a b c : Expr} {ms : EMs} {pos p : Pos}
theorem i_rng3 (hm : X.mg "range" = none) (ha : MA X W [a, b, c] ms) (hms : ALen ms 3 := by repeat constructor) (hg : Gl X "range" := by rfl)
    (hs : starEach [a, b, c] X.env = (false, eval a X.env) :: starEach [b, c] X.env := by rfl) (hpl : (backTo pos (starEach [b, c] X.env)).any (·.1) = false := by rfl) :
    MI X W tg (.Call (.Name "range" p) [a, b, c] [] pos) (iR3 ms) :=
  (pi_range3 hg hm ha hs hpl).of fun σ H R h => by
    obtain ⟨vs, st, μ, G, F, re, k, h⟩ := h
    unfold iR3 at h
    cases hd : ms vs st with
    | bad => rw [hd] at h; exact h.elim
    | exc ex st1 => rw [hd] at h; exact ⟨vs, st, μ, G, F, re, k, by rw [hd]; exact h⟩
    | ok ds st1 =>
      rw [hd] at h
      refine ⟨vs, st, μ, G, F, re, k, ?_⟩
      rw [hd]
      intro μ1 G1 H1 f1 k1 ws rws
      have hl := hms.len hd
      have h1 := Done.fut f1 h
      obtain ⟨d1, d2, d3, rfl⟩ : ∃ d e f, ds = [d, e, f] := by
        match ds, hl with
        | [d, e, f], _ => exact ⟨d, e, f, rfl⟩
      obtain ⟨v, r, rfl, rv, ht⟩ := reps_cons rws
      obtain ⟨w, u, rfl, rw', ru⟩ := reps_two ht
      cases d1 with
      | int i =>
        cases d2 with
        | int j =>
          cases d3 with
          | int c =>
            obtain ⟨hc, h1⟩ := ite_done' (α := Its) h1
            obtain ⟨_, q⟩ := Done.here k1 h1
            rw [rep_int rv, rep_int rw', rep_int ru]
            unfold rgOk at hc
            rw [Bool.and_eq_true, Bool.and_eq_true, Bool.and_eq_true] at hc
            have h4 := of_decide_eq_true hc.2.2.2
            exact ⟨i, j, c, _, rfl, ⟨of_decide_eq_true hc.1, of_decide_eq_true hc.2.1, hc.2.2.1, by omega⟩, q _ wk_rngC⟩
          | _ => exact h1.elim
        | _ => exact h1.elim
      | _ => exact h1.elim
end
/-! ### list(range(n)) -/
def tLR (ta : TA) : TE := fun σ H Q => ta σ H fun vs H1 => ∃ j : Int, vs = [.int j] ∧ -(2 ^ 62) ≤ j ∧ j ≤ 1000000 ∧ ∀ p, H1 p = none → Q (.ref p) (upd H1 p (.lst ((List.range j.toNat).map fun (i : Nat) => V.int ((i : Nat) : Int))))
theorem vals_items {n : Nat} : ∀ {xs : List Value}, xs.length = n → (∀ j v, xs[j]? = some v → ∃ t, v = Value.int ((0 : Int) + (j : Nat) * 1) t) → Vals ((List.range n).map fun (i : Nat) => V.int ((i : Nat) : Int)) xs := by
  intro xs hl h
  have gen : ∀ (k : Nat) (xs : List Value), (∀ j v, xs[j]? = some v → ∃ t, v = Value.int (((k + j : Nat) : Int)) t) → Vals ((List.range' k xs.length).map fun (i : Nat) => V.int ((i : Nat) : Int)) xs := by
    intro k xs
    induction xs generalizing k with
    | nil => intro _; exact .nil
    | cons x xs ih =>
      intro h
      obtain ⟨t, e⟩ := h 0 x rfl
      rw [List.length_cons, List.range'_succ, List.map_cons]
      refine .cons ?_ (ih (k + 1) fun j v hv => ?_)
      · exact ⟨t, by rw [e]; rfl⟩
      · obtain ⟨t, e⟩ := h (j + 1) v hv
        exact ⟨t, by rw [e]; congr 2; omega⟩
  have := gen 0 xs fun j v hv => by
    obtain ⟨t, e⟩ := h j v hv
    exact ⟨t, by rw [e]; congr 1; omega⟩
  rw [hl, ← List.range_eq_range'] at this
  exact this
section
variable {X : Cx} {a : Expr} {ta : TA} {p p2 q pos : Pos}
theorem pe_listRange (hc : X.calm = true) (hg : Gl X "list") (hm : X.mg "list" = none) (hg2 : Gl X "range") (hm2 : X.mg "range" = none) (ha : PA X [a] ta) (na : starEach [a] X.env = [(false, eval a X.env)]) :
    PE X (.Call (.Name "list" p) [.Call (.Name "range" p2) [a] [] q] [] pos) (tLR ta) := by
  refine ⟨fun pins s σ H Q I h => ?_⟩
  refine Call_ (ld_blt I hg hm PyProof.Rows.boot_list ?_)
  refine PyProof.Rows.callWith_type1 (PyProof.Rows.args_cons ?_ rfl) rfl rfl
  refine Call_ (ld_blt I hg2 hm2 boot_range ?_)
  refine PyProof.Rows.callWith_type1 (thn (ha.run q pins s σ H _ I h) fun us s1 ⟨vs, H1, I1, r1, q1⟩ => ?_) na rfl
  obtain ⟨j, rfl, j0, j1, q1⟩ := q1
  cases r1 with
  | cons r rr =>
    cases rr
    obtain ⟨t, rfl⟩ := r
    refine call_range_1 (PyProof.Rows.args_nil ?_)
    have I2 : Inv X pins σ H1 { s1 with heap := s1.heap.push { cls := .type "range", data := .fields #[.int 0 s1.toks, .int j t, .int 1 (s1.toks + 1)] }, toks := s1.toks + 1 + 1 } := I1.kept fun b o e => Heap.get?_push_of_some _ e
    have hz : Builtin.Range.rangeSize 0 j 1 = ((j.toNat : Nat) : Int) := by rw [rangeSize_one]; split <;> omega
    refine call_list_range (n := j.toNat) (I1.ok.hd hc) (IsRange.new s1.heap 0 j 1 s1.toks t (s1.toks + 1)) (small_one (by omega) (by omega) j0 (by omega)) hz (by omega) fun h' tk acc c' hk hs hi => ?_
    have hlen : ((List.range j.toNat).map fun (i : Nat) => V.int ((i : Nat) : Int)).length ≤ sizeLine := by
      rw [List.length_map, List.length_range, sizeLine_eq]
      omega
    refine ⟨.ref _, upd H1 _ (.lst ((List.range j.toNat).map fun (i : Nat) => V.int ((i : Nat) : Int))), I2.laid (t' := tk) hk (Nat.le_refl _) ⟨hlen, acc.toList, c', vals_items (by rw [Array.length_toList]; exact hi.1) (fun k v hv => hi.2 k v (by rw [← Array.getElem?_toList]; exact hv)), by simpa using hs⟩, rfl, q1 _ (I2.hok.fresh (Nat.le_refl _))⟩
def lrD (b : Bool) : List D → Store → Re D := one fun x st => match x with
  | .int j => if fitR j ∧ j ≤ 1000000 then mkNew b (rng 0 j.toNat) st else .bad
  | _ => .bad
theorem m_lr {W : WX} {ms : EMs} (b : Bool) (hc : X.calm = true) (hm : X.mg "list" = none) (hm2 : X.mg "range" = none) (ha : MA X W [a] ms) (hg : Gl X "list" := by rfl) (hg2 : Gl X "range" := by rfl)
    (na : starEach [a] X.env = [(false, eval a X.env)] := by rfl) : ME X W (.Call (.Name "list" p) [.Call (.Name "range" p2) [a] [] q] [] pos) (eN (lrD b) ms) := by
  refine (pe_listRange hc hg hm hg2 hm2 ha na).of fun σ H Q h => ?_
  obtain ⟨vs, st, μ, G, F, re, k, h⟩ := h
  refine ⟨vs, st, μ, G, F, re, k, (Done.bind h).mono fun μ1 G1 xs st1 H1 f1 k1 h1 ws rws => ?_⟩
  cases xs with
  | nil => exact h1.elim
  | cons x r =>
    cases r with
    | cons _ _ => exact h1.elim
    | nil =>
      obtain ⟨v, rfl, rv⟩ := reps_one rws
      cases x with
      | int j =>
        have h1 : Done X.K X.mg W σ μ1 G1 F (if fitR j ∧ j ≤ 1000000 then mkNew b (rng 0 j.toNat) st1 else .bad) (Fin X.K Q) := h1
        obtain ⟨hc', h2⟩ := ite_done h1
        rw [rep_int rv]
        refine ⟨j, rfl, hc'.1.1, hc'.2, new_list k1 ?_ h2⟩
        rw [rng0_map]
        have : ∀ (l : List Nat), Reps X.K μ1 G1 (l.map fun (i : Nat) => D.int ((i : Nat) : Int)) (l.map fun (i : Nat) => V.int ((i : Nat) : Int)) := fun l => by
          induction l with
          | nil => exact .nil
          | cons i l ih => exact .cons .int ih
        exact this _
      | _ => exact h1.elim
end
/-! ### name += e -/
def iaddD (x y : D) (st : Store) : Re D := match x, y with
  | .int i, .int j => .ok (.int (i + j)) st
  | _, _ => .bad
theorem s_iadd {K : PySem.W.Frag} {mg : Str → Option Value} : S2 K mg iaddD (rI0 fun i j => .int (i + j)) := by
  intro W σ μ G F st H x y v w Q k rx ry h
  cases x with
  | int i =>
    cases y with
    | int j =>
      rw [rep_int rx, rep_int ry]
      exact ⟨i, j, rfl, rfl, fin_here k h .int⟩
    | _ => exact h.elim
  | _ => exact h.elim
@[simp] theorem sAug_eq {i : Nat} {f : D → D → Store → Re D} {m : EM} {vs : Vars} {st : Store} : sAug i f m vs st = match getV vs i with | some x => (m vs st).thn vs fun y st => (f x y st).thn vs fun z st => .nx (vs.set i (some z)) st | none => .bad := rfl
end Dn
namespace Lk14
open PySem PySem.Spec PyProof.Rows L2 Dn
def topS (i : Nat) : Stmt := PySem.Challenge.pw_callsheets_k14_costs_of_days.main.body.getD i (.Pass ⟨0, 0, 0, 0⟩)
def d_MEAL : D := (.int (-1))
def d_DAY : D := (.int 1440)
def d_NO_REST : D := (.int 9999)
def d_HALF_HOUR : D := (.int 30)
structure Zs (K : PySem.W.Frag) (mg : Str → Option Value) : Prop where
  abs : mg "abs" = none
  int : mg "int" = none
  len : mg "len" = none
  list : mg "list" = none
  max : mg "max" = none
  min : mg "min" = none
  range : mg "range" = none
  set : mg "set" = none
  sorted : mg "sorted" = none
  str : mg "str" = none
  sum : mg "sum" = none
  tuple : mg "tuple" = none
  c_MEAL : Cst K mg "MEAL" d_MEAL
  c_DAY : Cst K mg "DAY" d_DAY
  c_NO_REST : Cst K mg "NO_REST" d_NO_REST
  c_HALF_HOUR : Cst K mg "HALF_HOUR" d_HALF_HOUR
abbrev s_dark_minutes : Stmt := topS 4
theorem sc_dark_minutes : FnScope ["light", "dark", "begin", "end"] ["light", "dark", "begin", "end"] (defScope s_dark_minutes) := ⟨rfl, rfl, rfl, by decide +kernel, rfl, by decide +kernel, by decide +kernel⟩
abbrev s_longest_stretch : Stmt := topS 5
theorem sc_longest_stretch : FnScope ["rows", "call", "wrap", "longest", "start", "item", "begin", "end"] ["rows", "call", "wrap"] (defScope s_longest_stretch) := ⟨rfl, rfl, rfl, by decide +kernel, rfl, by decide +kernel, by decide +kernel⟩
abbrev s_figures_of : Stmt := topS 6
theorem sc_figures_of : FnScope ["film", "calendar", "day", "rows", "actor", "before", "own", "item", "begin", "end", "call", "wrap", "light", "dark", "is_on", "rest"] ["film", "calendar", "day", "rows", "actor", "before"] (defScope s_figures_of) := ⟨rfl, rfl, rfl, by decide +kernel, rfl, by decide +kernel, by decide +kernel⟩
abbrev s_day_cost : Stmt := topS 9
theorem sc_day_cost : FnScope ["fee", "span", "total", "base", "pay"] ["fee", "span"] (defScope s_day_cost) := ⟨rfl, rfl, rfl, by decide +kernel, rfl, by decide +kernel, by decide +kernel⟩
abbrev s_cost_of : Stmt := topS 10
theorem sc_cost_of : FnScope ["film", "calendar", "fees", "day", "rows", "total", "actor", "figures"] ["film", "calendar", "fees", "day", "rows"] (defScope s_cost_of) := ⟨rfl, rfl, rfl, by decide +kernel, rfl, by decide +kernel, by decide +kernel⟩
abbrev s_law_begin : Stmt := topS 12
theorem sc_law_begin : FnScope ["script", "seed", "cell"] ["script"] (defScope s_law_begin) := ⟨rfl, rfl, rfl, by decide +kernel, rfl, by decide +kernel, by decide +kernel⟩
abbrev s_law_take : Stmt := topS 13
theorem sc_law_take : FnScope ["d", "many", "small", "digit"] ["d", "many"] (defScope s_law_take) := ⟨rfl, rfl, rfl, by decide +kernel, rfl, by decide +kernel, by decide +kernel⟩
abbrev s_law_pick : Stmt := topS 14
theorem sc_law_pick : FnScope ["d", "menu"] ["d", "menu"] (defScope s_law_pick) := ⟨rfl, rfl, rfl, by decide +kernel, rfl, by decide +kernel, by decide +kernel⟩
abbrev s_law_film : Stmt := topS 15
theorem sc_law_film : FnScope ["d", "most", "places", "k", "actors", "scenes", "cast", "actor", "orders", "first", "second", "minutes"] ["d", "most"] (defScope s_law_film) := ⟨rfl, rfl, rfl, by decide +kernel, rfl, by decide +kernel, by decide +kernel⟩
abbrev s_law_windows : Stmt := topS 16
theorem sc_law_windows : FnScope ["d", "many", "days", "rows", "k", "first"] ["d", "many", "days"] (defScope s_law_windows) := ⟨rfl, rfl, rfl, by decide +kernel, rfl, by decide +kernel, by decide +kernel⟩
abbrev s_law_calendar : Stmt := topS 17
theorem sc_law_calendar : FnScope ["d", "film", "days", "lights", "k"] ["d", "film", "days"] (defScope s_law_calendar) := ⟨rfl, rfl, rfl, by decide +kernel, rfl, by decide +kernel, by decide +kernel⟩
abbrev s_law_list : Stmt := topS 18
theorem sc_law_list : FnScope ["d", "film", "rest", "row", "k"] ["d", "film"] (defScope s_law_list) := ⟨rfl, rfl, rfl, by decide +kernel, rfl, by decide +kernel, by decide +kernel⟩
abbrev s_law_sheet : Stmt := topS 19
theorem sc_law_sheet : FnScope ["d", "film", "dry"] ["d", "film"] (defScope s_law_sheet) := ⟨rfl, rfl, rfl, by decide +kernel, rfl, by decide +kernel, by decide +kernel⟩
abbrev s_law_fees : Stmt := topS 20
theorem sc_law_fees : FnScope ["d", "film", "rows", "actor", "spans", "k", "span"] ["d", "film"] (defScope s_law_fees) := ⟨rfl, rfl, rfl, by decide +kernel, rfl, by decide +kernel, by decide +kernel⟩
abbrev s_law_hours : Stmt := topS 21
theorem sc_law_hours : FnScope ["film", "sheet", "shot", "news", "clock", "place", "rows", "fallen", "item", "scene"] ["film", "sheet", "shot", "news"] (defScope s_law_hours) := ⟨rfl, rfl, rfl, by decide +kernel, rfl, by decide +kernel, by decide +kernel⟩
abbrev s_law_figures : Stmt := topS 22
theorem sc_law_figures : FnScope ["film", "calendar", "day", "rows", "actor", "before", "own", "row", "call", "wrap", "light", "dark", "night", "item", "begin", "end", "parts", "stretch", "k", "worked", "rest", "work"] ["film", "calendar", "day", "rows", "actor", "before"] (defScope s_law_figures) := ⟨rfl, rfl, rfl, by decide +kernel, rfl, by decide +kernel, by decide +kernel⟩
abbrev s_law_cost : Stmt := topS 23
theorem sc_law_cost : FnScope ["fee", "span", "total", "base", "pay", "over"] ["fee", "span"] (defScope s_law_cost) := ⟨rfl, rfl, rfl, by decide +kernel, rfl, by decide +kernel, by decide +kernel⟩
abbrev s_law : Stmt := topS 24
theorem sc_law : FnScope ["script", "d", "spans", "k", "fee", "span", "tries", "more", "film", "calendar", "fees", "turn", "rows", "due", "actor", "figures"] ["script"] (defScope s_law) := ⟨rfl, rfl, rfl, by decide +kernel, rfl, by decide +kernel, by decide +kernel⟩
noncomputable def b_dark_minutes  : SM := sRet (e2 subD (e2 subD (eV 3) (eV 2)) (eN maxD (aCons (eC (.int 0)) (aCons (e2 subD (eN minB (aCons (eV 3) (aCons (eV 1) (aNil)))) (eN maxD (aCons (eV 2) (aCons (eV 0) (aNil))))) (aNil)))))
noncomputable def m_dark_minutes : FnD := fnD 4 b_dark_minutes
noncomputable def b_longest_stretch_6  : SM := sAsg (gN 4) (eV 7)
noncomputable def b_longest_stretch_5  : SM := sSeq (sAsg (gN 3) (eN maxD (aCons (eV 3) (aCons (e2 subD (eV 6) (eV 4)) (aNil))))) (b_longest_stretch_6)
noncomputable def b_longest_stretch_4  : SM := sIf (eAnd (e2 eqD (eV 5) (eC d_MEAL)) (eAnd (e2 leD (eV 1) (eV 6)) (e2 leD (eV 7) (eV 2)))) (b_longest_stretch_5) (sNil)
noncomputable def b_longest_stretch_7  : SM := sRet (eN maxD (aCons (eV 3) (aCons (e2 subD (eV 2) (eV 4)) (aNil))))
noncomputable def b_longest_stretch_3  : SM := sSeq (sFor (iE (eV 0)) (gT [gN 5, gN 6, gN 7]) (b_longest_stretch_4) [5, 6, 7]) (b_longest_stretch_7)
noncomputable def b_longest_stretch_2  : SM := sSeq (sAsg (gN 4) (eV 1)) (b_longest_stretch_3)
noncomputable def b_longest_stretch  : SM := sSeq (sAsg (gN 3) (eC (.int 0))) (b_longest_stretch_2)
noncomputable def m_longest_stretch : FnD := fnD 8 b_longest_stretch
noncomputable def b_figures_of  : SM := sSeq (sAsg (gN 6) (eComp false (iE (eV 3)) (gT [gN 7, gN 8, gN 9]) (eAnd (e2 neD (eV 7) (eC d_MEAL)) (e2 (inA false inD) (eV 4) (e2 ixA (e2 ixA (e2 ixA (eV 0) (eC (.int 2))) (eV 7)) (eC (.int 5))))) (eTup (aCons (eV 8) (aCons (eV 9) (aNil)))) [7, 8, 9])) (sSeq (sIf (eNot (eTru (eV 6))) (sRet (eC .non)) (sNil)) (sSeq (sAsg (gN 10) (eN maxD (aCons (eC (.int 0)) (aCons (e2 subD (e2 ixA (e2 ixA (eV 6) (eC (.int 0))) (eC (.int 0))) (e2 ixA (e2 ixA (eV 0) (eC (.int 4))) (eC (.int 1)))) (aNil))))) (sSeq (sAsg (gN 11) (e2 ixA (e2 ixA (eV 6) (e1 negD (eC (.int 1)))) (eC (.int 1)))) (sSeq (sAsg (gT [gN 12, gN 13]) (e2 ixA (e2 ixA (eV 1) (eC (.int 0))) (eV 2))) (sSeq (sAsg (gN 14) (e2 neD (e2 ixA (eV 5) (eC (.int 0))) (e1 negD (eC (.int 1))))) (sSeq (sAsg (gN 15) (eIf (eTru (eV 14)) (eN maxD (aCons (eC (.int 0)) (aCons (e2 subD (e2 (addD false) (eV 10) (eC d_DAY)) (e2 ixA (eV 5) (eC (.int 0)))) (aNil)))) (eC d_NO_REST))) (sRet (eTup (aCons (eV 10) (aCons (eV 11) (aCons (e2 subD (eV 11) (eV 10)) (aCons (eN sumD (aCons (eComp false (iE (eV 6)) (gT [gN 8, gN 9]) (eC (.bl true)) (e2 subD (eV 9) (eV 8)) [8, 9]) (aNil))) (aCons (eV 15) (aCons (eIf (eTru (eV 14)) (e2 (addD false) (e2 ixA (eV 5) (eC (.int 1))) (eC (.int 1))) (eC (.int 1))) (aCons (eN sumD (aCons (eComp false (iE (eV 6)) (gT [gN 8, gN 9]) (eC (.bl true)) (eN m_dark_minutes (aCons (eV 12) (aCons (eV 13) (aCons (eV 8) (aCons (eV 9) (aNil)))))) [8, 9]) (aNil))) (aCons (eN m_longest_stretch (aCons (eV 3) (aCons (eV 10) (aCons (eV 11) (aNil))))) (aCons (eN lenD (aCons (eV 6) (aNil))) (aNil))))))))))))))))))
noncomputable def m_figures_of : FnD := fnD 16 b_figures_of
noncomputable def b_day_cost  : SM := sSeq (sAsg (gN 2) (e2 ixA (eV 0) (eC (.int 0)))) (sSeq (sFor (iE (e2 ixA (eV 0) (eC (.int 1)))) (gT [gN 3, gN 4]) (sIf (e2 gtD (eV 1) (eV 3)) (sAug 2 iaddD (e2 (mulD false) (eV 4) (e2 fdivD (e2 subD (e2 (addD false) (e2 subD (eV 1) (eV 3)) (eC d_HALF_HOUR)) (eC (.int 1))) (eC d_HALF_HOUR)))) (sNil)) [3, 4]) (sRet (eV 2)))
noncomputable def m_day_cost : FnD := fnD 5 b_day_cost
noncomputable def b_cost_of  : SM := sSeq (sAsg (gN 5) (eC (.int 0))) (sSeq (sFor (iR (aCons (eN lenD (aCons (e2 ixA (eV 0) (eC (.int 1))) (aNil))) (aNil))) (gN 6) (sSeq (sAsg (gN 7) (eN m_figures_of (aCons (eV 0) (aCons (eV 1) (aCons (eV 3) (aCons (eV 4) (aCons (eV 6) (aCons (eTup (aCons (e1 negD (eC (.int 1))) (aCons (eC (.int 0)) (aNil)))) (aNil))))))))) (sIf (e2 isnotD (eV 7) (eC .non)) (sAug 5 iaddD (eN m_day_cost (aCons (e2 ixA (eV 2) (eV 6)) (aCons (e2 ixA (eV 7) (eC (.int 2))) (aNil))))) (sNil))) [6, 7]) (sRet (eV 5)))
noncomputable def m_cost_of : FnD := fnD 8 b_cost_of
noncomputable def b_law_begin  : SM := sSeq (sAsg (gN 1) (eC (.int 1))) (sSeq (sFor (iE (eV 0)) (gN 2) (sAsg (gN 1) (e2 modD (e2 (addD false) (e2 (addD false) (e2 (mulD false) (eV 1) (eC (.int 69621))) (e2 modD (eN intD (aCons (eV 2) (aNil))) (eC (.int 2147483629)))) (eC (.int 7))) (eC (.int 2147483647)))) [2]) (sRet (eLst true (aCons (eN (listD false) (aCons (eV 0) (aNil))) (aCons (eC (.int 0)) (aCons (eC (.int 0)) (aCons (eV 1) (aNil))))))))
noncomputable def m_law_begin : FnD := fnK 3 b_law_begin
noncomputable def b_law_take  : SM := sSeq (sIf (eAnd (e2 eqD (e2 ixA (eV 0) (eC (.int 2))) (eC (.int 0))) (e2 ltD (e2 ixA (eV 0) (eC (.int 1))) (eN lenD (aCons (e2 ixA (eV 0) (eC (.int 0))) (aNil))))) (sSeq (sSub setA (eV 0) (eC (.int 2)) (eN absD (aCons (eN intD (aCons (e2 ixA (e2 ixA (eV 0) (eC (.int 0))) (e2 ixA (eV 0) (eC (.int 1)))) (aNil))) (aNil)))) (sSeq (sSub setA (eV 0) (eC (.int 1)) (e2 (addD false) (e2 ixA (eV 0) (eC (.int 1))) (eC (.int 1)))) (sIf (e2 ltD (e2 ixA (eV 0) (eC (.int 2))) (e2 powD (eC (.int 10)) (eC (.int 18)))) (sSeq (sAsg (gN 2) (eN intD (aCons (e2 ixA (eV 0) (eC (.int 2))) (aNil)))) (sSeq (sSub setA (eV 0) (eC (.int 2)) (eC (.int 0))) (sRet (e2 modD (eV 2) (eV 1))))) (sNil)))) (sNil)) (sSeq (sIf (e2 gtD (e2 ixA (eV 0) (eC (.int 2))) (eC (.int 0))) (sSeq (sAsg (gN 3) (e2 modD (eN intD (aCons (e2 ixA (eV 0) (eC (.int 2))) (aNil))) (eV 1))) (sSeq (sSub setA (eV 0) (eC (.int 2)) (e2 fdivD (eN intD (aCons (e2 ixA (eV 0) (eC (.int 2))) (aNil))) (eV 1))) (sRet (eV 3)))) (sNil)) (sSeq (sSub setA (eV 0) (eC (.int 3)) (e2 modD (eN intD (aCons (e2 (addD false) (e2 (mulD false) (e2 ixA (eV 0) (eC (.int 3))) (eC (.int 48271))) (eC (.int 11))) (aNil))) (eC (.int 2147483647)))) (sRet (e2 modD (eN intD (aCons (e2 fdivD (e2 ixA (eV 0) (eC (.int 3))) (eC (.int 3))) (aNil))) (eV 1)))))
noncomputable def m_law_take : FnD := fnD 4 b_law_take
noncomputable def b_law_pick  : SM := sRet (e2 ixA (eV 1) (eN m_law_take (aCons (eV 0) (aCons (eN lenD (aCons (eV 1) (aNil))) (aNil)))))
noncomputable def m_law_pick : FnD := fnD 2 b_law_pick
noncomputable def b_law_film_6  : SM := sExpr (eM "list" appendD (eV 5) (aCons (eTup (aCons (e2 (addD false) (eC (.str "s")) (eN strD (aCons (eV 3) (aNil)))) (aCons (eN m_law_take (aCons (eV 0) (aCons (eN lenD (aCons (eV 2) (aNil))) (aNil)))) (aCons (eN m_law_pick (aCons (eV 0) (aCons (eLst false (aCons (eC (.str "day")) (aCons (eC (.str "any")) (aCons (eC (.str "any")) (aCons (eC (.str "night")) (aNil)))))) (aNil)))) (aCons (e2 (addD false) (eC (.int 5)) (e2 (mulD false) (eC (.int 5)) (eN m_law_take (aCons (eV 0) (aCons (eC (.int 40)) (aNil)))))) (aCons (e2 eqD (eN m_law_take (aCons (eV 0) (aCons (eC (.int 4)) (aNil)))) (eC (.int 0))) (aCons (eV 6) (aNil)))))))) (aNil)))
noncomputable def b_law_film_5  : SM := sSeq (sAsg (gN 6) (eN tupleD (aCons (eComp false (iR (aCons (eN lenD (aCons (eV 4) (aNil))) (aNil))) (gN 7) (e2 eqD (eN m_law_take (aCons (eV 0) (aCons (eC (.int 2)) (aNil)))) (eC (.int 0))) (eV 7) [7]) (aNil)))) (b_law_film_6)
noncomputable def b_law_film_9  : SM := sExpr (eM "list" extendD (eV 8) (aCons (eComp false (iR (aCons (e2 (addD false) (eV 9) (eC (.int 1))) (aCons (eN lenD (aCons (eV 5) (aNil))) (aNil)))) (gN 10) (e2 eqD (eN m_law_take (aCons (eV 0) (aCons (eC (.int 5)) (aNil)))) (eC (.int 0))) (eTup (aCons (eV 9) (aCons (eV 10) (aNil)))) [10]) (aNil)))
noncomputable def b_law_film_11  : SM := sRet (eTup (aCons (eV 2) (aCons (eV 4) (aCons (eN tupleD (aCons (eV 5) (aNil))) (aCons (eN tupleD (aCons (eV 8) (aNil))) (aCons (eV 11) (aNil)))))))
noncomputable def b_law_film_10  : SM := sSeq (sAsg (gN 11) (eTup (aCons (eN m_law_take (aCons (eV 0) (aCons (eC (.int 60)) (aNil)))) (aCons (eN m_law_take (aCons (eV 0) (aCons (eC (.int 90)) (aNil)))) (aCons (e2 (addD false) (eC (.int 5)) (eN m_law_take (aCons (eV 0) (aCons (eC (.int 60)) (aNil))))) (aNil)))))) (b_law_film_11)
noncomputable def b_law_film_8  : SM := sSeq (sFor (iR (aCons (eN lenD (aCons (eV 5) (aNil))) (aNil))) (gN 9) (b_law_film_9) [9]) (b_law_film_10)
noncomputable def b_law_film_7  : SM := sSeq (sAsg (gN 8) (eLst true (aNil))) (b_law_film_8)
noncomputable def b_law_film_4  : SM := sSeq (sFor (iR (aCons (e2 (addD false) (eC (.int 1)) (eN m_law_take (aCons (eV 0) (aCons (eV 1) (aNil))))) (aNil))) (gN 3) (b_law_film_5) [3, 6]) (b_law_film_7)
noncomputable def b_law_film_3  : SM := sSeq (sAsg (gN 5) (eLst true (aNil))) (b_law_film_4)
noncomputable def b_law_film_2  : SM := sSeq (sAsg (gN 4) (eN tupleD (aCons (eComp false (iR (aCons (e2 (addD false) (eC (.int 1)) (eN m_law_take (aCons (eV 0) (aCons (eC (.int 3)) (aNil))))) (aNil))) (gN 3) (eC (.bl true)) (eTup (aCons (e2 (addD false) (eC (.str "a")) (eN strD (aCons (eV 3) (aNil)))) (aCons (e2 eqD (eN m_law_take (aCons (eV 0) (aCons (eC (.int 3)) (aNil)))) (eC (.int 0))) (aNil)))) [3]) (aNil)))) (b_law_film_3)
noncomputable def b_law_film  : SM := sSeq (sAsg (gN 2) (eN tupleD (aCons (eComp false (iR (aCons (e2 (addD false) (eC (.int 1)) (eN m_law_take (aCons (eV 0) (aCons (eC (.int 3)) (aNil))))) (aNil))) (gN 3) (eC (.bl true)) (eTup (aCons (e2 (addD false) (eC (.str "p")) (eN strD (aCons (eV 3) (aNil)))) (aCons (e2 eqD (eN m_law_take (aCons (eV 0) (aCons (eC (.int 2)) (aNil)))) (eC (.int 0))) (aNil)))) [3]) (aNil)))) (b_law_film_2)
noncomputable def m_law_film : FnD := fnD 12 b_law_film
noncomputable def b_law_windows  : SM := sSeq (sAsg (gN 3) (eLst true (aNil))) (sSeq (sFor (iR (aCons (eN m_law_take (aCons (eV 0) (aCons (eC (.int 3)) (aNil)))) (aNil))) (gN 4) (sSeq (sAsg (gN 5) (eN m_law_take (aCons (eV 0) (aCons (eV 2) (aNil))))) (sExpr (eM "list" appendD (eV 3) (aCons (eTup (aCons (eN m_law_take (aCons (eV 0) (aCons (eV 1) (aNil)))) (aCons (eV 5) (aCons (e2 (addD false) (eV 5) (eN m_law_take (aCons (eV 0) (aCons (e2 subD (eV 2) (eV 5)) (aNil))))) (aNil))))) (aNil))))) [4, 5]) (sRet (eN tupleD (aCons (eN (ssD false) (aCons (eV 3) (aNil))) (aNil)))))
noncomputable def m_law_windows : FnD := fnD 6 b_law_windows
noncomputable def b_law_calendar  : SM := sSeq (sAsg (gN 3) (eN tupleD (aCons (eComp false (iR (aCons (eV 2) (aNil))) (gN 4) (eC (.bl true)) (eTup (aCons (e2 (addD false) (eC (.int 300)) (eN m_law_take (aCons (eV 0) (aCons (eC (.int 200)) (aNil))))) (aCons (e2 (addD false) (eC (.int 1000)) (eN m_law_take (aCons (eV 0) (aCons (eC (.int 300)) (aNil))))) (aNil)))) [4]) (aNil)))) (sRet (eTup (aCons (eV 3) (aCons (eN m_law_windows (aCons (eV 0) (aCons (eN lenD (aCons (e2 ixA (eV 1) (eC (.int 1))) (aNil))) (aCons (eV 2) (aNil))))) (aCons (eN m_law_windows (aCons (eV 0) (aCons (eN lenD (aCons (e2 ixA (eV 1) (eC (.int 0))) (aNil))) (aCons (eV 2) (aNil))))) (aNil))))))
noncomputable def m_law_calendar : FnD := fnD 5 b_law_calendar
noncomputable def b_law_list_4  : SM := sIf (e2 eqD (eN m_law_take (aCons (eV 0) (aCons (eC (.int 5)) (aNil)))) (eC (.int 0))) (sExpr (eM "list" appendD (eV 3) (aCons (e2 subD (eC (.int 0)) (eC (.int 1))) (aNil)))) (sIf (e2 gtD (eN lenD (aCons (eV 2) (aNil))) (eC (.int 0))) (sExpr (eM "list" appendD (eV 3) (aCons (eM "list" popD (eV 2) (aCons (eIf (e2 eqD (eN m_law_take (aCons (eV 0) (aCons (eC (.int 2)) (aNil)))) (eC (.int 0))) (eC (.int 0)) (eN m_law_take (aCons (eV 0) (aCons (eN lenD (aCons (eV 2) (aNil))) (aNil))))) (aNil))) (aNil)))) (sNil))
noncomputable def b_law_list_8  : SM := sRet (eN tupleD (aCons (eV 3) (aNil)))
noncomputable def b_law_list_3  : SM := sSeq (sFor (iR (aCons (eN m_law_take (aCons (eV 0) (aCons (e2 (addD false) (eN lenD (aCons (eV 2) (aNil))) (eC (.int 2))) (aNil)))) (aNil))) (gN 4) (b_law_list_4) [4]) (b_law_list_8)
noncomputable def b_law_list_2  : SM := sSeq (sAsg (gN 3) (eLst true (aNil))) (b_law_list_3)
noncomputable def b_law_list  : SM := sSeq (sAsg (gN 2) (eN (lrD true) (aCons (eN lenD (aCons (e2 ixA (eV 1) (eC (.int 2))) (aNil))) (aNil)))) (b_law_list_2)
noncomputable def m_law_list : FnD := fnD 5 b_law_list
noncomputable def b_law_sheet  : SM := sSeq (sAsg (gN 2) (eN m_law_list (aCons (eV 0) (aCons (eV 1) (aNil))))) (sRet (eTup (aCons (e2 (addD false) (eC (.int 360)) (e2 (mulD false) (eC (.int 30)) (eN m_law_take (aCons (eV 0) (aCons (eC (.int 12)) (aNil)))))) (aCons (eV 2) (aCons (eIf (e2 eqD (eN m_law_take (aCons (eV 0) (aCons (eC (.int 2)) (aNil)))) (eC (.int 0))) (eV 2) (eN m_law_list (aCons (eV 0) (aCons (eV 1) (aNil))))) (aNil))))))
noncomputable def m_law_sheet : FnD := fnD 3 b_law_sheet
noncomputable def b_law_fees  : SM := sSeq (sAsg (gN 2) (eLst true (aNil))) (sSeq (sFor (iE (e2 ixA (eV 1) (eC (.int 1)))) (gN 3) (sSeq (sAsg (gN 4) (eN (ssD false) (aCons (eComp false (iR (aCons (eN m_law_take (aCons (eV 0) (aCons (eC (.int 3)) (aNil)))) (aNil))) (gN 5) (eC (.bl true)) (eN m_law_take (aCons (eV 0) (aCons (eC (.int 600)) (aNil)))) [5]) (aNil)))) (sExpr (eM "list" appendD (eV 2) (aCons (eTup (aCons (eN m_law_take (aCons (eV 0) (aCons (eC (.int 99)) (aNil)))) (aCons (eN tupleD (aCons (eComp false (iE (eV 4)) (gN 6) (eC (.bl true)) (eTup (aCons (eV 6) (aCons (eN m_law_take (aCons (eV 0) (aCons (eC (.int 20)) (aNil)))) (aNil)))) [6]) (aNil))) (aNil)))) (aNil))))) [3, 4]) (sRet (eN tupleD (aCons (eV 2) (aNil)))))
noncomputable def m_law_fees : FnD := fnD 7 b_law_fees
noncomputable def b_law_hours_8  : SM := sAsg (gN 4) (e2 (addD false) (eV 4) (e2 ixA (e2 ixA (eV 0) (eC (.int 4))) (eC (.int 2))))
noncomputable def b_law_hours_7  : SM := sSeq (sExpr (eM "list" appendD (eV 6) (aCons (eTup (aCons (eV 8) (aCons (eV 4) (aCons (e2 (addD false) (eV 4) (e2 ixA (e2 ixA (eV 0) (eC (.int 4))) (eC (.int 2)))) (aNil))))) (aNil)))) (b_law_hours_8)
noncomputable def b_law_hours_18  : SM := sAsg (gN 4) (e2 (addD false) (eV 4) (e2 ixA (eV 9) (eC (.int 3))))
noncomputable def b_law_hours_17  : SM := sSeq (sExpr (eM "list" appendD (eV 6) (aCons (eTup (aCons (eV 8) (aCons (eV 4) (aCons (e2 (addD false) (eV 4) (e2 ixA (eV 9) (eC (.int 3)))) (aNil))))) (aNil)))) (b_law_hours_18)
noncomputable def b_law_hours_16  : SM := sSeq (sAsg (gN 5) (e2 ixA (eV 9) (eC (.int 1)))) (b_law_hours_17)
noncomputable def b_law_hours_14  : SM := sSeq (sIf (eAnd (e2 isnotD (eV 5) (eC .non)) (e2 neD (eV 5) (e2 ixA (eV 9) (eC (.int 1))))) (sAsg (gN 4) (e2 (addD false) (eV 4) (e2 ixA (e2 ixA (eV 0) (eC (.int 4))) (eC (.int 0))))) (sNil)) (b_law_hours_16)
noncomputable def b_law_hours_11  : SM := sIf (e2 (inA false inD) (e2 ixA (eV 3) (eC (.int 1))) (e2 ixA (eV 9) (eC (.int 5)))) (sExpr (eM "list" appendD (eV 7) (aCons (eV 8) (aNil)))) (b_law_hours_14)
noncomputable def b_law_hours_10  : SM := sSeq (sAsg (gN 9) (e2 ixA (e2 ixA (eV 0) (eC (.int 2))) (eV 8))) (b_law_hours_11)
noncomputable def b_law_hours_6  : SM := sIf (e2 eqD (eV 8) (e2 subD (eC (.int 0)) (eC (.int 1)))) (b_law_hours_7) (sIf (e2 (inA true ninD) (eV 8) (eV 2)) (b_law_hours_10) (sNil))
noncomputable def b_law_hours_19  : SM := sRet (eTup (aCons (eN tupleD (aCons (eV 6) (aNil))) (aCons (eN tupleD (aCons (eN (sortedD false) (aCons (eV 7) (aNil))) (aNil))) (aNil))))
noncomputable def b_law_hours_5  : SM := sSeq (sFor (iE (e2 ixA (eV 1) (e2 (addD false) (eC (.int 1)) (eN intD (aCons (e2 eqD (e2 ixA (eV 3) (eC (.int 0))) (eC (.str "rain"))) (aNil)))))) (gN 8) (b_law_hours_6) [8, 9]) (b_law_hours_19)
noncomputable def b_law_hours_4  : SM := sSeq (sAsg (gN 7) (eLst true (aNil))) (b_law_hours_5)
noncomputable def b_law_hours_3  : SM := sSeq (sAsg (gN 6) (eLst true (aNil))) (b_law_hours_4)
noncomputable def b_law_hours_2  : SM := sSeq (sAsg (gN 5) (eC .non)) (b_law_hours_3)
noncomputable def b_law_hours  : SM := sSeq (sAsg (gN 4) (e2 (addD false) (e2 ixA (eV 1) (eC (.int 0))) (e2 ixA (eV 3) (eC (.int 2))))) (b_law_hours_2)
noncomputable def m_law_hours : FnD := fnD 10 b_law_hours
noncomputable def b_law_figures_9  : SM := sAsg (gN 12) (e2 (addD false) (e2 (addD false) (eV 12) (eN maxD (aCons (eC (.int 0)) (aCons (e2 subD (eN minB (aCons (eV 15) (aCons (eV 10) (aNil)))) (eV 14)) (aNil))))) (eN maxD (aCons (eC (.int 0)) (aCons (e2 subD (eV 15) (eN maxD (aCons (eV 14) (aCons (eV 11) (aNil))))) (aNil)))))
noncomputable def b_law_figures_12  : SM := sIf (eAnd (e2 ltD (eV 13) (eC (.int 0))) (eAnd (e2 geD (eV 14) (eV 8)) (e2 leD (eV 15) (eV 9)))) (sExpr (eM "list" extendD (eV 16) (aCons (eLst false (aCons (eV 14) (aCons (eV 15) (aNil)))) (aNil)))) (sNil)
noncomputable def b_law_figures_19  : SM := sRet (eTup (aCons (eV 8) (aCons (eV 9) (aCons (e2 subD (eV 9) (eV 8)) (aCons (eV 21) (aCons (eV 20) (aCons (e2 (addD false) (eC (.int 1)) (eIf (eTru (eV 19)) (e2 ixA (eV 5) (eC (.int 1))) (eC (.int 0)))) (aCons (eV 12) (aCons (eV 17) (aCons (eN lenD (aCons (eV 6) (aNil))) (aNil)))))))))))
noncomputable def b_law_figures_18  : SM := sSeq (sAsg (gN 21) (eN sumD (aCons (eComp false (iE (eV 6)) (gN 7) (eC (.bl true)) (e2 subD (e2 ixA (eV 7) (eC (.int 2))) (e2 ixA (eV 7) (eC (.int 1)))) [7]) (aNil)))) (b_law_figures_19)
noncomputable def b_law_figures_17  : SM := sSeq (sAsg (gN 20) (eIf (eTru (eV 19)) (eN maxD (aCons (eC (.int 0)) (aCons (e2 subD (e2 (addD false) (eV 8) (eC (.int 1440))) (e2 ixA (eV 5) (eC (.int 0)))) (aNil)))) (eC (.int 9999)))) (b_law_figures_18)
noncomputable def b_law_figures_16  : SM := sSeq (sAsg (gN 19) (e2 geD (e2 ixA (eV 5) (eC (.int 0))) (eC (.int 0)))) (b_law_figures_17)
noncomputable def b_law_figures_15  : SM := sSeq (sAsg (gN 17) (eN maxD (aCons (eComp false (iR3 (aCons (eC (.int 0)) (aCons (eN lenD (aCons (eV 16) (aNil))) (aCons (eC (.int 2)) (aNil))))) (gN 18) (eC (.bl true)) (e2 subD (e2 ixA (eV 16) (e2 (addD false) (eV 18) (eC (.int 1)))) (e2 ixA (eV 16) (eV 18))) [18]) (aNil)))) (b_law_figures_16)
noncomputable def b_law_figures_14  : SM := sSeq (sExpr (eM "list" appendD (eV 16) (aCons (eV 9) (aNil)))) (b_law_figures_15)
noncomputable def b_law_figures_11  : SM := sSeq (sFor (iE (eV 3)) (gT [gN 13, gN 14, gN 15]) (b_law_figures_12) [13, 14, 15]) (b_law_figures_14)
noncomputable def b_law_figures_10  : SM := sSeq (sAsg (gN 16) (eLst true (aCons (eV 8) (aNil)))) (b_law_figures_11)
noncomputable def b_law_figures_8  : SM := sSeq (sFor (iE (eV 6)) (gT [gN 13, gN 14, gN 15]) (b_law_figures_9) [13, 14, 15]) (b_law_figures_10)
noncomputable def b_law_figures_7  : SM := sSeq (sAsg (gN 12) (eC (.int 0))) (b_law_figures_8)
noncomputable def b_law_figures_6  : SM := sSeq (sAsg (gT [gN 10, gN 11]) (e2 ixA (e2 ixA (eV 1) (eC (.int 0))) (eV 2))) (b_law_figures_7)
noncomputable def b_law_figures_5  : SM := sSeq (sAsg (gN 9) (e2 ixA (e2 ixA (eV 6) (e1 negD (eC (.int 1)))) (eC (.int 2)))) (b_law_figures_6)
noncomputable def b_law_figures_4  : SM := sSeq (sAsg (gN 8) (eN maxD (aCons (eC (.int 0)) (aCons (e2 subD (e2 ixA (e2 ixA (eV 6) (eC (.int 0))) (eC (.int 1))) (e2 ixA (e2 ixA (eV 0) (eC (.int 4))) (eC (.int 1)))) (aNil))))) (b_law_figures_5)
noncomputable def b_law_figures_2  : SM := sSeq (sIf (e2 eqD (eN lenD (aCons (eV 6) (aNil))) (eC (.int 0))) (sRet (eC .non)) (sNil)) (b_law_figures_4)
noncomputable def b_law_figures  : SM := sSeq (sAsg (gN 6) (eComp false (iE (eV 3)) (gN 7) (eAnd (e2 geD (e2 ixA (eV 7) (eC (.int 0))) (eC (.int 0))) (e2 (inA false inD) (eV 4) (e2 ixA (e2 ixA (e2 ixA (eV 0) (eC (.int 2))) (e2 ixA (eV 7) (eC (.int 0)))) (eC (.int 5))))) (eV 7) [7])) (b_law_figures_2)
noncomputable def m_law_figures : FnD := fnD 22 b_law_figures
noncomputable def b_law_cost_6  : SM := sAsg (gN 5) (e2 subD (eV 5) (eC (.int 30)))
noncomputable def b_law_cost_5  : SM := sSeq (sAsg (gN 2) (e2 (addD false) (eV 2) (eV 4))) (b_law_cost_6)
noncomputable def b_law_cost_4  : SM := sWhile (e2 gtD (eV 5) (eC (.int 0))) (b_law_cost_5)
noncomputable def b_law_cost_3  : SM := sSeq (sAsg (gN 5) (e2 subD (eV 1) (eV 3))) (b_law_cost_4)
noncomputable def b_law_cost_7  : SM := sRet (eV 2)
noncomputable def b_law_cost_2  : SM := sSeq (sFor (iE (e2 ixA (eV 0) (eC (.int 1)))) (gT [gN 3, gN 4]) (b_law_cost_3) [3, 4, 5]) (b_law_cost_7)
noncomputable def b_law_cost  : SM := sSeq (sAsg (gN 2) (e2 ixA (eV 0) (eC (.int 0)))) (b_law_cost_2)
noncomputable def m_law_cost : FnD := fnD 6 b_law_cost
noncomputable def b_law_6  : SM := sExpr (eM "list" extendD (eV 6) (aCons (eComp false (iE (eTup (aCons (e2 subD (eC (.int 0)) (eC (.int 1))) (aCons (eC (.int 0)) (aCons (eC (.int 1)) (aNil)))))) (gN 7) (eC (.bl true)) (e2 (addD false) (e2 (addD false) (eV 5) (e2 (mulD false) (eC (.int 30)) (eN m_law_take (aCons (eV 1) (aCons (eC (.int 9)) (aNil)))))) (eV 7)) [7]) (aNil)))
noncomputable def b_law_8  : SM := sIf (e2 neD (eN m_day_cost (aCons (eV 4) (aCons (eN maxD (aCons (eC (.int 0)) (aCons (eV 5) (aNil)))) (aNil)))) (eN m_law_cost (aCons (eV 4) (aCons (eN maxD (aCons (eC (.int 0)) (aCons (eV 5) (aNil)))) (aNil))))) (sRet (eC (.bl false))) (sNil)
noncomputable def b_law_18  : SM := sAsg (gN 13) (e2 (addD false) (eV 13) (eIf (e2 isD (eV 15) (eC .non)) (eC (.int 0)) (eN m_law_cost (aCons (e2 ixA (eV 10) (eV 14)) (aCons (e2 ixA (eV 15) (eC (.int 2))) (aNil))))))
noncomputable def b_law_17  : SM := sSeq (sAsg (gN 15) (eN m_law_figures (aCons (eV 8) (aCons (eV 9) (aCons (eC (.int 0)) (aCons (eV 12) (aCons (eV 14) (aCons (eTup (aCons (e2 subD (eC (.int 0)) (eC (.int 1))) (aCons (eC (.int 0)) (aNil)))) (aNil))))))))) (b_law_18)
noncomputable def b_law_19  : SM := sIf (e2 neD (eN m_cost_of (aCons (eV 8) (aCons (eV 9) (aCons (eV 10) (aCons (eC (.int 0)) (aCons (eV 12) (aNil))))))) (eV 13)) (sRet (eC (.bl false))) (sNil)
noncomputable def b_law_16  : SM := sSeq (sFor (iR (aCons (eN lenD (aCons (e2 ixA (eV 8) (eC (.int 1))) (aNil))) (aNil))) (gN 14) (b_law_17) [14, 15]) (b_law_19)
noncomputable def b_law_15  : SM := sSeq (sAsg (gN 13) (eC (.int 0))) (b_law_16)
noncomputable def b_law_14  : SM := sSeq (sAsg (gN 12) (e2 ixA (eN m_law_hours (aCons (eV 8) (aCons (eN m_law_sheet (aCons (eV 1) (aCons (eV 8) (aNil)))) (aCons (eTup (aNil)) (aCons (eTup (aCons (eN m_law_pick (aCons (eV 1) (aCons (eLst false (aCons (eC (.str "dry")) (aCons (eC (.str "rain")) (aNil)))) (aNil)))) (aCons (e2 subD (eN m_law_take (aCons (eV 1) (aCons (e2 (addD false) (eN lenD (aCons (e2 ixA (eV 8) (eC (.int 1))) (aNil))) (eC (.int 1))) (aNil)))) (eC (.int 1))) (aCons (eC (.int 0)) (aNil))))) (aNil)))))) (eC (.int 0)))) (b_law_15)
noncomputable def b_law_21  : SM := sRet (eC (.bl true))
noncomputable def b_law_13  : SM := sSeq (sFor (iR (aCons (eC (.int 4)) (aNil))) (gN 11) (b_law_14) [11, 12, 13, 14, 15]) (b_law_21)
noncomputable def b_law_12  : SM := sSeq (sAsg (gN 10) (eN m_law_fees (aCons (eV 1) (aCons (eV 8) (aNil))))) (b_law_13)
noncomputable def b_law_11  : SM := sSeq (sAsg (gN 9) (eN m_law_calendar (aCons (eV 1) (aCons (eV 8) (aCons (eC (.int 2)) (aNil)))))) (b_law_12)
noncomputable def b_law_10  : SM := sSeq (sAsg (gN 8) (eN m_law_film (aCons (eV 1) (aCons (eC (.int 8)) (aNil))))) (b_law_11)
noncomputable def b_law_7  : SM := sSeq (sFor (iE (eV 6)) (gN 5) (b_law_8) [5]) (b_law_10)
noncomputable def b_law_5  : SM := sSeq (sFor (iE (eV 2)) (gN 5) (b_law_6) [5]) (b_law_7)
noncomputable def b_law_4  : SM := sSeq (sAsg (gN 6) (eLst true (aCons (eC (.int 0)) (aCons (eC (.int 9999)) (aCons (eN m_law_take (aCons (eV 1) (aCons (eC (.int 3000)) (aNil)))) (aNil)))))) (b_law_5)
noncomputable def b_law_3  : SM := sSeq (sAsg (gN 4) (eTup (aCons (eN m_law_pick (aCons (eV 1) (aCons (eLst false (aCons (eC (.int 0)) (aCons (eC (.int 7)) (aCons (eC (.int 99999)) (aNil))))) (aNil)))) (aCons (eN tupleD (aCons (eComp false (iE (eV 2)) (gN 5) (eC (.bl true)) (eTup (aCons (eV 5) (aCons (eN m_law_pick (aCons (eV 1) (aCons (eLst false (aCons (eC (.int 0)) (aCons (eC (.int 3)) (aCons (eC (.int 99999)) (aNil))))) (aNil)))) (aNil)))) [5]) (aNil))) (aNil))))) (b_law_4)
noncomputable def b_law_2  : SM := sSeq (sAsg (gN 2) (eN (ssD false) (aCons (eComp false (iR (aCons (eN m_law_take (aCons (eV 1) (aCons (eC (.int 5)) (aNil)))) (aNil))) (gN 3) (eC (.bl true)) (eN m_law_take (aCons (eV 1) (aCons (eC (.int 3001)) (aNil)))) [3]) (aNil)))) (b_law_3)
noncomputable def b_law  : SM := sSeq (sAsg (gN 1) (eN m_law_begin (aCons (eV 0) (aNil)))) (b_law_2)
noncomputable def m_law : FnD := fnD 16 b_law
section
variable {P : Program} {w : World} {K : PySem.W.Frag} {mg : Str → Option Value} {base : Heap}
theorem ok_dark_minutes (Z : Zs K mg) {fa : Addr} {fd : FuncData} (F : Fun K "dark_minutes" "dark_minutes" s_dark_minutes fa fd) : FnM P w K mg base (0 + 1) fa fd ["light", "dark", "begin", "end"] (fnD 4 (b_dark_minutes)) := fn_D F sc_dark_minutes fun cdv A outer s1 H1 E1 hr => by
  have tk : Takes (cxOf (L2.CX P w) P w K mg base ["light", "dark", "begin", "end"] "dark_minutes" (defScope s_dark_minutes) fa cdv A outer s1 H1 E1) (fun cls d _ H => E1 cls d H) := takes_of rfl rfl rfl rfl
  have hp : PassesOwn (model P w) (cxOf (L2.CX P w) P w K mg base ["light", "dark", "begin", "end"] "dark_minutes" (defScope s_dark_minutes) fa cdv A outer s1 H1 E1).A (cxOf (L2.CX P w) P w K mg base ["light", "dark", "begin", "end"] "dark_minutes" (defScope s_dark_minutes) fa cdv A outer s1 H1 E1).env (cxOf (L2.CX P w) P w K mg base ["light", "dark", "begin", "end"] "dark_minutes" (defScope s_dark_minutes) fa cdv A outer s1 H1 E1).xe := passes_of rfl
  exact ms_one (st_ret (m_op op_sub s_sub (m_op op_sub s_sub (m_var 3) (m_var 2)) (m_bi (or_max rfl) s_max Z.max (by decide +kernel) (ma_cons (m_int) (ma_cons (m_op op_sub s_sub (m_bi (or_minB rfl (hu65 hr)) s_minB Z.min (by decide +kernel) (ma_cons (m_var 3) (ma_cons (m_var 1) (ma_nil)))) (m_bi (or_max rfl) s_max Z.max (by decide +kernel) (ma_cons (m_var 2) (ma_cons (m_var 0) (ma_nil))))) (ma_nil))))))
theorem ok_longest_stretch (Z : Zs K mg) {fa : Addr} {fd : FuncData} (F : Fun K "longest_stretch" "longest_stretch" s_longest_stretch fa fd) : FnM P w K mg base (0 + 1) fa fd ["rows", "call", "wrap"] (fnD 8 (b_longest_stretch)) := fn_D F sc_longest_stretch fun cdv A outer s1 H1 E1 hr => by
  have tk : Takes (cxOf (L2.CX P w) P w K mg base ["rows", "call", "wrap", "longest", "start", "item", "begin", "end"] "longest_stretch" (defScope s_longest_stretch) fa cdv A outer s1 H1 E1) (fun cls d _ H => E1 cls d H) := takes_of rfl rfl rfl rfl
  have hp : PassesOwn (model P w) (cxOf (L2.CX P w) P w K mg base ["rows", "call", "wrap", "longest", "start", "item", "begin", "end"] "longest_stretch" (defScope s_longest_stretch) fa cdv A outer s1 H1 E1).A (cxOf (L2.CX P w) P w K mg base ["rows", "call", "wrap", "longest", "start", "item", "begin", "end"] "longest_stretch" (defScope s_longest_stretch) fa cdv A outer s1 H1 E1).env (cxOf (L2.CX P w) P w K mg base ["rows", "call", "wrap", "longest", "start", "item", "begin", "end"] "longest_stretch" (defScope s_longest_stretch) fa cdv A outer s1 H1 E1).xe := passes_of rfl
  exact ms_cons (st_set 3 sc_longest_stretch.nd (m_int)) (ms_cons (st_set 4 sc_longest_stretch.nd (m_var 1)) (ms_cons (st_for [5, 6, 7] hp (i_sq (m_var 0)) (g_tup (g_cons (g_name 5 sc_longest_stretch.nd) (g_cons (g_name 6 sc_longest_stretch.nd) (g_cons (g_name 7 sc_longest_stretch.nd) (g_nil))))) (ms_one (st_if (t_w (w_and (t_cmp (or_eq (hu64 hr)) s_eq (m_var 5) (m_glob Z.c_MEAL)) (w_and (t_cmp op_le s_le (m_var 1) (m_var 6)) (w_and1 (t_cmp op_le s_le (m_var 7) (m_var 2)))))) (ms_cons (st_set 3 sc_longest_stretch.nd (m_bi (or_max rfl) s_max Z.max (by decide +kernel) (ma_cons (m_var 3) (ma_cons (m_op op_sub s_sub (m_var 6) (m_var 4)) (ma_nil))))) (ms_one (st_set 4 sc_longest_stretch.nd (m_var 7)))) (ms_nil)))) (ms_one (st_ret (m_bi (or_max rfl) s_max Z.max (by decide +kernel) (ma_cons (m_var 3) (ma_cons (m_op op_sub s_sub (m_var 2) (m_var 4)) (ma_nil))))))))
theorem ok_figures_of (Z : Zs K mg) (C_longest_stretch : Cal P w K mg base "longest_stretch" 1 ["rows", "call", "wrap"] m_longest_stretch) (C_dark_minutes : Cal P w K mg base "dark_minutes" 1 ["light", "dark", "begin", "end"] m_dark_minutes) {fa : Addr} {fd : FuncData} (F : Fun K "figures_of" "figures_of" s_figures_of fa fd) : FnM P w K mg base (1 + 1) fa fd ["film", "calendar", "day", "rows", "actor", "before"] (fnD 16 (b_figures_of)) := fn_D F sc_figures_of fun cdv A outer s1 H1 E1 hr => by
  have tk : Takes (cxOf (L2.CX P w) P w K mg base ["film", "calendar", "day", "rows", "actor", "before", "own", "item", "begin", "end", "call", "wrap", "light", "dark", "is_on", "rest"] "figures_of" (defScope s_figures_of) fa cdv A outer s1 H1 E1) (fun cls d _ H => E1 cls d H) := takes_of rfl rfl rfl rfl
  have hp : PassesOwn (model P w) (cxOf (L2.CX P w) P w K mg base ["film", "calendar", "day", "rows", "actor", "before", "own", "item", "begin", "end", "call", "wrap", "light", "dark", "is_on", "rest"] "figures_of" (defScope s_figures_of) fa cdv A outer s1 H1 E1).A (cxOf (L2.CX P w) P w K mg base ["film", "calendar", "day", "rows", "actor", "before", "own", "item", "begin", "end", "call", "wrap", "light", "dark", "is_on", "rest"] "figures_of" (defScope s_figures_of) fa cdv A outer s1 H1 E1).env (cxOf (L2.CX P w) P w K mg base ["film", "calendar", "day", "rows", "actor", "before", "own", "item", "begin", "end", "call", "wrap", "light", "dark", "is_on", "rest"] "figures_of" (defScope s_figures_of) fa cdv A outer s1 H1 E1).xe := passes_of rfl
  exact ms_cons (st_setLc false 6 [("item", 7), ("begin", 8), ("end", 9)] sc_figures_of.nd (i_sq (m_var 3)) (blkOk_by (N := ["film", "calendar", "day", "rows", "actor", "before", "own", "item", "begin", "end", "call", "wrap", "light", "dark", "is_on", "rest"]) (sc := defScope s_figures_of) (by decide +kernel)) (fun s2 H2 C2 cl2 fp2 => g_tup (g_cons (g_name 7 sc_figures_of.nd) (g_cons (g_name 8 sc_figures_of.nd) (g_cons (g_name 9 sc_figures_of.nd) (g_nil))))) (fun s2 H2 C2 cl2 fp2 => ts_one (t_w (w_and (t_cmp (or_ne (hu64 hr)) s_ne (m_var 7) (m_glob Z.c_MEAL)) (w_and1 (t_cmp (or_inA (hu65 hr)) (s_inA s_in) (m_var 4) (m_ixA (hu1 hr) (m_ixA (hu1 hr) (m_ixA (hu1 hr) (m_var 0) (m_int)) (m_var 7)) (m_int))))))) (fun s2 H2 C2 cl2 fp2 => m_tup (ma_cons (m_var 8) (ma_cons (m_var 9) (ma_nil)))) (sw_true rfl rfl rfl (by decide +kernel))) (ms_cons (st_if (t_not (t_tru (m_var 6))) (ms_one (st_ret (m_non))) (ms_nil)) (ms_cons (st_set 10 sc_figures_of.nd (m_bi (or_max rfl) s_max Z.max (by decide +kernel) (ma_cons (m_int) (ma_cons (m_op op_sub s_sub (m_ixA (hu1 hr) (m_ixA (hu1 hr) (m_var 6) (m_int)) (m_int)) (m_ixA (hu1 hr) (m_ixA (hu1 hr) (m_var 0) (m_int)) (m_int))) (ma_nil))))) (ms_cons (st_set 11 sc_figures_of.nd (m_ixA (hu1 hr) (m_ixA (hu1 hr) (m_var 6) (m_un un_neg s_neg (m_int))) (m_int))) (ms_cons (st_asg (m_ixA (hu1 hr) (m_ixA (hu1 hr) (m_var 1) (m_int)) (m_var 2)) (g_tup (g_cons (g_name 12 sc_figures_of.nd) (g_cons (g_name 13 sc_figures_of.nd) (g_nil))))) (ms_cons (st_set 14 sc_figures_of.nd (m_cmp (or_ne (hu64 hr)) s_ne (m_ixA (hu1 hr) (m_var 5) (m_int)) (m_un un_neg s_neg (m_int)))) (ms_cons (st_set 15 sc_figures_of.nd (m_if (t_tru (m_var 14)) (m_bi (or_max rfl) s_max Z.max (by decide +kernel) (ma_cons (m_int) (ma_cons (m_op op_sub s_sub (m_op or_add (s_add false) (m_var 10) (m_glob Z.c_DAY)) (m_ixA (hu1 hr) (m_var 5) (m_int))) (ma_nil)))) (m_glob Z.c_NO_REST))) (ms_one (st_ret (m_tup (ma_cons (m_var 10) (ma_cons (m_var 11) (ma_cons (m_op op_sub s_sub (m_var 11) (m_var 10)) (ma_cons (m_bi (cr_sum rfl) s_sum Z.sum (by decide +kernel) (ma_cons (m_comp false [("begin", 8), ("end", 9)] sc_figures_of.nd (i_sq (m_var 6)) (blkOk_by (N := ["film", "calendar", "day", "rows", "actor", "before", "own", "item", "begin", "end", "call", "wrap", "light", "dark", "is_on", "rest"]) (sc := defScope s_figures_of) (by decide +kernel)) (fun s2 H2 C2 cl2 fp2 => g_tup (g_cons (g_name 8 sc_figures_of.nd) (g_cons (g_name 9 sc_figures_of.nd) (g_nil)))) (fun s2 H2 C2 cl2 fp2 => ts_nil) (fun s2 H2 C2 cl2 fp2 => m_op op_sub s_sub (m_var 9) (m_var 8))) (ma_nil))) (ma_cons (m_var 15) (ma_cons (m_if (t_tru (m_var 14)) (m_op or_add (s_add false) (m_ixA (hu1 hr) (m_var 5) (m_int)) (m_int)) (m_int)) (ma_cons (m_bi (cr_sum rfl) s_sum Z.sum (by decide +kernel) (ma_cons (m_comp false [("begin", 8), ("end", 9)] sc_figures_of.nd (i_sq (m_var 6)) (blkOk_by (N := ["film", "calendar", "day", "rows", "actor", "before", "own", "item", "begin", "end", "call", "wrap", "light", "dark", "is_on", "rest"]) (sc := defScope s_figures_of) (by decide +kernel)) (fun s2 H2 C2 cl2 fp2 => g_tup (g_cons (g_name 8 sc_figures_of.nd) (g_cons (g_name 9 sc_figures_of.nd) (g_nil)))) (fun s2 H2 C2 cl2 fp2 => ts_nil) (fun s2 H2 C2 cl2 fp2 => m_cal C_dark_minutes (hr.mono (by omega)) tk0 (ma_cons (m_var 12) (ma_cons (m_var 13) (ma_cons (m_var 8) (ma_cons (m_var 9) (ma_nil))))))) (ma_nil))) (ma_cons (m_cal C_longest_stretch (hr.mono (by omega)) tk (ma_cons (m_var 3) (ma_cons (m_var 10) (ma_cons (m_var 11) (ma_nil))))) (ma_cons (m_bi or_len s_len Z.len (by decide +kernel) (ma_cons (m_var 6) (ma_nil))) (ma_nil)))))))))))))))))))
theorem ok_day_cost (Z : Zs K mg) {fa : Addr} {fd : FuncData} (F : Fun K "day_cost" "day_cost" s_day_cost fa fd) : FnM P w K mg base (0 + 1) fa fd ["fee", "span"] (fnD 5 (b_day_cost)) := fn_D F sc_day_cost fun cdv A outer s1 H1 E1 hr => by
  have tk : Takes (cxOf (L2.CX P w) P w K mg base ["fee", "span", "total", "base", "pay"] "day_cost" (defScope s_day_cost) fa cdv A outer s1 H1 E1) (fun cls d _ H => E1 cls d H) := takes_of rfl rfl rfl rfl
  have hp : PassesOwn (model P w) (cxOf (L2.CX P w) P w K mg base ["fee", "span", "total", "base", "pay"] "day_cost" (defScope s_day_cost) fa cdv A outer s1 H1 E1).A (cxOf (L2.CX P w) P w K mg base ["fee", "span", "total", "base", "pay"] "day_cost" (defScope s_day_cost) fa cdv A outer s1 H1 E1).env (cxOf (L2.CX P w) P w K mg base ["fee", "span", "total", "base", "pay"] "day_cost" (defScope s_day_cost) fa cdv A outer s1 H1 E1).xe := passes_of rfl
  exact ms_cons (st_set 2 sc_day_cost.nd (m_ixA (hu1 hr) (m_var 0) (m_int))) (ms_cons (st_for [3, 4] hp (i_sq (m_ixA (hu1 hr) (m_var 0) (m_int))) (g_tup (g_cons (g_name 3 sc_day_cost.nd) (g_cons (g_name 4 sc_day_cost.nd) (g_nil)))) (ms_one (st_if (t_cmp op_gt s_gt (m_var 1) (m_var 3)) (ms_one (st_aug 2 sc_day_cost.nd iop_add s_iadd (m_op or_mul (s_mul false) (m_var 4) (m_op op_fdiv s_fdiv (m_op op_sub s_sub (m_op or_add (s_add false) (m_op op_sub s_sub (m_var 1) (m_var 3)) (m_glob Z.c_HALF_HOUR)) (m_int)) (m_glob Z.c_HALF_HOUR))))) (ms_nil)))) (ms_one (st_ret (m_var 2))))
theorem ok_cost_of (Z : Zs K mg) (C_figures_of : Cal P w K mg base "figures_of" 2 ["film", "calendar", "day", "rows", "actor", "before"] m_figures_of) (C_day_cost : Cal P w K mg base "day_cost" 1 ["fee", "span"] m_day_cost) {fa : Addr} {fd : FuncData} (F : Fun K "cost_of" "cost_of" s_cost_of fa fd) : FnM P w K mg base (2 + 1) fa fd ["film", "calendar", "fees", "day", "rows"] (fnD 8 (b_cost_of)) := fn_D F sc_cost_of fun cdv A outer s1 H1 E1 hr => by
  have tk : Takes (cxOf (L2.CX P w) P w K mg base ["film", "calendar", "fees", "day", "rows", "total", "actor", "figures"] "cost_of" (defScope s_cost_of) fa cdv A outer s1 H1 E1) (fun cls d _ H => E1 cls d H) := takes_of rfl rfl rfl rfl
  have hp : PassesOwn (model P w) (cxOf (L2.CX P w) P w K mg base ["film", "calendar", "fees", "day", "rows", "total", "actor", "figures"] "cost_of" (defScope s_cost_of) fa cdv A outer s1 H1 E1).A (cxOf (L2.CX P w) P w K mg base ["film", "calendar", "fees", "day", "rows", "total", "actor", "figures"] "cost_of" (defScope s_cost_of) fa cdv A outer s1 H1 E1).env (cxOf (L2.CX P w) P w K mg base ["film", "calendar", "fees", "day", "rows", "total", "actor", "figures"] "cost_of" (defScope s_cost_of) fa cdv A outer s1 H1 E1).xe := passes_of rfl
  exact ms_cons (st_set 5 sc_cost_of.nd (m_int)) (ms_cons (st_for [6, 7] hp (i_rng1 Z.range (ma_cons (m_bi or_len s_len Z.len (by decide +kernel) (ma_cons (m_ixA (hu1 hr) (m_var 0) (m_int)) (ma_nil))) (ma_nil))) (g_name 6 sc_cost_of.nd) (ms_cons (st_set 7 sc_cost_of.nd (m_cal C_figures_of (hr.mono (by omega)) tk (ma_cons (m_var 0) (ma_cons (m_var 1) (ma_cons (m_var 3) (ma_cons (m_var 4) (ma_cons (m_var 6) (ma_cons (m_tup (ma_cons (m_un un_neg s_neg (m_int)) (ma_cons (m_int) (ma_nil)))) (ma_nil))))))))) (ms_one (st_if (t_cmp or_isnot s_isnot (m_var 7) (m_non)) (ms_one (st_aug 5 sc_cost_of.nd iop_add s_iadd (m_cal C_day_cost (hr.mono (by omega)) tk (ma_cons (m_ixA (hu1 hr) (m_var 2) (m_var 6)) (ma_cons (m_ixA (hu1 hr) (m_var 7) (m_int)) (ma_nil)))))) (ms_nil))))) (ms_one (st_ret (m_var 5))))
theorem ok_law_begin (Z : Zs K mg) {fa : Addr} {fd : FuncData} (F : Fun K "_law_begin" "_law_begin" s_law_begin fa fd) : FnM P w K mg base (0 + 1) fa fd ["script"] (fnK 3 (b_law_begin)) := fn_K F sc_law_begin fun cdv A outer s1 H1 E1 hr => by
  have tk : Takes (cxOf (L2.CX P w) P w K mg base ["script", "seed", "cell"] "_law_begin" (defScope s_law_begin) fa cdv A outer s1 H1 E1) (fun cls d _ H => E1 cls d H) := takes_of rfl rfl rfl rfl
  have hp : PassesOwn (model P w) (cxOf (L2.CX P w) P w K mg base ["script", "seed", "cell"] "_law_begin" (defScope s_law_begin) fa cdv A outer s1 H1 E1).A (cxOf (L2.CX P w) P w K mg base ["script", "seed", "cell"] "_law_begin" (defScope s_law_begin) fa cdv A outer s1 H1 E1).env (cxOf (L2.CX P w) P w K mg base ["script", "seed", "cell"] "_law_begin" (defScope s_law_begin) fa cdv A outer s1 H1 E1).xe := passes_of rfl
  exact ms_cons (st_set 1 sc_law_begin.nd (m_int)) (ms_cons (st_for [2] hp (i_sq (m_var 0)) (g_name 2 sc_law_begin.nd) (ms_one (st_set 1 sc_law_begin.nd (m_op op_mod s_mod (m_op or_add (s_add false) (m_op or_add (s_add false) (m_op or_mul (s_mul false) (m_var 1) (m_int)) (m_op op_mod s_mod (m_ty call_int1 s_intF Z.int (by decide +kernel) (ma_cons (m_var 2) (ma_nil))) (m_int))) (m_int)) (m_int))))) (ms_one (st_ret (m_lst true (ma_cons (m_ty call_list_of (s_list false) Z.list (by decide +kernel) (ma_cons (m_var 0) (ma_nil))) (ma_cons (m_int) (ma_cons (m_int) (ma_cons (m_var 1) (ma_nil)))))))))
theorem ok_law_take (Z : Zs K mg) {fa : Addr} {fd : FuncData} (F : Fun K "_law_take" "_law_take" s_law_take fa fd) : FnM P w K mg base (0 + 1) fa fd ["d", "many"] (fnD 4 (b_law_take)) := fn_D F sc_law_take fun cdv A outer s1 H1 E1 hr => by
  have tk : Takes (cxOf (L2.CX P w) P w K mg base ["d", "many", "small", "digit"] "_law_take" (defScope s_law_take) fa cdv A outer s1 H1 E1) (fun cls d _ H => E1 cls d H) := takes_of rfl rfl rfl rfl
  have hp : PassesOwn (model P w) (cxOf (L2.CX P w) P w K mg base ["d", "many", "small", "digit"] "_law_take" (defScope s_law_take) fa cdv A outer s1 H1 E1).A (cxOf (L2.CX P w) P w K mg base ["d", "many", "small", "digit"] "_law_take" (defScope s_law_take) fa cdv A outer s1 H1 E1).env (cxOf (L2.CX P w) P w K mg base ["d", "many", "small", "digit"] "_law_take" (defScope s_law_take) fa cdv A outer s1 H1 E1).xe := passes_of rfl
  exact ms_cons (st_if (t_w (w_and (t_cmp (or_eq (hu64 hr)) s_eq (m_ixA (hu1 hr) (m_var 0) (m_int)) (m_int)) (w_and1 (t_cmp or_lt s_lt (m_ixA (hu1 hr) (m_var 0) (m_int)) (m_bi or_len s_len Z.len (by decide +kernel) (ma_cons (m_ixA (hu1 hr) (m_var 0) (m_int)) (ma_nil))))))) (ms_cons (st_sub (set_a (hu1 hr)) s_setA (m_var 0) (m_int) (m_bi call_abs s_abs Z.abs (by decide +kernel) (ma_cons (m_ty call_int1 s_intF Z.int (by decide +kernel) (ma_cons (m_ixA (hu1 hr) (m_ixA (hu1 hr) (m_var 0) (m_int)) (m_ixA (hu1 hr) (m_var 0) (m_int))) (ma_nil))) (ma_nil)))) (ms_cons (st_sub (set_a (hu1 hr)) s_setA (m_var 0) (m_int) (m_op or_add (s_add false) (m_ixA (hu1 hr) (m_var 0) (m_int)) (m_int))) (ms_one (st_if (t_cmp or_lt s_lt (m_ixA (hu1 hr) (m_var 0) (m_int)) (m_op op_pow s_pow (m_int) (m_int))) (ms_cons (st_set 2 sc_law_take.nd (m_ty call_int1 s_intF Z.int (by decide +kernel) (ma_cons (m_ixA (hu1 hr) (m_var 0) (m_int)) (ma_nil)))) (ms_cons (st_sub (set_a (hu1 hr)) s_setA (m_var 0) (m_int) (m_int)) (ms_one (st_ret (m_op op_mod s_mod (m_var 2) (m_var 1)))))) (ms_nil))))) (ms_nil)) (ms_cons (st_if (t_cmp op_gt s_gt (m_ixA (hu1 hr) (m_var 0) (m_int)) (m_int)) (ms_cons (st_set 3 sc_law_take.nd (m_op op_mod s_mod (m_ty call_int1 s_intF Z.int (by decide +kernel) (ma_cons (m_ixA (hu1 hr) (m_var 0) (m_int)) (ma_nil))) (m_var 1))) (ms_cons (st_sub (set_a (hu1 hr)) s_setA (m_var 0) (m_int) (m_op op_fdiv s_fdiv (m_ty call_int1 s_intF Z.int (by decide +kernel) (ma_cons (m_ixA (hu1 hr) (m_var 0) (m_int)) (ma_nil))) (m_var 1))) (ms_one (st_ret (m_var 3))))) (ms_nil)) (ms_cons (st_sub (set_a (hu1 hr)) s_setA (m_var 0) (m_int) (m_op op_mod s_mod (m_ty call_int1 s_intF Z.int (by decide +kernel) (ma_cons (m_op or_add (s_add false) (m_op or_mul (s_mul false) (m_ixA (hu1 hr) (m_var 0) (m_int)) (m_int)) (m_int)) (ma_nil))) (m_int))) (ms_one (st_ret (m_op op_mod s_mod (m_ty call_int1 s_intF Z.int (by decide +kernel) (ma_cons (m_op op_fdiv s_fdiv (m_ixA (hu1 hr) (m_var 0) (m_int)) (m_int)) (ma_nil))) (m_var 1))))))
theorem ok_law_pick (Z : Zs K mg) (C_law_take : Cal P w K mg base "_law_take" 1 ["d", "many"] m_law_take) {fa : Addr} {fd : FuncData} (F : Fun K "_law_pick" "_law_pick" s_law_pick fa fd) : FnM P w K mg base (1 + 1) fa fd ["d", "menu"] (fnD 2 (b_law_pick)) := fn_D F sc_law_pick fun cdv A outer s1 H1 E1 hr => by
  have tk : Takes (cxOf (L2.CX P w) P w K mg base ["d", "menu"] "_law_pick" (defScope s_law_pick) fa cdv A outer s1 H1 E1) (fun cls d _ H => E1 cls d H) := takes_of rfl rfl rfl rfl
  have hp : PassesOwn (model P w) (cxOf (L2.CX P w) P w K mg base ["d", "menu"] "_law_pick" (defScope s_law_pick) fa cdv A outer s1 H1 E1).A (cxOf (L2.CX P w) P w K mg base ["d", "menu"] "_law_pick" (defScope s_law_pick) fa cdv A outer s1 H1 E1).env (cxOf (L2.CX P w) P w K mg base ["d", "menu"] "_law_pick" (defScope s_law_pick) fa cdv A outer s1 H1 E1).xe := passes_of rfl
  exact ms_one (st_ret (m_ixA (hu1 hr) (m_var 1) (m_cal C_law_take (hr.mono (by omega)) tk (ma_cons (m_var 0) (ma_cons (m_bi or_len s_len Z.len (by decide +kernel) (ma_cons (m_var 1) (ma_nil))) (ma_nil))))))
theorem ok_law_film (Z : Zs K mg) (C_law_take : Cal P w K mg base "_law_take" 1 ["d", "many"] m_law_take) (C_law_pick : Cal P w K mg base "_law_pick" 2 ["d", "menu"] m_law_pick) {fa : Addr} {fd : FuncData} (F : Fun K "_law_film" "_law_film" s_law_film fa fd) : FnM P w K mg base (2 + 1) fa fd ["d", "most"] (fnD 12 (b_law_film)) := fn_D F sc_law_film fun cdv A outer s1 H1 E1 hr => by
  have tk : Takes (cxOf (L2.CX P w) P w K mg base ["d", "most", "places", "k", "actors", "scenes", "cast", "actor", "orders", "first", "second", "minutes"] "_law_film" (defScope s_law_film) fa cdv A outer s1 H1 E1) (fun cls d _ H => E1 cls d H) := takes_of rfl rfl rfl rfl
  have hp : PassesOwn (model P w) (cxOf (L2.CX P w) P w K mg base ["d", "most", "places", "k", "actors", "scenes", "cast", "actor", "orders", "first", "second", "minutes"] "_law_film" (defScope s_law_film) fa cdv A outer s1 H1 E1).A (cxOf (L2.CX P w) P w K mg base ["d", "most", "places", "k", "actors", "scenes", "cast", "actor", "orders", "first", "second", "minutes"] "_law_film" (defScope s_law_film) fa cdv A outer s1 H1 E1).env (cxOf (L2.CX P w) P w K mg base ["d", "most", "places", "k", "actors", "scenes", "cast", "actor", "orders", "first", "second", "minutes"] "_law_film" (defScope s_law_film) fa cdv A outer s1 H1 E1).xe := passes_of rfl
  exact ms_cons (st_set 2 sc_law_film.nd (m_ty call_tuple_of s_tuple Z.tuple (by decide +kernel) (ma_cons (m_comp false [("k", 3)] sc_law_film.nd (i_rng1 Z.range (ma_cons (m_op or_add (s_add false) (m_int) (m_cal C_law_take (hr.mono (by omega)) tk (ma_cons (m_var 0) (ma_cons (m_int) (ma_nil))))) (ma_nil))) (blkOk_by (N := ["d", "most", "places", "k", "actors", "scenes", "cast", "actor", "orders", "first", "second", "minutes"]) (sc := defScope s_law_film) (by decide +kernel)) (fun s2 H2 C2 cl2 fp2 => g_name 3 sc_law_film.nd) (fun s2 H2 C2 cl2 fp2 => ts_nil) (fun s2 H2 C2 cl2 fp2 => m_tup (ma_cons (m_op or_add (s_add false) (m_str) (m_ty call_str_int s_strF Z.str (by decide +kernel) (ma_cons (m_var 3) (ma_nil)))) (ma_cons (m_cmp (or_eq (hu64 hr)) s_eq (m_cal C_law_take (hr.mono (by omega)) tk0 (ma_cons (m_var 0) (ma_cons (m_int) (ma_nil)))) (m_int)) (ma_nil))))) (ma_nil)))) (ms_cons (st_set 4 sc_law_film.nd (m_ty call_tuple_of s_tuple Z.tuple (by decide +kernel) (ma_cons (m_comp false [("k", 3)] sc_law_film.nd (i_rng1 Z.range (ma_cons (m_op or_add (s_add false) (m_int) (m_cal C_law_take (hr.mono (by omega)) tk (ma_cons (m_var 0) (ma_cons (m_int) (ma_nil))))) (ma_nil))) (blkOk_by (N := ["d", "most", "places", "k", "actors", "scenes", "cast", "actor", "orders", "first", "second", "minutes"]) (sc := defScope s_law_film) (by decide +kernel)) (fun s2 H2 C2 cl2 fp2 => g_name 3 sc_law_film.nd) (fun s2 H2 C2 cl2 fp2 => ts_nil) (fun s2 H2 C2 cl2 fp2 => m_tup (ma_cons (m_op or_add (s_add false) (m_str) (m_ty call_str_int s_strF Z.str (by decide +kernel) (ma_cons (m_var 3) (ma_nil)))) (ma_cons (m_cmp (or_eq (hu64 hr)) s_eq (m_cal C_law_take (hr.mono (by omega)) tk0 (ma_cons (m_var 0) (ma_cons (m_int) (ma_nil)))) (m_int)) (ma_nil))))) (ma_nil)))) (ms_cons (st_set 5 sc_law_film.nd (m_lst true (ma_nil))) (ms_cons (st_for [3, 6] hp (i_rng1 Z.range (ma_cons (m_op or_add (s_add false) (m_int) (m_cal C_law_take (hr.mono (by omega)) tk (ma_cons (m_var 0) (ma_cons (m_var 1) (ma_nil))))) (ma_nil))) (g_name 3 sc_law_film.nd) (ms_cons (st_set 6 sc_law_film.nd (m_ty call_tuple_of s_tuple Z.tuple (by decide +kernel) (ma_cons (m_comp false [("actor", 7)] sc_law_film.nd (i_rng1 Z.range (ma_cons (m_bi or_len s_len Z.len (by decide +kernel) (ma_cons (m_var 4) (ma_nil))) (ma_nil))) (blkOk_by (N := ["d", "most", "places", "k", "actors", "scenes", "cast", "actor", "orders", "first", "second", "minutes"]) (sc := defScope s_law_film) (by decide +kernel)) (fun s2 H2 C2 cl2 fp2 => g_name 7 sc_law_film.nd) (fun s2 H2 C2 cl2 fp2 => ts_one (t_cmp (or_eq (hu64 hr)) s_eq (m_cal C_law_take (hr.mono (by omega)) tk0 (ma_cons (m_var 0) (ma_cons (m_int) (ma_nil)))) (m_int))) (fun s2 H2 C2 cl2 fp2 => m_var 7)) (ma_nil)))) (ms_one (st_expr (m_meth PySem.F.plainAttrs_list PySem.F.slot_list_append PySem.F.type_list_append mt_append s_append (m_var 5) (ma_cons (m_tup (ma_cons (m_op or_add (s_add false) (m_str) (m_ty call_str_int s_strF Z.str (by decide +kernel) (ma_cons (m_var 3) (ma_nil)))) (ma_cons (m_cal C_law_take (hr.mono (by omega)) tk (ma_cons (m_var 0) (ma_cons (m_bi or_len s_len Z.len (by decide +kernel) (ma_cons (m_var 2) (ma_nil))) (ma_nil)))) (ma_cons (m_cal C_law_pick (hr.mono (by omega)) tk (ma_cons (m_var 0) (ma_cons (m_lst false (ma_cons (m_str) (ma_cons (m_str) (ma_cons (m_str) (ma_cons (m_str) (ma_nil)))))) (ma_nil)))) (ma_cons (m_op or_add (s_add false) (m_int) (m_op or_mul (s_mul false) (m_int) (m_cal C_law_take (hr.mono (by omega)) tk (ma_cons (m_var 0) (ma_cons (m_int) (ma_nil)))))) (ma_cons (m_cmp (or_eq (hu64 hr)) s_eq (m_cal C_law_take (hr.mono (by omega)) tk (ma_cons (m_var 0) (ma_cons (m_int) (ma_nil)))) (m_int)) (ma_cons (m_var 6) (ma_nil)))))))) (ma_nil))))))) (ms_cons (st_set 8 sc_law_film.nd (m_lst true (ma_nil))) (ms_cons (st_for [9] hp (i_rng1 Z.range (ma_cons (m_bi or_len s_len Z.len (by decide +kernel) (ma_cons (m_var 5) (ma_nil))) (ma_nil))) (g_name 9 sc_law_film.nd) (ms_one (st_expr (m_meth PySem.F.plainAttrs_list PySem.F.slot_list_extend PySem.F.type_list_extend mt_extend s_extend (m_var 8) (ma_cons (m_comp false [("second", 10)] sc_law_film.nd (i_rng2 Z.range (ma_cons (m_op or_add (s_add false) (m_var 9) (m_int)) (ma_cons (m_bi or_len s_len Z.len (by decide +kernel) (ma_cons (m_var 5) (ma_nil))) (ma_nil)))) (blkOk_by (N := ["d", "most", "places", "k", "actors", "scenes", "cast", "actor", "orders", "first", "second", "minutes"]) (sc := defScope s_law_film) (by decide +kernel)) (fun s2 H2 C2 cl2 fp2 => g_name 10 sc_law_film.nd) (fun s2 H2 C2 cl2 fp2 => ts_one (t_cmp (or_eq (hu64 hr)) s_eq (m_cal C_law_take (hr.mono (by omega)) tk0 (ma_cons (m_var 0) (ma_cons (m_int) (ma_nil)))) (m_int))) (fun s2 H2 C2 cl2 fp2 => m_tup (ma_cons (m_var 9) (ma_cons (m_var 10) (ma_nil))))) (ma_nil)))))) (ms_cons (st_set 11 sc_law_film.nd (m_tup (ma_cons (m_cal C_law_take (hr.mono (by omega)) tk (ma_cons (m_var 0) (ma_cons (m_int) (ma_nil)))) (ma_cons (m_cal C_law_take (hr.mono (by omega)) tk (ma_cons (m_var 0) (ma_cons (m_int) (ma_nil)))) (ma_cons (m_op or_add (s_add false) (m_int) (m_cal C_law_take (hr.mono (by omega)) tk (ma_cons (m_var 0) (ma_cons (m_int) (ma_nil))))) (ma_nil)))))) (ms_one (st_ret (m_tup (ma_cons (m_var 2) (ma_cons (m_var 4) (ma_cons (m_ty call_tuple_of s_tuple Z.tuple (by decide +kernel) (ma_cons (m_var 5) (ma_nil))) (ma_cons (m_ty call_tuple_of s_tuple Z.tuple (by decide +kernel) (ma_cons (m_var 8) (ma_nil))) (ma_cons (m_var 11) (ma_nil)))))))))))))))
theorem ok_law_windows (Z : Zs K mg) (C_law_take : Cal P w K mg base "_law_take" 1 ["d", "many"] m_law_take) {fa : Addr} {fd : FuncData} (F : Fun K "_law_windows" "_law_windows" s_law_windows fa fd) : FnM P w K mg base (1 + 1) fa fd ["d", "many", "days"] (fnD 6 (b_law_windows)) := fn_D F sc_law_windows fun cdv A outer s1 H1 E1 hr => by
  have tk : Takes (cxOf (L2.CX P w) P w K mg base ["d", "many", "days", "rows", "k", "first"] "_law_windows" (defScope s_law_windows) fa cdv A outer s1 H1 E1) (fun cls d _ H => E1 cls d H) := takes_of rfl rfl rfl rfl
  have hp : PassesOwn (model P w) (cxOf (L2.CX P w) P w K mg base ["d", "many", "days", "rows", "k", "first"] "_law_windows" (defScope s_law_windows) fa cdv A outer s1 H1 E1).A (cxOf (L2.CX P w) P w K mg base ["d", "many", "days", "rows", "k", "first"] "_law_windows" (defScope s_law_windows) fa cdv A outer s1 H1 E1).env (cxOf (L2.CX P w) P w K mg base ["d", "many", "days", "rows", "k", "first"] "_law_windows" (defScope s_law_windows) fa cdv A outer s1 H1 E1).xe := passes_of rfl
  exact ms_cons (st_set 3 sc_law_windows.nd (m_lst true (ma_nil))) (ms_cons (st_for [4, 5] hp (i_rng1 Z.range (ma_cons (m_cal C_law_take (hr.mono (by omega)) tk (ma_cons (m_var 0) (ma_cons (m_int) (ma_nil)))) (ma_nil))) (g_name 4 sc_law_windows.nd) (ms_cons (st_set 5 sc_law_windows.nd (m_cal C_law_take (hr.mono (by omega)) tk (ma_cons (m_var 0) (ma_cons (m_var 2) (ma_nil))))) (ms_one (st_expr (m_meth PySem.F.plainAttrs_list PySem.F.slot_list_append PySem.F.type_list_append mt_append s_append (m_var 3) (ma_cons (m_tup (ma_cons (m_cal C_law_take (hr.mono (by omega)) tk (ma_cons (m_var 0) (ma_cons (m_var 1) (ma_nil)))) (ma_cons (m_var 5) (ma_cons (m_op or_add (s_add false) (m_var 5) (m_cal C_law_take (hr.mono (by omega)) tk (ma_cons (m_var 0) (ma_cons (m_op op_sub s_sub (m_var 2) (m_var 5)) (ma_nil))))) (ma_nil))))) (ma_nil))))))) (ms_one (st_ret (m_ty call_tuple_of s_tuple Z.tuple (by decide +kernel) (ma_cons (m_ss false rfl (hu64 hr) Z.sorted Z.set (m_var 3)) (ma_nil))))))
theorem ok_law_calendar (Z : Zs K mg) (C_law_take : Cal P w K mg base "_law_take" 1 ["d", "many"] m_law_take) (C_law_windows : Cal P w K mg base "_law_windows" 2 ["d", "many", "days"] m_law_windows) {fa : Addr} {fd : FuncData} (F : Fun K "_law_calendar" "_law_calendar" s_law_calendar fa fd) : FnM P w K mg base (2 + 1) fa fd ["d", "film", "days"] (fnD 5 (b_law_calendar)) := fn_D F sc_law_calendar fun cdv A outer s1 H1 E1 hr => by
  have tk : Takes (cxOf (L2.CX P w) P w K mg base ["d", "film", "days", "lights", "k"] "_law_calendar" (defScope s_law_calendar) fa cdv A outer s1 H1 E1) (fun cls d _ H => E1 cls d H) := takes_of rfl rfl rfl rfl
  have hp : PassesOwn (model P w) (cxOf (L2.CX P w) P w K mg base ["d", "film", "days", "lights", "k"] "_law_calendar" (defScope s_law_calendar) fa cdv A outer s1 H1 E1).A (cxOf (L2.CX P w) P w K mg base ["d", "film", "days", "lights", "k"] "_law_calendar" (defScope s_law_calendar) fa cdv A outer s1 H1 E1).env (cxOf (L2.CX P w) P w K mg base ["d", "film", "days", "lights", "k"] "_law_calendar" (defScope s_law_calendar) fa cdv A outer s1 H1 E1).xe := passes_of rfl
  exact ms_cons (st_set 3 sc_law_calendar.nd (m_ty call_tuple_of s_tuple Z.tuple (by decide +kernel) (ma_cons (m_comp false [("k", 4)] sc_law_calendar.nd (i_rng1 Z.range (ma_cons (m_var 2) (ma_nil))) (blkOk_by (N := ["d", "film", "days", "lights", "k"]) (sc := defScope s_law_calendar) (by decide +kernel)) (fun s2 H2 C2 cl2 fp2 => g_name 4 sc_law_calendar.nd) (fun s2 H2 C2 cl2 fp2 => ts_nil) (fun s2 H2 C2 cl2 fp2 => m_tup (ma_cons (m_op or_add (s_add false) (m_int) (m_cal C_law_take (hr.mono (by omega)) tk0 (ma_cons (m_var 0) (ma_cons (m_int) (ma_nil))))) (ma_cons (m_op or_add (s_add false) (m_int) (m_cal C_law_take (hr.mono (by omega)) tk0 (ma_cons (m_var 0) (ma_cons (m_int) (ma_nil))))) (ma_nil))))) (ma_nil)))) (ms_one (st_ret (m_tup (ma_cons (m_var 3) (ma_cons (m_cal C_law_windows (hr.mono (by omega)) tk (ma_cons (m_var 0) (ma_cons (m_bi or_len s_len Z.len (by decide +kernel) (ma_cons (m_ixA (hu1 hr) (m_var 1) (m_int)) (ma_nil))) (ma_cons (m_var 2) (ma_nil))))) (ma_cons (m_cal C_law_windows (hr.mono (by omega)) tk (ma_cons (m_var 0) (ma_cons (m_bi or_len s_len Z.len (by decide +kernel) (ma_cons (m_ixA (hu1 hr) (m_var 1) (m_int)) (ma_nil))) (ma_cons (m_var 2) (ma_nil))))) (ma_nil)))))))
theorem ok_law_list (Z : Zs K mg) (C_law_take : Cal P w K mg base "_law_take" 1 ["d", "many"] m_law_take) {fa : Addr} {fd : FuncData} (F : Fun K "_law_list" "_law_list" s_law_list fa fd) : FnM P w K mg base (1 + 1) fa fd ["d", "film"] (fnD 5 (b_law_list)) := fn_D F sc_law_list fun cdv A outer s1 H1 E1 hr => by
  have tk : Takes (cxOf (L2.CX P w) P w K mg base ["d", "film", "rest", "row", "k"] "_law_list" (defScope s_law_list) fa cdv A outer s1 H1 E1) (fun cls d _ H => E1 cls d H) := takes_of rfl rfl rfl rfl
  have hp : PassesOwn (model P w) (cxOf (L2.CX P w) P w K mg base ["d", "film", "rest", "row", "k"] "_law_list" (defScope s_law_list) fa cdv A outer s1 H1 E1).A (cxOf (L2.CX P w) P w K mg base ["d", "film", "rest", "row", "k"] "_law_list" (defScope s_law_list) fa cdv A outer s1 H1 E1).env (cxOf (L2.CX P w) P w K mg base ["d", "film", "rest", "row", "k"] "_law_list" (defScope s_law_list) fa cdv A outer s1 H1 E1).xe := passes_of rfl
  exact ms_cons (st_set 2 sc_law_list.nd (m_lr true rfl Z.list Z.range (ma_cons (m_bi or_len s_len Z.len (by decide +kernel) (ma_cons (m_ixA (hu1 hr) (m_var 1) (m_int)) (ma_nil))) (ma_nil)))) (ms_cons (st_set 3 sc_law_list.nd (m_lst true (ma_nil))) (ms_cons (st_for [4] hp (i_rng1 Z.range (ma_cons (m_cal C_law_take (hr.mono (by omega)) tk (ma_cons (m_var 0) (ma_cons (m_op or_add (s_add false) (m_bi or_len s_len Z.len (by decide +kernel) (ma_cons (m_var 2) (ma_nil))) (m_int)) (ma_nil)))) (ma_nil))) (g_name 4 sc_law_list.nd) (ms_one (st_if (t_cmp (or_eq (hu64 hr)) s_eq (m_cal C_law_take (hr.mono (by omega)) tk (ma_cons (m_var 0) (ma_cons (m_int) (ma_nil)))) (m_int)) (ms_one (st_expr (m_meth PySem.F.plainAttrs_list PySem.F.slot_list_append PySem.F.type_list_append mt_append s_append (m_var 3) (ma_cons (m_op op_sub s_sub (m_int) (m_int)) (ma_nil))))) (ms_one (st_if (t_cmp op_gt s_gt (m_bi or_len s_len Z.len (by decide +kernel) (ma_cons (m_var 2) (ma_nil))) (m_int)) (ms_one (st_expr (m_meth PySem.F.plainAttrs_list PySem.F.slot_list_append PySem.F.type_list_append mt_append s_append (m_var 3) (ma_cons (m_meth PySem.F.plainAttrs_list PySem.F.slot_list_pop PySem.F.type_list_pop or_pop s_pop (m_var 2) (ma_cons (m_if (t_cmp (or_eq (hu64 hr)) s_eq (m_cal C_law_take (hr.mono (by omega)) tk (ma_cons (m_var 0) (ma_cons (m_int) (ma_nil)))) (m_int)) (m_int) (m_cal C_law_take (hr.mono (by omega)) tk (ma_cons (m_var 0) (ma_cons (m_bi or_len s_len Z.len (by decide +kernel) (ma_cons (m_var 2) (ma_nil))) (ma_nil))))) (ma_nil))) (ma_nil))))) (ms_nil)))))) (ms_one (st_ret (m_ty call_tuple_of s_tuple Z.tuple (by decide +kernel) (ma_cons (m_var 3) (ma_nil)))))))
theorem ok_law_sheet (Z : Zs K mg) (C_law_list : Cal P w K mg base "_law_list" 2 ["d", "film"] m_law_list) (C_law_take : Cal P w K mg base "_law_take" 1 ["d", "many"] m_law_take) {fa : Addr} {fd : FuncData} (F : Fun K "_law_sheet" "_law_sheet" s_law_sheet fa fd) : FnM P w K mg base (2 + 1) fa fd ["d", "film"] (fnD 3 (b_law_sheet)) := fn_D F sc_law_sheet fun cdv A outer s1 H1 E1 hr => by
  have tk : Takes (cxOf (L2.CX P w) P w K mg base ["d", "film", "dry"] "_law_sheet" (defScope s_law_sheet) fa cdv A outer s1 H1 E1) (fun cls d _ H => E1 cls d H) := takes_of rfl rfl rfl rfl
  have hp : PassesOwn (model P w) (cxOf (L2.CX P w) P w K mg base ["d", "film", "dry"] "_law_sheet" (defScope s_law_sheet) fa cdv A outer s1 H1 E1).A (cxOf (L2.CX P w) P w K mg base ["d", "film", "dry"] "_law_sheet" (defScope s_law_sheet) fa cdv A outer s1 H1 E1).env (cxOf (L2.CX P w) P w K mg base ["d", "film", "dry"] "_law_sheet" (defScope s_law_sheet) fa cdv A outer s1 H1 E1).xe := passes_of rfl
  exact ms_cons (st_set 2 sc_law_sheet.nd (m_cal C_law_list (hr.mono (by omega)) tk (ma_cons (m_var 0) (ma_cons (m_var 1) (ma_nil))))) (ms_one (st_ret (m_tup (ma_cons (m_op or_add (s_add false) (m_int) (m_op or_mul (s_mul false) (m_int) (m_cal C_law_take (hr.mono (by omega)) tk (ma_cons (m_var 0) (ma_cons (m_int) (ma_nil)))))) (ma_cons (m_var 2) (ma_cons (m_if (t_cmp (or_eq (hu64 hr)) s_eq (m_cal C_law_take (hr.mono (by omega)) tk (ma_cons (m_var 0) (ma_cons (m_int) (ma_nil)))) (m_int)) (m_var 2) (m_cal C_law_list (hr.mono (by omega)) tk (ma_cons (m_var 0) (ma_cons (m_var 1) (ma_nil))))) (ma_nil)))))))
theorem ok_law_fees (Z : Zs K mg) (C_law_take : Cal P w K mg base "_law_take" 1 ["d", "many"] m_law_take) {fa : Addr} {fd : FuncData} (F : Fun K "_law_fees" "_law_fees" s_law_fees fa fd) : FnM P w K mg base (1 + 1) fa fd ["d", "film"] (fnD 7 (b_law_fees)) := fn_D F sc_law_fees fun cdv A outer s1 H1 E1 hr => by
  have tk : Takes (cxOf (L2.CX P w) P w K mg base ["d", "film", "rows", "actor", "spans", "k", "span"] "_law_fees" (defScope s_law_fees) fa cdv A outer s1 H1 E1) (fun cls d _ H => E1 cls d H) := takes_of rfl rfl rfl rfl
  have hp : PassesOwn (model P w) (cxOf (L2.CX P w) P w K mg base ["d", "film", "rows", "actor", "spans", "k", "span"] "_law_fees" (defScope s_law_fees) fa cdv A outer s1 H1 E1).A (cxOf (L2.CX P w) P w K mg base ["d", "film", "rows", "actor", "spans", "k", "span"] "_law_fees" (defScope s_law_fees) fa cdv A outer s1 H1 E1).env (cxOf (L2.CX P w) P w K mg base ["d", "film", "rows", "actor", "spans", "k", "span"] "_law_fees" (defScope s_law_fees) fa cdv A outer s1 H1 E1).xe := passes_of rfl
  exact ms_cons (st_set 2 sc_law_fees.nd (m_lst true (ma_nil))) (ms_cons (st_for [3, 4] hp (i_sq (m_ixA (hu1 hr) (m_var 1) (m_int))) (g_name 3 sc_law_fees.nd) (ms_cons (st_set 4 sc_law_fees.nd (m_ss false rfl (hu64 hr) Z.sorted Z.set (m_comp false [("k", 5)] sc_law_fees.nd (i_rng1 Z.range (ma_cons (m_cal C_law_take (hr.mono (by omega)) tk (ma_cons (m_var 0) (ma_cons (m_int) (ma_nil)))) (ma_nil))) (blkOk_by (N := ["d", "film", "rows", "actor", "spans", "k", "span"]) (sc := defScope s_law_fees) (by decide +kernel)) (fun s2 H2 C2 cl2 fp2 => g_name 5 sc_law_fees.nd) (fun s2 H2 C2 cl2 fp2 => ts_nil) (fun s2 H2 C2 cl2 fp2 => m_cal C_law_take (hr.mono (by omega)) tk0 (ma_cons (m_var 0) (ma_cons (m_int) (ma_nil))))))) (ms_one (st_expr (m_meth PySem.F.plainAttrs_list PySem.F.slot_list_append PySem.F.type_list_append mt_append s_append (m_var 2) (ma_cons (m_tup (ma_cons (m_cal C_law_take (hr.mono (by omega)) tk (ma_cons (m_var 0) (ma_cons (m_int) (ma_nil)))) (ma_cons (m_ty call_tuple_of s_tuple Z.tuple (by decide +kernel) (ma_cons (m_comp false [("span", 6)] sc_law_fees.nd (i_sq (m_var 4)) (blkOk_by (N := ["d", "film", "rows", "actor", "spans", "k", "span"]) (sc := defScope s_law_fees) (by decide +kernel)) (fun s2 H2 C2 cl2 fp2 => g_name 6 sc_law_fees.nd) (fun s2 H2 C2 cl2 fp2 => ts_nil) (fun s2 H2 C2 cl2 fp2 => m_tup (ma_cons (m_var 6) (ma_cons (m_cal C_law_take (hr.mono (by omega)) tk0 (ma_cons (m_var 0) (ma_cons (m_int) (ma_nil)))) (ma_nil))))) (ma_nil))) (ma_nil)))) (ma_nil))))))) (ms_one (st_ret (m_ty call_tuple_of s_tuple Z.tuple (by decide +kernel) (ma_cons (m_var 2) (ma_nil))))))
theorem ok_law_hours (Z : Zs K mg) {fa : Addr} {fd : FuncData} (F : Fun K "_law_hours" "_law_hours" s_law_hours fa fd) : FnM P w K mg base (0 + 1) fa fd ["film", "sheet", "shot", "news"] (fnD 10 (b_law_hours)) := fn_D F sc_law_hours fun cdv A outer s1 H1 E1 hr => by
  have tk : Takes (cxOf (L2.CX P w) P w K mg base ["film", "sheet", "shot", "news", "clock", "place", "rows", "fallen", "item", "scene"] "_law_hours" (defScope s_law_hours) fa cdv A outer s1 H1 E1) (fun cls d _ H => E1 cls d H) := takes_of rfl rfl rfl rfl
  have hp : PassesOwn (model P w) (cxOf (L2.CX P w) P w K mg base ["film", "sheet", "shot", "news", "clock", "place", "rows", "fallen", "item", "scene"] "_law_hours" (defScope s_law_hours) fa cdv A outer s1 H1 E1).A (cxOf (L2.CX P w) P w K mg base ["film", "sheet", "shot", "news", "clock", "place", "rows", "fallen", "item", "scene"] "_law_hours" (defScope s_law_hours) fa cdv A outer s1 H1 E1).env (cxOf (L2.CX P w) P w K mg base ["film", "sheet", "shot", "news", "clock", "place", "rows", "fallen", "item", "scene"] "_law_hours" (defScope s_law_hours) fa cdv A outer s1 H1 E1).xe := passes_of rfl
  exact ms_cons (st_set 4 sc_law_hours.nd (m_op or_add (s_add false) (m_ixA (hu1 hr) (m_var 1) (m_int)) (m_ixA (hu1 hr) (m_var 3) (m_int)))) (ms_cons (st_set 5 sc_law_hours.nd (m_non)) (ms_cons (st_set 6 sc_law_hours.nd (m_lst true (ma_nil))) (ms_cons (st_set 7 sc_law_hours.nd (m_lst true (ma_nil))) (ms_cons (st_for [8, 9] hp (i_sq (m_ixA (hu1 hr) (m_var 1) (m_op or_add (s_add false) (m_int) (m_ty call_int1 s_intF Z.int (by decide +kernel) (ma_cons (m_cmp (or_eq (hu64 hr)) s_eq (m_ixA (hu1 hr) (m_var 3) (m_int)) (m_str)) (ma_nil)))))) (g_name 8 sc_law_hours.nd) (ms_one (st_if (t_cmp (or_eq (hu64 hr)) s_eq (m_var 8) (m_op op_sub s_sub (m_int) (m_int))) (ms_cons (st_expr (m_meth PySem.F.plainAttrs_list PySem.F.slot_list_append PySem.F.type_list_append mt_append s_append (m_var 6) (ma_cons (m_tup (ma_cons (m_var 8) (ma_cons (m_var 4) (ma_cons (m_op or_add (s_add false) (m_var 4) (m_ixA (hu1 hr) (m_ixA (hu1 hr) (m_var 0) (m_int)) (m_int))) (ma_nil))))) (ma_nil)))) (ms_one (st_set 4 sc_law_hours.nd (m_op or_add (s_add false) (m_var 4) (m_ixA (hu1 hr) (m_ixA (hu1 hr) (m_var 0) (m_int)) (m_int)))))) (ms_one (st_if (t_cmp (or_ninA (hu65 hr)) (s_inA s_nin) (m_var 8) (m_var 2)) (ms_cons (st_set 9 sc_law_hours.nd (m_ixA (hu1 hr) (m_ixA (hu1 hr) (m_var 0) (m_int)) (m_var 8))) (ms_one (st_if (t_cmp (or_inA (hu65 hr)) (s_inA s_in) (m_ixA (hu1 hr) (m_var 3) (m_int)) (m_ixA (hu1 hr) (m_var 9) (m_int))) (ms_one (st_expr (m_meth PySem.F.plainAttrs_list PySem.F.slot_list_append PySem.F.type_list_append mt_append s_append (m_var 7) (ma_cons (m_var 8) (ma_nil))))) (ms_cons (st_if (t_w (w_and (t_cmp or_isnot s_isnot (m_var 5) (m_non)) (w_and1 (t_cmp (or_ne (hu64 hr)) s_ne (m_var 5) (m_ixA (hu1 hr) (m_var 9) (m_int)))))) (ms_one (st_set 4 sc_law_hours.nd (m_op or_add (s_add false) (m_var 4) (m_ixA (hu1 hr) (m_ixA (hu1 hr) (m_var 0) (m_int)) (m_int))))) (ms_nil)) (ms_cons (st_set 5 sc_law_hours.nd (m_ixA (hu1 hr) (m_var 9) (m_int))) (ms_cons (st_expr (m_meth PySem.F.plainAttrs_list PySem.F.slot_list_append PySem.F.type_list_append mt_append s_append (m_var 6) (ma_cons (m_tup (ma_cons (m_var 8) (ma_cons (m_var 4) (ma_cons (m_op or_add (s_add false) (m_var 4) (m_ixA (hu1 hr) (m_var 9) (m_int))) (ma_nil))))) (ma_nil)))) (ms_one (st_set 4 sc_law_hours.nd (m_op or_add (s_add false) (m_var 4) (m_ixA (hu1 hr) (m_var 9) (m_int))))))))))) (ms_nil)))))) (ms_one (st_ret (m_tup (ma_cons (m_ty call_tuple_of s_tuple Z.tuple (by decide +kernel) (ma_cons (m_var 6) (ma_nil))) (ma_cons (m_ty call_tuple_of s_tuple Z.tuple (by decide +kernel) (ma_cons (m_bi (cr_sortA (hu65 hr)) (s_sorted false) Z.sorted (by decide +kernel) (ma_cons (m_var 7) (ma_nil))) (ma_nil))) (ma_nil))))))))))
theorem ok_law_figures (Z : Zs K mg) {fa : Addr} {fd : FuncData} (F : Fun K "_law_figures" "_law_figures" s_law_figures fa fd) : FnM P w K mg base (0 + 1) fa fd ["film", "calendar", "day", "rows", "actor", "before"] (fnD 22 (b_law_figures)) := fn_D F sc_law_figures fun cdv A outer s1 H1 E1 hr => by
  have tk : Takes (cxOf (L2.CX P w) P w K mg base ["film", "calendar", "day", "rows", "actor", "before", "own", "row", "call", "wrap", "light", "dark", "night", "item", "begin", "end", "parts", "stretch", "k", "worked", "rest", "work"] "_law_figures" (defScope s_law_figures) fa cdv A outer s1 H1 E1) (fun cls d _ H => E1 cls d H) := takes_of rfl rfl rfl rfl
  have hp : PassesOwn (model P w) (cxOf (L2.CX P w) P w K mg base ["film", "calendar", "day", "rows", "actor", "before", "own", "row", "call", "wrap", "light", "dark", "night", "item", "begin", "end", "parts", "stretch", "k", "worked", "rest", "work"] "_law_figures" (defScope s_law_figures) fa cdv A outer s1 H1 E1).A (cxOf (L2.CX P w) P w K mg base ["film", "calendar", "day", "rows", "actor", "before", "own", "row", "call", "wrap", "light", "dark", "night", "item", "begin", "end", "parts", "stretch", "k", "worked", "rest", "work"] "_law_figures" (defScope s_law_figures) fa cdv A outer s1 H1 E1).env (cxOf (L2.CX P w) P w K mg base ["film", "calendar", "day", "rows", "actor", "before", "own", "row", "call", "wrap", "light", "dark", "night", "item", "begin", "end", "parts", "stretch", "k", "worked", "rest", "work"] "_law_figures" (defScope s_law_figures) fa cdv A outer s1 H1 E1).xe := passes_of rfl
  exact ms_cons (st_setLc false 6 [("row", 7)] sc_law_figures.nd (i_sq (m_var 3)) (blkOk_by (N := ["film", "calendar", "day", "rows", "actor", "before", "own", "row", "call", "wrap", "light", "dark", "night", "item", "begin", "end", "parts", "stretch", "k", "worked", "rest", "work"]) (sc := defScope s_law_figures) (by decide +kernel)) (fun s2 H2 C2 cl2 fp2 => g_name 7 sc_law_figures.nd) (fun s2 H2 C2 cl2 fp2 => ts_one (t_w (w_and (t_cmp op_ge s_ge (m_ixA (hu1 hr) (m_var 7) (m_int)) (m_int)) (w_and1 (t_cmp (or_inA (hu65 hr)) (s_inA s_in) (m_var 4) (m_ixA (hu1 hr) (m_ixA (hu1 hr) (m_ixA (hu1 hr) (m_var 0) (m_int)) (m_ixA (hu1 hr) (m_var 7) (m_int))) (m_int))))))) (fun s2 H2 C2 cl2 fp2 => m_var 7) (sw_true rfl rfl rfl (by decide +kernel))) (ms_cons (st_if (t_cmp (or_eq (hu64 hr)) s_eq (m_bi or_len s_len Z.len (by decide +kernel) (ma_cons (m_var 6) (ma_nil))) (m_int)) (ms_one (st_ret (m_non))) (ms_nil)) (ms_cons (st_set 8 sc_law_figures.nd (m_bi (or_max rfl) s_max Z.max (by decide +kernel) (ma_cons (m_int) (ma_cons (m_op op_sub s_sub (m_ixA (hu1 hr) (m_ixA (hu1 hr) (m_var 6) (m_int)) (m_int)) (m_ixA (hu1 hr) (m_ixA (hu1 hr) (m_var 0) (m_int)) (m_int))) (ma_nil))))) (ms_cons (st_set 9 sc_law_figures.nd (m_ixA (hu1 hr) (m_ixA (hu1 hr) (m_var 6) (m_un un_neg s_neg (m_int))) (m_int))) (ms_cons (st_asg (m_ixA (hu1 hr) (m_ixA (hu1 hr) (m_var 1) (m_int)) (m_var 2)) (g_tup (g_cons (g_name 10 sc_law_figures.nd) (g_cons (g_name 11 sc_law_figures.nd) (g_nil))))) (ms_cons (st_set 12 sc_law_figures.nd (m_int)) (ms_cons (st_for [13, 14, 15] hp (i_sq (m_var 6)) (g_tup (g_cons (g_name 13 sc_law_figures.nd) (g_cons (g_name 14 sc_law_figures.nd) (g_cons (g_name 15 sc_law_figures.nd) (g_nil))))) (ms_one (st_set 12 sc_law_figures.nd (m_op or_add (s_add false) (m_op or_add (s_add false) (m_var 12) (m_bi (or_max rfl) s_max Z.max (by decide +kernel) (ma_cons (m_int) (ma_cons (m_op op_sub s_sub (m_bi (or_minB rfl (hu65 hr)) s_minB Z.min (by decide +kernel) (ma_cons (m_var 15) (ma_cons (m_var 10) (ma_nil)))) (m_var 14)) (ma_nil))))) (m_bi (or_max rfl) s_max Z.max (by decide +kernel) (ma_cons (m_int) (ma_cons (m_op op_sub s_sub (m_var 15) (m_bi (or_max rfl) s_max Z.max (by decide +kernel) (ma_cons (m_var 14) (ma_cons (m_var 11) (ma_nil))))) (ma_nil)))))))) (ms_cons (st_set 16 sc_law_figures.nd (m_lst true (ma_cons (m_var 8) (ma_nil)))) (ms_cons (st_for [13, 14, 15] hp (i_sq (m_var 3)) (g_tup (g_cons (g_name 13 sc_law_figures.nd) (g_cons (g_name 14 sc_law_figures.nd) (g_cons (g_name 15 sc_law_figures.nd) (g_nil))))) (ms_one (st_if (t_w (w_and (t_cmp or_lt s_lt (m_var 13) (m_int)) (w_and (t_cmp op_ge s_ge (m_var 14) (m_var 8)) (w_and1 (t_cmp op_le s_le (m_var 15) (m_var 9)))))) (ms_one (st_expr (m_meth PySem.F.plainAttrs_list PySem.F.slot_list_extend PySem.F.type_list_extend mt_extend s_extend (m_var 16) (ma_cons (m_lst false (ma_cons (m_var 14) (ma_cons (m_var 15) (ma_nil)))) (ma_nil))))) (ms_nil)))) (ms_cons (st_expr (m_meth PySem.F.plainAttrs_list PySem.F.slot_list_append PySem.F.type_list_append mt_append s_append (m_var 16) (ma_cons (m_var 9) (ma_nil)))) (ms_cons (st_set 17 sc_law_figures.nd (m_bi (or_max rfl) s_max Z.max (by decide +kernel) (ma_cons (m_comp false [("k", 18)] sc_law_figures.nd (i_rng3 Z.range (ma_cons (m_int) (ma_cons (m_bi or_len s_len Z.len (by decide +kernel) (ma_cons (m_var 16) (ma_nil))) (ma_cons (m_int) (ma_nil))))) (blkOk_by (N := ["film", "calendar", "day", "rows", "actor", "before", "own", "row", "call", "wrap", "light", "dark", "night", "item", "begin", "end", "parts", "stretch", "k", "worked", "rest", "work"]) (sc := defScope s_law_figures) (by decide +kernel)) (fun s2 H2 C2 cl2 fp2 => g_name 18 sc_law_figures.nd) (fun s2 H2 C2 cl2 fp2 => ts_nil) (fun s2 H2 C2 cl2 fp2 => m_op op_sub s_sub (m_ixA (hu1 hr) (m_var 16) (m_op or_add (s_add false) (m_var 18) (m_int))) (m_ixA (hu1 hr) (m_var 16) (m_var 18)))) (ma_nil)))) (ms_cons (st_set 19 sc_law_figures.nd (m_cmp op_ge s_ge (m_ixA (hu1 hr) (m_var 5) (m_int)) (m_int))) (ms_cons (st_set 20 sc_law_figures.nd (m_if (t_tru (m_var 19)) (m_bi (or_max rfl) s_max Z.max (by decide +kernel) (ma_cons (m_int) (ma_cons (m_op op_sub s_sub (m_op or_add (s_add false) (m_var 8) (m_int)) (m_ixA (hu1 hr) (m_var 5) (m_int))) (ma_nil)))) (m_int))) (ms_cons (st_set 21 sc_law_figures.nd (m_bi (cr_sum rfl) s_sum Z.sum (by decide +kernel) (ma_cons (m_comp false [("row", 7)] sc_law_figures.nd (i_sq (m_var 6)) (blkOk_by (N := ["film", "calendar", "day", "rows", "actor", "before", "own", "row", "call", "wrap", "light", "dark", "night", "item", "begin", "end", "parts", "stretch", "k", "worked", "rest", "work"]) (sc := defScope s_law_figures) (by decide +kernel)) (fun s2 H2 C2 cl2 fp2 => g_name 7 sc_law_figures.nd) (fun s2 H2 C2 cl2 fp2 => ts_nil) (fun s2 H2 C2 cl2 fp2 => m_op op_sub s_sub (m_ixA (hu1 hr) (m_var 7) (m_int)) (m_ixA (hu1 hr) (m_var 7) (m_int)))) (ma_nil)))) (ms_one (st_ret (m_tup (ma_cons (m_var 8) (ma_cons (m_var 9) (ma_cons (m_op op_sub s_sub (m_var 9) (m_var 8)) (ma_cons (m_var 21) (ma_cons (m_var 20) (ma_cons (m_op or_add (s_add false) (m_int) (m_if (t_tru (m_var 19)) (m_ixA (hu1 hr) (m_var 5) (m_int)) (m_int))) (ma_cons (m_var 12) (ma_cons (m_var 17) (ma_cons (m_bi or_len s_len Z.len (by decide +kernel) (ma_cons (m_var 6) (ma_nil))) (ma_nil))))))))))))))))))))))))))
theorem ok_law_cost (Z : Zs K mg) {fa : Addr} {fd : FuncData} (F : Fun K "_law_cost" "_law_cost" s_law_cost fa fd) : FnM P w K mg base (0 + 1) fa fd ["fee", "span"] (fnD 6 (b_law_cost)) := fn_D F sc_law_cost fun cdv A outer s1 H1 E1 hr => by
  have tk : Takes (cxOf (L2.CX P w) P w K mg base ["fee", "span", "total", "base", "pay", "over"] "_law_cost" (defScope s_law_cost) fa cdv A outer s1 H1 E1) (fun cls d _ H => E1 cls d H) := takes_of rfl rfl rfl rfl
  have hp : PassesOwn (model P w) (cxOf (L2.CX P w) P w K mg base ["fee", "span", "total", "base", "pay", "over"] "_law_cost" (defScope s_law_cost) fa cdv A outer s1 H1 E1).A (cxOf (L2.CX P w) P w K mg base ["fee", "span", "total", "base", "pay", "over"] "_law_cost" (defScope s_law_cost) fa cdv A outer s1 H1 E1).env (cxOf (L2.CX P w) P w K mg base ["fee", "span", "total", "base", "pay", "over"] "_law_cost" (defScope s_law_cost) fa cdv A outer s1 H1 E1).xe := passes_of rfl
  exact ms_cons (st_set 2 sc_law_cost.nd (m_ixA (hu1 hr) (m_var 0) (m_int))) (ms_cons (st_for [3, 4, 5] hp (i_sq (m_ixA (hu1 hr) (m_var 0) (m_int))) (g_tup (g_cons (g_name 3 sc_law_cost.nd) (g_cons (g_name 4 sc_law_cost.nd) (g_nil)))) (ms_cons (st_set 5 sc_law_cost.nd (m_op op_sub s_sub (m_var 1) (m_var 3))) (ms_one (st_while hp (t_cmp op_gt s_gt (m_var 5) (m_int)) (ms_cons (st_set 2 sc_law_cost.nd (m_op or_add (s_add false) (m_var 2) (m_var 4))) (ms_one (st_set 5 sc_law_cost.nd (m_op op_sub s_sub (m_var 5) (m_int))))))))) (ms_one (st_ret (m_var 2))))
theorem ok_law (Z : Zs K mg) (C_law_begin : Cal P w K mg base "_law_begin" 1 ["script"] m_law_begin) (C_law_take : Cal P w K mg base "_law_take" 1 ["d", "many"] m_law_take) (C_law_pick : Cal P w K mg base "_law_pick" 2 ["d", "menu"] m_law_pick) (C_day_cost : Cal P w K mg base "day_cost" 1 ["fee", "span"] m_day_cost) (C_law_cost : Cal P w K mg base "_law_cost" 1 ["fee", "span"] m_law_cost) (C_law_film : Cal P w K mg base "_law_film" 3 ["d", "most"] m_law_film) (C_law_calendar : Cal P w K mg base "_law_calendar" 3 ["d", "film", "days"] m_law_calendar) (C_law_fees : Cal P w K mg base "_law_fees" 2 ["d", "film"] m_law_fees) (C_law_sheet : Cal P w K mg base "_law_sheet" 3 ["d", "film"] m_law_sheet) (C_law_hours : Cal P w K mg base "_law_hours" 1 ["film", "sheet", "shot", "news"] m_law_hours) (C_law_figures : Cal P w K mg base "_law_figures" 1 ["film", "calendar", "day", "rows", "actor", "before"] m_law_figures) (C_cost_of : Cal P w K mg base "cost_of" 3 ["film", "calendar", "fees", "day", "rows"] m_cost_of) {fa : Addr} {fd : FuncData} (F : Fun K "law" "law" s_law fa fd) : FnM P w K mg base (3 + 1) fa fd ["script"] (fnD 16 (b_law)) := fn_D F sc_law fun cdv A outer s1 H1 E1 hr => by
  have tk : Takes (cxOf (L2.CX P w) P w K mg base ["script", "d", "spans", "k", "fee", "span", "tries", "more", "film", "calendar", "fees", "turn", "rows", "due", "actor", "figures"] "law" (defScope s_law) fa cdv A outer s1 H1 E1) (fun cls d _ H => E1 cls d H) := takes_of rfl rfl rfl rfl
  have hp : PassesOwn (model P w) (cxOf (L2.CX P w) P w K mg base ["script", "d", "spans", "k", "fee", "span", "tries", "more", "film", "calendar", "fees", "turn", "rows", "due", "actor", "figures"] "law" (defScope s_law) fa cdv A outer s1 H1 E1).A (cxOf (L2.CX P w) P w K mg base ["script", "d", "spans", "k", "fee", "span", "tries", "more", "film", "calendar", "fees", "turn", "rows", "due", "actor", "figures"] "law" (defScope s_law) fa cdv A outer s1 H1 E1).env (cxOf (L2.CX P w) P w K mg base ["script", "d", "spans", "k", "fee", "span", "tries", "more", "film", "calendar", "fees", "turn", "rows", "due", "actor", "figures"] "law" (defScope s_law) fa cdv A outer s1 H1 E1).xe := passes_of rfl
  exact ms_cons (st_set 1 sc_law.nd (m_cal C_law_begin (hr.mono (by omega)) tk (ma_cons (m_var 0) (ma_nil)))) (ms_cons (st_set 2 sc_law.nd (m_ss false rfl (hu64 hr) Z.sorted Z.set (m_comp false [("k", 3)] sc_law.nd (i_rng1 Z.range (ma_cons (m_cal C_law_take (hr.mono (by omega)) tk (ma_cons (m_var 1) (ma_cons (m_int) (ma_nil)))) (ma_nil))) (blkOk_by (N := ["script", "d", "spans", "k", "fee", "span", "tries", "more", "film", "calendar", "fees", "turn", "rows", "due", "actor", "figures"]) (sc := defScope s_law) (by decide +kernel)) (fun s2 H2 C2 cl2 fp2 => g_name 3 sc_law.nd) (fun s2 H2 C2 cl2 fp2 => ts_nil) (fun s2 H2 C2 cl2 fp2 => m_cal C_law_take (hr.mono (by omega)) tk0 (ma_cons (m_var 1) (ma_cons (m_int) (ma_nil))))))) (ms_cons (st_set 4 sc_law.nd (m_tup (ma_cons (m_cal C_law_pick (hr.mono (by omega)) tk (ma_cons (m_var 1) (ma_cons (m_lst false (ma_cons (m_int) (ma_cons (m_int) (ma_cons (m_int) (ma_nil))))) (ma_nil)))) (ma_cons (m_ty call_tuple_of s_tuple Z.tuple (by decide +kernel) (ma_cons (m_comp false [("span", 5)] sc_law.nd (i_sq (m_var 2)) (blkOk_by (N := ["script", "d", "spans", "k", "fee", "span", "tries", "more", "film", "calendar", "fees", "turn", "rows", "due", "actor", "figures"]) (sc := defScope s_law) (by decide +kernel)) (fun s2 H2 C2 cl2 fp2 => g_name 5 sc_law.nd) (fun s2 H2 C2 cl2 fp2 => ts_nil) (fun s2 H2 C2 cl2 fp2 => m_tup (ma_cons (m_var 5) (ma_cons (m_cal C_law_pick (hr.mono (by omega)) tk0 (ma_cons (m_var 1) (ma_cons (m_lst false (ma_cons (m_int) (ma_cons (m_int) (ma_cons (m_int) (ma_nil))))) (ma_nil)))) (ma_nil))))) (ma_nil))) (ma_nil))))) (ms_cons (st_set 6 sc_law.nd (m_lst true (ma_cons (m_int) (ma_cons (m_int) (ma_cons (m_cal C_law_take (hr.mono (by omega)) tk (ma_cons (m_var 1) (ma_cons (m_int) (ma_nil)))) (ma_nil)))))) (ms_cons (st_for [5] hp (i_sq (m_var 2)) (g_name 5 sc_law.nd) (ms_one (st_expr (m_meth PySem.F.plainAttrs_list PySem.F.slot_list_extend PySem.F.type_list_extend mt_extend s_extend (m_var 6) (ma_cons (m_comp false [("more", 7)] sc_law.nd (i_sq (m_tup (ma_cons (m_op op_sub s_sub (m_int) (m_int)) (ma_cons (m_int) (ma_cons (m_int) (ma_nil)))))) (blkOk_by (N := ["script", "d", "spans", "k", "fee", "span", "tries", "more", "film", "calendar", "fees", "turn", "rows", "due", "actor", "figures"]) (sc := defScope s_law) (by decide +kernel)) (fun s2 H2 C2 cl2 fp2 => g_name 7 sc_law.nd) (fun s2 H2 C2 cl2 fp2 => ts_nil) (fun s2 H2 C2 cl2 fp2 => m_op or_add (s_add false) (m_op or_add (s_add false) (m_var 5) (m_op or_mul (s_mul false) (m_int) (m_cal C_law_take (hr.mono (by omega)) tk0 (ma_cons (m_var 1) (ma_cons (m_int) (ma_nil)))))) (m_var 7))) (ma_nil)))))) (ms_cons (st_for [5] hp (i_sq (m_var 6)) (g_name 5 sc_law.nd) (ms_one (st_if (t_cmp (or_ne (hu64 hr)) s_ne (m_cal C_day_cost (hr.mono (by omega)) tk (ma_cons (m_var 4) (ma_cons (m_bi (or_max rfl) s_max Z.max (by decide +kernel) (ma_cons (m_int) (ma_cons (m_var 5) (ma_nil)))) (ma_nil)))) (m_cal C_law_cost (hr.mono (by omega)) tk (ma_cons (m_var 4) (ma_cons (m_bi (or_max rfl) s_max Z.max (by decide +kernel) (ma_cons (m_int) (ma_cons (m_var 5) (ma_nil)))) (ma_nil))))) (ms_one (st_ret (m_bl))) (ms_nil)))) (ms_cons (st_set 8 sc_law.nd (m_cal C_law_film (hr.mono (by omega)) tk (ma_cons (m_var 1) (ma_cons (m_int) (ma_nil))))) (ms_cons (st_set 9 sc_law.nd (m_cal C_law_calendar (hr.mono (by omega)) tk (ma_cons (m_var 1) (ma_cons (m_var 8) (ma_cons (m_int) (ma_nil)))))) (ms_cons (st_set 10 sc_law.nd (m_cal C_law_fees (hr.mono (by omega)) tk (ma_cons (m_var 1) (ma_cons (m_var 8) (ma_nil))))) (ms_cons (st_for [11, 12, 13, 14, 15] hp (i_rng1 Z.range (ma_cons (m_int) (ma_nil))) (g_name 11 sc_law.nd) (ms_cons (st_set 12 sc_law.nd (m_ixA (hu1 hr) (m_cal C_law_hours (hr.mono (by omega)) tk (ma_cons (m_var 8) (ma_cons (m_cal C_law_sheet (hr.mono (by omega)) tk (ma_cons (m_var 1) (ma_cons (m_var 8) (ma_nil)))) (ma_cons (m_tup (ma_nil)) (ma_cons (m_tup (ma_cons (m_cal C_law_pick (hr.mono (by omega)) tk (ma_cons (m_var 1) (ma_cons (m_lst false (ma_cons (m_str) (ma_cons (m_str) (ma_nil)))) (ma_nil)))) (ma_cons (m_op op_sub s_sub (m_cal C_law_take (hr.mono (by omega)) tk (ma_cons (m_var 1) (ma_cons (m_op or_add (s_add false) (m_bi or_len s_len Z.len (by decide +kernel) (ma_cons (m_ixA (hu1 hr) (m_var 8) (m_int)) (ma_nil))) (m_int)) (ma_nil)))) (m_int)) (ma_cons (m_int) (ma_nil))))) (ma_nil)))))) (m_int))) (ms_cons (st_set 13 sc_law.nd (m_int)) (ms_cons (st_for [14, 15] hp (i_rng1 Z.range (ma_cons (m_bi or_len s_len Z.len (by decide +kernel) (ma_cons (m_ixA (hu1 hr) (m_var 8) (m_int)) (ma_nil))) (ma_nil))) (g_name 14 sc_law.nd) (ms_cons (st_set 15 sc_law.nd (m_cal C_law_figures (hr.mono (by omega)) tk (ma_cons (m_var 8) (ma_cons (m_var 9) (ma_cons (m_int) (ma_cons (m_var 12) (ma_cons (m_var 14) (ma_cons (m_tup (ma_cons (m_op op_sub s_sub (m_int) (m_int)) (ma_cons (m_int) (ma_nil)))) (ma_nil))))))))) (ms_one (st_set 13 sc_law.nd (m_op or_add (s_add false) (m_var 13) (m_if (t_cmp or_is s_is (m_var 15) (m_non)) (m_int) (m_cal C_law_cost (hr.mono (by omega)) tk (ma_cons (m_ixA (hu1 hr) (m_var 10) (m_var 14)) (ma_cons (m_ixA (hu1 hr) (m_var 15) (m_int)) (ma_nil)))))))))) (ms_one (st_if (t_cmp (or_ne (hu64 hr)) s_ne (m_cal C_cost_of (hr.mono (by omega)) tk (ma_cons (m_var 8) (ma_cons (m_var 9) (ma_cons (m_var 10) (ma_cons (m_int) (ma_cons (m_var 12) (ma_nil))))))) (m_var 13)) (ms_one (st_ret (m_bl))) (ms_nil))))))) (ms_one (st_ret (m_bl))))))))))))
end
/-! what the top has written -/
def spLaw (K : PySem.W.Frag) : Sp := fun vs H Q _ => ∃ (a : Addr) (ns : List Int), vs = [.ref a] ∧ SqL K H a (ns.map V.int) ∧ ns.length ≤ 63 ∧ ∀ H2, Q (.bl true) H2
theorem fin_law {P : Program} {w : World} {K : PySem.W.Frag} {mg : Str → Option Value} {base : Heap} {k : Nat} {fa : Addr} {fd : FuncData} (hm : ∀ ns : List Int, ns.length ≤ 63 → ∃ st, m_law [.frz (ns.map D.int)] [] = .ok (.bl true) st) (Fl : FnM P w K mg base k fa fd ["script"] m_law) : FnOk P w K mg base (L2.CX P w) k fa fd ["script"] (spLaw K) :=
  Fl.imp fun vs H Q E h => by
    obtain ⟨a, ns, rfl, hs, hl, hq⟩ := h
    obtain ⟨st, e⟩ := hm ns hl
    exact law_start hs e hq
theorem all_mk {l : PySem.W.OpenLaw} {w : World} {K : PySem.W.Frag} {h : Heap} {mg : Str → Option Value} {fa : Addr} (X : K.In h) (G : h.Ns mainGlobals mg) (hfa : mg "law" = some (.ref fa)) (hm : ∀ ns : List Int, ns.length ≤ 63 → ∃ st, m_law [.frz (ns.map D.int)] [] = .ok (.bl true) st)
    {kMEAL_1 : Tok}
    {kDAY_1 : Tok}
    {kNO_REST_1 : Tok}
    {kHALF_HOUR_1 : Tok}
    {f1 : Addr} {od1 an1 : Option Addr} {sl1 : Array (Option Value)} {oc1 kV1 dc1 pm1 cd1 ct1 : Value}
    {f2 : Addr} {od2 an2 : Option Addr} {sl2 : Array (Option Value)} {oc2 kV2 dc2 pm2 cd2 ct2 : Value}
    {f3 : Addr} {od3 an3 : Option Addr} {sl3 : Array (Option Value)} {oc3 kV3 dc3 pm3 cd3 ct3 : Value}
    {f4 : Addr} {od4 an4 : Option Addr} {sl4 : Array (Option Value)} {oc4 kV4 dc4 pm4 cd4 ct4 : Value}
    {f5 : Addr} {od5 an5 : Option Addr} {sl5 : Array (Option Value)} {oc5 kV5 dc5 pm5 cd5 ct5 : Value}
    {f6 : Addr} {od6 an6 : Option Addr} {sl6 : Array (Option Value)} {oc6 kV6 dc6 pm6 cd6 ct6 : Value}
    {f7 : Addr} {od7 an7 : Option Addr} {sl7 : Array (Option Value)} {oc7 kV7 dc7 pm7 cd7 ct7 : Value}
    {f8 : Addr} {od8 an8 : Option Addr} {sl8 : Array (Option Value)} {oc8 kV8 dc8 pm8 cd8 ct8 : Value}
    {f9 : Addr} {od9 an9 : Option Addr} {sl9 : Array (Option Value)} {oc9 kV9 dc9 pm9 cd9 ct9 : Value}
    {f10 : Addr} {od10 an10 : Option Addr} {sl10 : Array (Option Value)} {oc10 kV10 dc10 pm10 cd10 ct10 : Value}
    {f11 : Addr} {od11 an11 : Option Addr} {sl11 : Array (Option Value)} {oc11 kV11 dc11 pm11 cd11 ct11 : Value}
    {f12 : Addr} {od12 an12 : Option Addr} {sl12 : Array (Option Value)} {oc12 kV12 dc12 pm12 cd12 ct12 : Value}
    {f13 : Addr} {od13 an13 : Option Addr} {sl13 : Array (Option Value)} {oc13 kV13 dc13 pm13 cd13 ct13 : Value}
    {f14 : Addr} {od14 an14 : Option Addr} {sl14 : Array (Option Value)} {oc14 kV14 dc14 pm14 cd14 ct14 : Value}
    {f15 : Addr} {od15 an15 : Option Addr} {sl15 : Array (Option Value)} {oc15 kV15 dc15 pm15 cd15 ct15 : Value}
    {f16 : Addr} {od16 an16 : Option Addr} {sl16 : Array (Option Value)} {oc16 kV16 dc16 pm16 cd16 ct16 : Value}
    {f17 : Addr} {od17 an17 : Option Addr} {sl17 : Array (Option Value)} {oc17 kV17 dc17 pm17 cd17 ct17 : Value}
    {f18 : Addr} {od18 an18 : Option Addr} {sl18 : Array (Option Value)} {oc18 kV18 dc18 pm18 cd18 ct18 : Value}
    (g_MEAL : PySem.W.nsIn K mainGlobals "MEAL" = some (some (Value.int (-1) kMEAL_1)))
    (g_DAY : PySem.W.nsIn K mainGlobals "DAY" = some (some (Value.int 1440 kDAY_1)))
    (g_NO_REST : PySem.W.nsIn K mainGlobals "NO_REST" = some (some (Value.int 9999 kNO_REST_1)))
    (g_HALF_HOUR : PySem.W.nsIn K mainGlobals "HALF_HOUR" = some (some (Value.int 30 kHALF_HOUR_1)))
    (a1 : PySem.W.nsIn K mainGlobals "dark_minutes" = some (some (.ref f1)))
    (l1 : K.lookup f1 = some ⟨oc1, od1, .func (PySem.W.fnOf "dark_minutes" "dark_minutes" (defArgs s_dark_minutes) (defBody s_dark_minutes) (defScope s_dark_minutes) .none kV1 dc1 pm1 an1 cd1 ct1), sl1⟩)
    (c1 : PySem.W.codeIn K cd1 "dark_minutes" = true)
    (k1 : PySem.W.keepIn K (.ref f1) = true)
    (a2 : PySem.W.nsIn K mainGlobals "longest_stretch" = some (some (.ref f2)))
    (l2 : K.lookup f2 = some ⟨oc2, od2, .func (PySem.W.fnOf "longest_stretch" "longest_stretch" (defArgs s_longest_stretch) (defBody s_longest_stretch) (defScope s_longest_stretch) .none kV2 dc2 pm2 an2 cd2 ct2), sl2⟩)
    (c2 : PySem.W.codeIn K cd2 "longest_stretch" = true)
    (k2 : PySem.W.keepIn K (.ref f2) = true)
    (a3 : PySem.W.nsIn K mainGlobals "figures_of" = some (some (.ref f3)))
    (l3 : K.lookup f3 = some ⟨oc3, od3, .func (PySem.W.fnOf "figures_of" "figures_of" (defArgs s_figures_of) (defBody s_figures_of) (defScope s_figures_of) .none kV3 dc3 pm3 an3 cd3 ct3), sl3⟩)
    (c3 : PySem.W.codeIn K cd3 "figures_of" = true)
    (k3 : PySem.W.keepIn K (.ref f3) = true)
    (a4 : PySem.W.nsIn K mainGlobals "day_cost" = some (some (.ref f4)))
    (l4 : K.lookup f4 = some ⟨oc4, od4, .func (PySem.W.fnOf "day_cost" "day_cost" (defArgs s_day_cost) (defBody s_day_cost) (defScope s_day_cost) .none kV4 dc4 pm4 an4 cd4 ct4), sl4⟩)
    (c4 : PySem.W.codeIn K cd4 "day_cost" = true)
    (k4 : PySem.W.keepIn K (.ref f4) = true)
    (a5 : PySem.W.nsIn K mainGlobals "cost_of" = some (some (.ref f5)))
    (l5 : K.lookup f5 = some ⟨oc5, od5, .func (PySem.W.fnOf "cost_of" "cost_of" (defArgs s_cost_of) (defBody s_cost_of) (defScope s_cost_of) .none kV5 dc5 pm5 an5 cd5 ct5), sl5⟩)
    (c5 : PySem.W.codeIn K cd5 "cost_of" = true)
    (k5 : PySem.W.keepIn K (.ref f5) = true)
    (a6 : PySem.W.nsIn K mainGlobals "_law_begin" = some (some (.ref f6)))
    (l6 : K.lookup f6 = some ⟨oc6, od6, .func (PySem.W.fnOf "_law_begin" "_law_begin" (defArgs s_law_begin) (defBody s_law_begin) (defScope s_law_begin) .none kV6 dc6 pm6 an6 cd6 ct6), sl6⟩)
    (c6 : PySem.W.codeIn K cd6 "_law_begin" = true)
    (k6 : PySem.W.keepIn K (.ref f6) = true)
    (a7 : PySem.W.nsIn K mainGlobals "_law_take" = some (some (.ref f7)))
    (l7 : K.lookup f7 = some ⟨oc7, od7, .func (PySem.W.fnOf "_law_take" "_law_take" (defArgs s_law_take) (defBody s_law_take) (defScope s_law_take) .none kV7 dc7 pm7 an7 cd7 ct7), sl7⟩)
    (c7 : PySem.W.codeIn K cd7 "_law_take" = true)
    (k7 : PySem.W.keepIn K (.ref f7) = true)
    (a8 : PySem.W.nsIn K mainGlobals "_law_pick" = some (some (.ref f8)))
    (l8 : K.lookup f8 = some ⟨oc8, od8, .func (PySem.W.fnOf "_law_pick" "_law_pick" (defArgs s_law_pick) (defBody s_law_pick) (defScope s_law_pick) .none kV8 dc8 pm8 an8 cd8 ct8), sl8⟩)
    (c8 : PySem.W.codeIn K cd8 "_law_pick" = true)
    (k8 : PySem.W.keepIn K (.ref f8) = true)
    (a9 : PySem.W.nsIn K mainGlobals "_law_film" = some (some (.ref f9)))
    (l9 : K.lookup f9 = some ⟨oc9, od9, .func (PySem.W.fnOf "_law_film" "_law_film" (defArgs s_law_film) (defBody s_law_film) (defScope s_law_film) .none kV9 dc9 pm9 an9 cd9 ct9), sl9⟩)
    (c9 : PySem.W.codeIn K cd9 "_law_film" = true)
    (k9 : PySem.W.keepIn K (.ref f9) = true)
    (a10 : PySem.W.nsIn K mainGlobals "_law_windows" = some (some (.ref f10)))
    (l10 : K.lookup f10 = some ⟨oc10, od10, .func (PySem.W.fnOf "_law_windows" "_law_windows" (defArgs s_law_windows) (defBody s_law_windows) (defScope s_law_windows) .none kV10 dc10 pm10 an10 cd10 ct10), sl10⟩)
    (c10 : PySem.W.codeIn K cd10 "_law_windows" = true)
    (k10 : PySem.W.keepIn K (.ref f10) = true)
    (a11 : PySem.W.nsIn K mainGlobals "_law_calendar" = some (some (.ref f11)))
    (l11 : K.lookup f11 = some ⟨oc11, od11, .func (PySem.W.fnOf "_law_calendar" "_law_calendar" (defArgs s_law_calendar) (defBody s_law_calendar) (defScope s_law_calendar) .none kV11 dc11 pm11 an11 cd11 ct11), sl11⟩)
    (c11 : PySem.W.codeIn K cd11 "_law_calendar" = true)
    (k11 : PySem.W.keepIn K (.ref f11) = true)
    (a12 : PySem.W.nsIn K mainGlobals "_law_list" = some (some (.ref f12)))
    (l12 : K.lookup f12 = some ⟨oc12, od12, .func (PySem.W.fnOf "_law_list" "_law_list" (defArgs s_law_list) (defBody s_law_list) (defScope s_law_list) .none kV12 dc12 pm12 an12 cd12 ct12), sl12⟩)
    (c12 : PySem.W.codeIn K cd12 "_law_list" = true)
    (k12 : PySem.W.keepIn K (.ref f12) = true)
    (a13 : PySem.W.nsIn K mainGlobals "_law_sheet" = some (some (.ref f13)))
    (l13 : K.lookup f13 = some ⟨oc13, od13, .func (PySem.W.fnOf "_law_sheet" "_law_sheet" (defArgs s_law_sheet) (defBody s_law_sheet) (defScope s_law_sheet) .none kV13 dc13 pm13 an13 cd13 ct13), sl13⟩)
    (c13 : PySem.W.codeIn K cd13 "_law_sheet" = true)
    (k13 : PySem.W.keepIn K (.ref f13) = true)
    (a14 : PySem.W.nsIn K mainGlobals "_law_fees" = some (some (.ref f14)))
    (l14 : K.lookup f14 = some ⟨oc14, od14, .func (PySem.W.fnOf "_law_fees" "_law_fees" (defArgs s_law_fees) (defBody s_law_fees) (defScope s_law_fees) .none kV14 dc14 pm14 an14 cd14 ct14), sl14⟩)
    (c14 : PySem.W.codeIn K cd14 "_law_fees" = true)
    (k14 : PySem.W.keepIn K (.ref f14) = true)
    (a15 : PySem.W.nsIn K mainGlobals "_law_hours" = some (some (.ref f15)))
    (l15 : K.lookup f15 = some ⟨oc15, od15, .func (PySem.W.fnOf "_law_hours" "_law_hours" (defArgs s_law_hours) (defBody s_law_hours) (defScope s_law_hours) .none kV15 dc15 pm15 an15 cd15 ct15), sl15⟩)
    (c15 : PySem.W.codeIn K cd15 "_law_hours" = true)
    (k15 : PySem.W.keepIn K (.ref f15) = true)
    (a16 : PySem.W.nsIn K mainGlobals "_law_figures" = some (some (.ref f16)))
    (l16 : K.lookup f16 = some ⟨oc16, od16, .func (PySem.W.fnOf "_law_figures" "_law_figures" (defArgs s_law_figures) (defBody s_law_figures) (defScope s_law_figures) .none kV16 dc16 pm16 an16 cd16 ct16), sl16⟩)
    (c16 : PySem.W.codeIn K cd16 "_law_figures" = true)
    (k16 : PySem.W.keepIn K (.ref f16) = true)
    (a17 : PySem.W.nsIn K mainGlobals "_law_cost" = some (some (.ref f17)))
    (l17 : K.lookup f17 = some ⟨oc17, od17, .func (PySem.W.fnOf "_law_cost" "_law_cost" (defArgs s_law_cost) (defBody s_law_cost) (defScope s_law_cost) .none kV17 dc17 pm17 an17 cd17 ct17), sl17⟩)
    (c17 : PySem.W.codeIn K cd17 "_law_cost" = true)
    (k17 : PySem.W.keepIn K (.ref f17) = true)
    (a18 : PySem.W.nsIn K mainGlobals "law" = some (some (.ref f18)))
    (l18 : K.lookup f18 = some ⟨oc18, od18, .func (PySem.W.fnOf "law" "law" (defArgs s_law) (defBody s_law) (defScope s_law) .none kV18 dc18 pm18 an18 cd18 ct18), sl18⟩)
    (c18 : PySem.W.codeIn K cd18 "law" = true)
    (k18 : PySem.W.keepIn K (.ref f18) = true)
    (z_abs : PySem.W.nsIn K mainGlobals "abs" = some none)
    (z_int : PySem.W.nsIn K mainGlobals "int" = some none)
    (z_len : PySem.W.nsIn K mainGlobals "len" = some none)
    (z_list : PySem.W.nsIn K mainGlobals "list" = some none)
    (z_max : PySem.W.nsIn K mainGlobals "max" = some none)
    (z_min : PySem.W.nsIn K mainGlobals "min" = some none)
    (z_range : PySem.W.nsIn K mainGlobals "range" = some none)
    (z_set : PySem.W.nsIn K mainGlobals "set" = some none)
    (z_sorted : PySem.W.nsIn K mainGlobals "sorted" = some none)
    (z_str : PySem.W.nsIn K mainGlobals "str" = some none)
    (z_sum : PySem.W.nsIn K mainGlobals "sum" = some none)
    (z_tuple : PySem.W.nsIn K mainGlobals "tuple" = some none)
    : ∃ fd : FuncData, (∀ (s : Shared) (v : Value), BindsTo s fd ⟨[v], []⟩ [("script", v)]) ∧ ∀ base : Heap, K.In base → base.Ns mainGlobals mg → FnOk l.prog w K mg base (L2.CX l.prog w) 4 fa fd ["script"] (spLaw K) := by
  have e := hfa.symm.trans (PySem.W.mg_of X G a18)
  cases e
  have F1 := fun_mk (st := s_dark_minutes) l1 c1 k1
  have b1 := F1.binds (ps := ["light", "dark", "begin", "end"]) fun _ _ _ _ _ _ us hl => match us, hl with | [_, _, _, _], _ => rfl
  have F2 := fun_mk (st := s_longest_stretch) l2 c2 k2
  have b2 := F2.binds (ps := ["rows", "call", "wrap"]) fun _ _ _ _ _ _ us hl => match us, hl with | [_, _, _], _ => rfl
  have F3 := fun_mk (st := s_figures_of) l3 c3 k3
  have b3 := F3.binds (ps := ["film", "calendar", "day", "rows", "actor", "before"]) fun _ _ _ _ _ _ us hl => match us, hl with | [_, _, _, _, _, _], _ => rfl
  have F4 := fun_mk (st := s_day_cost) l4 c4 k4
  have b4 := F4.binds (ps := ["fee", "span"]) fun _ _ _ _ _ _ us hl => match us, hl with | [_, _], _ => rfl
  have F5 := fun_mk (st := s_cost_of) l5 c5 k5
  have b5 := F5.binds (ps := ["film", "calendar", "fees", "day", "rows"]) fun _ _ _ _ _ _ us hl => match us, hl with | [_, _, _, _, _], _ => rfl
  have F6 := fun_mk (st := s_law_begin) l6 c6 k6
  have b6 := F6.binds (ps := ["script"]) fun _ _ _ _ _ _ us hl => match us, hl with | [_], _ => rfl
  have F7 := fun_mk (st := s_law_take) l7 c7 k7
  have b7 := F7.binds (ps := ["d", "many"]) fun _ _ _ _ _ _ us hl => match us, hl with | [_, _], _ => rfl
  have F8 := fun_mk (st := s_law_pick) l8 c8 k8
  have b8 := F8.binds (ps := ["d", "menu"]) fun _ _ _ _ _ _ us hl => match us, hl with | [_, _], _ => rfl
  have F9 := fun_mk (st := s_law_film) l9 c9 k9
  have b9 := F9.binds (ps := ["d", "most"]) fun _ _ _ _ _ _ us hl => match us, hl with | [_, _], _ => rfl
  have F10 := fun_mk (st := s_law_windows) l10 c10 k10
  have b10 := F10.binds (ps := ["d", "many", "days"]) fun _ _ _ _ _ _ us hl => match us, hl with | [_, _, _], _ => rfl
  have F11 := fun_mk (st := s_law_calendar) l11 c11 k11
  have b11 := F11.binds (ps := ["d", "film", "days"]) fun _ _ _ _ _ _ us hl => match us, hl with | [_, _, _], _ => rfl
  have F12 := fun_mk (st := s_law_list) l12 c12 k12
  have b12 := F12.binds (ps := ["d", "film"]) fun _ _ _ _ _ _ us hl => match us, hl with | [_, _], _ => rfl
  have F13 := fun_mk (st := s_law_sheet) l13 c13 k13
  have b13 := F13.binds (ps := ["d", "film"]) fun _ _ _ _ _ _ us hl => match us, hl with | [_, _], _ => rfl
  have F14 := fun_mk (st := s_law_fees) l14 c14 k14
  have b14 := F14.binds (ps := ["d", "film"]) fun _ _ _ _ _ _ us hl => match us, hl with | [_, _], _ => rfl
  have F15 := fun_mk (st := s_law_hours) l15 c15 k15
  have b15 := F15.binds (ps := ["film", "sheet", "shot", "news"]) fun _ _ _ _ _ _ us hl => match us, hl with | [_, _, _, _], _ => rfl
  have F16 := fun_mk (st := s_law_figures) l16 c16 k16
  have b16 := F16.binds (ps := ["film", "calendar", "day", "rows", "actor", "before"]) fun _ _ _ _ _ _ us hl => match us, hl with | [_, _, _, _, _, _], _ => rfl
  have F17 := fun_mk (st := s_law_cost) l17 c17 k17
  have b17 := F17.binds (ps := ["fee", "span"]) fun _ _ _ _ _ _ us hl => match us, hl with | [_, _], _ => rfl
  have F18 := fun_mk (st := s_law) l18 c18 k18
  have b18 := F18.binds (ps := ["script"]) fun _ _ _ _ _ _ us hl => match us, hl with | [_], _ => rfl
  have Z : Zs K mg := ⟨PySem.W.mg_none_of X G z_abs, PySem.W.mg_none_of X G z_int, PySem.W.mg_none_of X G z_len, PySem.W.mg_none_of X G z_list, PySem.W.mg_none_of X G z_max, PySem.W.mg_none_of X G z_min, PySem.W.mg_none_of X G z_range, PySem.W.mg_none_of X G z_set, PySem.W.mg_none_of X G z_sorted, PySem.W.mg_none_of X G z_str, PySem.W.mg_none_of X G z_sum, PySem.W.mg_none_of X G z_tuple, ⟨_, _, PySem.W.mg_of X G g_MEAL, (show RelV (V.int (-1)) (Value.int (-1) kMEAL_1) from rv_int), fun μ G1 => Rep.int⟩, ⟨_, _, PySem.W.mg_of X G g_DAY, (show RelV (V.int 1440) (Value.int 1440 kDAY_1) from rv_int), fun μ G1 => Rep.int⟩, ⟨_, _, PySem.W.mg_of X G g_NO_REST, (show RelV (V.int 9999) (Value.int 9999 kNO_REST_1) from rv_int), fun μ G1 => Rep.int⟩, ⟨_, _, PySem.W.mg_of X G g_HALF_HOUR, (show RelV (V.int 30) (Value.int 30 kHALF_HOUR_1) from rv_int), fun μ G1 => Rep.int⟩⟩
  refine ⟨PySem.W.fnOf "law" "law" (defArgs s_law) (defBody s_law) (defScope s_law) .none kV18 dc18 pm18 an18 cd18 ct18, fun s v => .of_eq rfl, fun base _ _ => ?_⟩
  have M_dark_minutes : FnM l.prog w K mg base 1 _ _ ["light", "dark", "begin", "end"] m_dark_minutes := ok_dark_minutes Z F1
  have C_dark_minutes : Cal l.prog w K mg base "dark_minutes" 1 ["light", "dark", "begin", "end"] m_dark_minutes := ⟨_, _, M_dark_minutes, PySem.W.mg_of X G a1, k1, b1⟩
  have M_longest_stretch : FnM l.prog w K mg base 1 _ _ ["rows", "call", "wrap"] m_longest_stretch := ok_longest_stretch Z F2
  have C_longest_stretch : Cal l.prog w K mg base "longest_stretch" 1 ["rows", "call", "wrap"] m_longest_stretch := ⟨_, _, M_longest_stretch, PySem.W.mg_of X G a2, k2, b2⟩
  have M_figures_of : FnM l.prog w K mg base 2 _ _ ["film", "calendar", "day", "rows", "actor", "before"] m_figures_of := ok_figures_of Z C_longest_stretch C_dark_minutes F3
  have C_figures_of : Cal l.prog w K mg base "figures_of" 2 ["film", "calendar", "day", "rows", "actor", "before"] m_figures_of := ⟨_, _, M_figures_of, PySem.W.mg_of X G a3, k3, b3⟩
  have M_day_cost : FnM l.prog w K mg base 1 _ _ ["fee", "span"] m_day_cost := ok_day_cost Z F4
  have C_day_cost : Cal l.prog w K mg base "day_cost" 1 ["fee", "span"] m_day_cost := ⟨_, _, M_day_cost, PySem.W.mg_of X G a4, k4, b4⟩
  have M_cost_of : FnM l.prog w K mg base 3 _ _ ["film", "calendar", "fees", "day", "rows"] m_cost_of := ok_cost_of Z C_figures_of C_day_cost F5
  have C_cost_of : Cal l.prog w K mg base "cost_of" 3 ["film", "calendar", "fees", "day", "rows"] m_cost_of := ⟨_, _, M_cost_of, PySem.W.mg_of X G a5, k5, b5⟩
  have M_law_begin : FnM l.prog w K mg base 1 _ _ ["script"] m_law_begin := ok_law_begin Z F6
  have C_law_begin : Cal l.prog w K mg base "_law_begin" 1 ["script"] m_law_begin := ⟨_, _, M_law_begin, PySem.W.mg_of X G a6, k6, b6⟩
  have M_law_take : FnM l.prog w K mg base 1 _ _ ["d", "many"] m_law_take := ok_law_take Z F7
  have C_law_take : Cal l.prog w K mg base "_law_take" 1 ["d", "many"] m_law_take := ⟨_, _, M_law_take, PySem.W.mg_of X G a7, k7, b7⟩
  have M_law_pick : FnM l.prog w K mg base 2 _ _ ["d", "menu"] m_law_pick := ok_law_pick Z C_law_take F8
  have C_law_pick : Cal l.prog w K mg base "_law_pick" 2 ["d", "menu"] m_law_pick := ⟨_, _, M_law_pick, PySem.W.mg_of X G a8, k8, b8⟩
  have M_law_film : FnM l.prog w K mg base 3 _ _ ["d", "most"] m_law_film := ok_law_film Z C_law_take C_law_pick F9
  have C_law_film : Cal l.prog w K mg base "_law_film" 3 ["d", "most"] m_law_film := ⟨_, _, M_law_film, PySem.W.mg_of X G a9, k9, b9⟩
  have M_law_windows : FnM l.prog w K mg base 2 _ _ ["d", "many", "days"] m_law_windows := ok_law_windows Z C_law_take F10
  have C_law_windows : Cal l.prog w K mg base "_law_windows" 2 ["d", "many", "days"] m_law_windows := ⟨_, _, M_law_windows, PySem.W.mg_of X G a10, k10, b10⟩
  have M_law_calendar : FnM l.prog w K mg base 3 _ _ ["d", "film", "days"] m_law_calendar := ok_law_calendar Z C_law_take C_law_windows F11
  have C_law_calendar : Cal l.prog w K mg base "_law_calendar" 3 ["d", "film", "days"] m_law_calendar := ⟨_, _, M_law_calendar, PySem.W.mg_of X G a11, k11, b11⟩
  have M_law_list : FnM l.prog w K mg base 2 _ _ ["d", "film"] m_law_list := ok_law_list Z C_law_take F12
  have C_law_list : Cal l.prog w K mg base "_law_list" 2 ["d", "film"] m_law_list := ⟨_, _, M_law_list, PySem.W.mg_of X G a12, k12, b12⟩
  have M_law_sheet : FnM l.prog w K mg base 3 _ _ ["d", "film"] m_law_sheet := ok_law_sheet Z C_law_list C_law_take F13
  have C_law_sheet : Cal l.prog w K mg base "_law_sheet" 3 ["d", "film"] m_law_sheet := ⟨_, _, M_law_sheet, PySem.W.mg_of X G a13, k13, b13⟩
  have M_law_fees : FnM l.prog w K mg base 2 _ _ ["d", "film"] m_law_fees := ok_law_fees Z C_law_take F14
  have C_law_fees : Cal l.prog w K mg base "_law_fees" 2 ["d", "film"] m_law_fees := ⟨_, _, M_law_fees, PySem.W.mg_of X G a14, k14, b14⟩
  have M_law_hours : FnM l.prog w K mg base 1 _ _ ["film", "sheet", "shot", "news"] m_law_hours := ok_law_hours Z F15
  have C_law_hours : Cal l.prog w K mg base "_law_hours" 1 ["film", "sheet", "shot", "news"] m_law_hours := ⟨_, _, M_law_hours, PySem.W.mg_of X G a15, k15, b15⟩
  have M_law_figures : FnM l.prog w K mg base 1 _ _ ["film", "calendar", "day", "rows", "actor", "before"] m_law_figures := ok_law_figures Z F16
  have C_law_figures : Cal l.prog w K mg base "_law_figures" 1 ["film", "calendar", "day", "rows", "actor", "before"] m_law_figures := ⟨_, _, M_law_figures, PySem.W.mg_of X G a16, k16, b16⟩
  have M_law_cost : FnM l.prog w K mg base 1 _ _ ["fee", "span"] m_law_cost := ok_law_cost Z F17
  have C_law_cost : Cal l.prog w K mg base "_law_cost" 1 ["fee", "span"] m_law_cost := ⟨_, _, M_law_cost, PySem.W.mg_of X G a17, k17, b17⟩
  have M_law : FnM l.prog w K mg base 4 _ _ ["script"] m_law := ok_law Z C_law_begin C_law_take C_law_pick C_day_cost C_law_cost C_law_film C_law_calendar C_law_fees C_law_sheet C_law_hours C_law_figures C_cost_of F18
  exact fin_law hm M_law
end Lk14
namespace Lk14
open PySem Dn
theorem take_is : m_law_take = takeM := rfl
theorem pick_is : m_law_pick = pickM := rfl
theorem begin_is : m_law_begin = beginM := rfl
/-! ### films -/
structure Scene where
  nm : Str
  place : Nat
  light : Str
  mins : Int
  dry : Bool
  cast : List Nat
structure Film where
  places : List (Str × Bool)
  actors : List (Str × Bool)
  scenes : List Scene
  orders : List (Nat × Nat)
  move : Int
  bef : Int
  meal : Int
def encA (a : Str × Bool) : D := .tup [.str a.1, .bl a.2]
def encN (s : List Nat) : D := .tup (s.map fun k => .int ((k : Nat) : Int))
def encSc (s : Scene) : D := .tup [.str s.nm, .int (s.place : Nat), .str s.light, .int s.mins, .bl s.dry, encN s.cast]
def encP (p : Nat × Nat) : D := .tup [.int (p.1 : Nat), .int (p.2 : Nat)]
def encF (f : Film) : D := .tup [.tup (f.places.map encA), .tup (f.actors.map encA), .tup (f.scenes.map encSc), .tup (f.orders.map encP), .tup [.int f.move, .int f.bef, .int f.meal]]
def ScOk (np na : Nat) (s : Scene) : Prop := s.place < np ∧ (s.light = "day" ∨ s.light = "any" ∨ s.light = "night") ∧ (5 ≤ s.mins ∧ s.mins ≤ 200) ∧ s.cast.Sublist (List.range na)
structure FilmOk (m : Nat) (f : Film) : Prop where
  pl : 1 ≤ f.places.length ∧ f.places.length ≤ 3
  ac : 1 ≤ f.actors.length ∧ f.actors.length ≤ 3
  sc : 1 ≤ f.scenes.length ∧ f.scenes.length ≤ m
  so : ∀ s ∈ f.scenes, ScOk f.places.length f.actors.length s
  od : ∀ o ∈ f.orders, o.1 < o.2 ∧ o.2 < f.scenes.length
  ol : f.orders.length ≤ m * m
  mi : (0 ≤ f.move ∧ f.move < 60) ∧ (0 ≤ f.bef ∧ f.bef < 90) ∧ 5 ≤ f.meal ∧ f.meal < 65
theorem lf_encA (a : Str × Bool) : lf (encA a) = true := by simp [encA]
theorem lf_encN (s : List Nat) : lf (encN s) = true := by
  unfold encN
  rw [lf_tup]
  exact lfs_map fun _ => lf_int
theorem lf_encSc (s : Scene) : lf (encSc s) = true := by simp [encSc, lf_encN]
theorem lf_encP (s : Nat × Nat) : lf (encP s) = true := by simp [encP]
theorem lf_encF (f : Film) : lf (encF f) = true := by simp [encF, lfs_map lf_encA, lfs_map lf_encSc, lfs_map lf_encP]
def IsA (y : D) : Prop := ∃ a, y = encA a
def IsP (n : Nat) (y : D) : Prop := ∃ p : Nat × Nat, y = encP p ∧ p.1 < p.2 ∧ p.2 < n
theorem film_wp {m : Nat} {c : Option Ob} {t : Store} {Q : D → Store → Prop} (hm : 1 ≤ m ∧ m ≤ 60) (h : DrawOk c) (q : ∀ f c', DrawOk c' → FilmOk m f → Q (encF f) (c' :: t)) : wp (m_law_film [.loc 0, .int (m : Nat)] (c :: t)) Q := by
  unfold m_law_film
  rw [wp_fnD]
  unfold b_law_film
  simp [take_is, eComp_wp]
  refine take_wp h (by omega) (by omega) fun r c1 h1 r0 r1 => ?_
  simp [fitR_of (i := 1 + r) (by omega) (by omega)]
  refine ⟨by omega, wp_mono (compGo_draw1 (Pr := IsA) (fun _ => trivial) _ c1 h1 fun d hd c2 h2 => ?_) fun ps st hps => ?_⟩
  · obtain ⟨i, hi, rfl⟩ := rng_mem hd
    refine ⟨_, rfl, ?_⟩
    have i64 : i < 64 := by omega
    simp [-Dn.strD_int, -Dn.add_str, str_small i64, add_small i64 (p := "p") (by decide)]
    refine take_wp h2 (by omega) (by omega) fun r c3 h3 r0 r1 => ?_
    simp
    exact de_of ⟨(_, _), rfl⟩ h3
  obtain ⟨p1, p2, c2, h2, rfl⟩ := hps
  obtain ⟨pls, rfl⟩ := list_of p1
  simp at p2
  simp
  unfold b_law_film_2
  simp [take_is, eComp_wp]
  refine take_wp h2 (by omega) (by omega) fun r2 c3 h3 r20 r21 => ?_
  simp [fitR_of (i := 1 + r2) (by omega) (by omega)]
  refine ⟨by omega, wp_mono (compGo_draw1 (Pr := IsA) (fun _ => trivial) _ c3 h3 fun d hd c2 h2 => ?_) fun as st has => ?_⟩
  · obtain ⟨i, hi, rfl⟩ := rng_mem hd
    refine ⟨_, rfl, ?_⟩
    have i64 : i < 64 := by omega
    simp [-Dn.strD_int, -Dn.add_str, str_small i64, add_small i64 (p := "a") (by decide)]
    refine take_wp h2 (by omega) (by omega) fun r c3 h3 r0 r1 => ?_
    simp
    exact de_of ⟨(_, _), rfl⟩ h3
  obtain ⟨a1, a2, c4, h4, rfl⟩ := has
  obtain ⟨acts, rfl⟩ := list_of a1
  simp at a2
  simp
  unfold b_law_film_3
  simp
  unfold b_law_film_4
  simp [sFor_wp, take_is]
  refine take_wp h4 (by omega) (by omega) fun r3 c5 h5 r30 r31 => ?_
  simp [fitR_of (i := 1 + r3) (by omega) (by omega)]
  refine forGo_wp (fun l vs st => ∃ j c' ss, l = (rng 0 (1 + r3).toNat).drop j ∧ j ≤ (1 + r3).toNat ∧ DrawOk c' ∧ st = c' :: (t ++ [some (.lst (ss.map encSc))]) ∧ ss.length = j ∧ (∀ s ∈ ss, ScOk pls.length acts.length s) ∧
    vs = [some (D.loc 0), some (D.int (m : Nat)), some (D.tup (pls.map encA)), none, some (D.tup (acts.map encA)), some (D.loc (t.length + 1)), none, none, none, none, none, none])
    (fun _ _ _ _ => trivial) (fun d l vs st hI => ?_) (fun vs st hI => ?_) _ _ _ ⟨0, c5, [], rfl, Nat.zero_le _, h5, rfl, rfl, by simp, rfl⟩
  · obtain ⟨j, c6, ss, hj, hj2, h6, rfl, l6, s6, rfl⟩ := hI
    obtain ⟨j3, rfl, rfl⟩ := rng_drop hj.symm
    rw [Int.zero_add]
    refine ⟨_, rfl, ?_⟩
    unfold b_law_film_5
    simp [eComp_wp, fitR_of (i := (acts.length : Int)) (by omega) (by omega)]
    refine ⟨by omega, wp_mono (compGo_drawS (T := t ++ [some (.lst (ss.map encSc))]) (f := id) (fun _ => trivial) _ c6 h6 fun d hd c7 h7 => ?_) fun cs st hcs => ?_⟩
    · obtain ⟨i, hi, rfl⟩ := rng_mem hd
      refine ⟨_, rfl, ?_⟩
      simp [take_is]
      refine take_wp h7 (by omega) (by omega) fun r c8 h8 _ _ => ?_
      rw [bind_ok, eq_int, wp_ok]
      refine dt_of h8 fun _ => ?_
      simp
      exact h8
    · obtain ⟨⟨cl, q1, rfl⟩, c7, h7, rfl⟩ := hcs
      obtain ⟨cast, q2, rfl⟩ := sub_rng q1
      have j64 : j < 64 := by omega
      simp
      unfold b_law_film_6
      simp [-Dn.strD_int, -Dn.add_str, str_small j64, add_small j64 (p := "s") (by decide), take_is, pick_is]
      refine take_wp h7 (by omega) (by omega) fun r8 c8 h8 r80 r81 => ?_
      simp [pick_is]
      refine pick_wp h8 (by simp) (by simp) (by simp) fun x c9 h9 hx => ?_
      simp at hx
      obtain ⟨lt, rfl, hlt⟩ : ∃ z, x = .str z ∧ (z = "day" ∨ z = "any" ∨ z = "night") := by
        rcases hx with rfl | rfl | rfl <;> exact ⟨_, rfl, by simp⟩
      simp [take_is]
      refine take_wp h9 (by omega) (by omega) fun r10 c10 h10 r100 r101 => ?_
      simp [take_is]
      refine take_wp h10 (by omega) (by omega) fun r11 c11 h11 _ _ => ?_
      simp
      rw [if_pos (by omega), wp_ok]
      have hp : r8.toNat < pls.length := by omega
      refine ⟨j + 1, c11, ss ++ [⟨"s" ++ Str.ofString (Int.repr (j : Int)), r8.toNat, lt, 5 + 5 * r10, decide (r11 = 0), cast⟩], rfl, j3, h11, ?_, by simp [l6], fun s hs => ?_, rfl⟩
      · simp [encSc, encN, r80]
        omega
      · rcases List.mem_append.mp hs with hs | hs
        · exact s6 s hs
        · rw [List.mem_singleton] at hs
          subst hs
          exact ⟨hp, hlt, ⟨by show 5 ≤ 5 + 5 * r10; omega, by show 5 + 5 * r10 ≤ 200; omega⟩, q2⟩
  · obtain ⟨j, c6, ss, hj, hj2, h6, rfl, l6, s6, rfl⟩ := hI
    have ej := rng_end hj
    unfold b_law_film_7
    simp
    unfold b_law_film_8
    simp [sFor_wp, fitR_of (i := (ss.length : Int)) (by omega) (by omega)]
    have ns : ss.length ≤ m ∧ 1 ≤ ss.length := by omega
    refine forGo_wp (fun l vs st => ∃ j c' os, l = (rng 0 ss.length).drop j ∧ j ≤ ss.length ∧ DrawOk c' ∧ st = c' :: (t ++ [some (.lst (ss.map encSc)), some (.lst (os.map encP))]) ∧ os.length ≤ m * j ∧ (∀ o ∈ os, o.1 < o.2 ∧ o.2 < ss.length) ∧
      vs = [some (D.loc 0), some (D.int (m : Nat)), some (D.tup (pls.map encA)), none, some (D.tup (acts.map encA)), some (D.loc (t.length + 1)), none, none, some (D.loc (t.length + 1 + 1)), none, none, none])
      (fun _ _ _ _ => trivial) (fun d l vs st hI => ?_) (fun vs st hI => ?_) _ _ _ ⟨0, c6, [], rfl, Nat.zero_le _, h6, rfl, by simp, by simp, rfl⟩
    · obtain ⟨j2, c7, os, hj, hj2, h7, rfl, l7, s7, rfl⟩ := hI
      obtain ⟨j3, rfl, rfl⟩ := rng_drop hj.symm
      rw [Int.zero_add]
      refine ⟨_, rfl, ?_⟩
      unfold b_law_film_9
      simp [eComp_wp, fitR_of (i := (ss.length : Int)) (by omega) (by omega), fitR_of (i := (j2 : Int) + 1) (by omega) (by omega)]
      refine ⟨by omega, wp_mono (compGo_draw (T := t ++ [some (.lst (ss.map encSc)), some (.lst (os.map encP))]) (Pr := IsP ss.length) (fun _ => trivial) _ c7 h7 fun d hd c8 h8 => ?_) fun cs st hcs => ?_⟩
      · obtain ⟨i, hi, rfl⟩ := rng_mem hd
        refine ⟨_, rfl, ?_⟩
        simp [take_is]
        refine take_wp h8 (by omega) (by omega) fun r c9 h9 _ _ => ?_
        rw [bind_ok, eq_int, wp_ok]
        refine dt_of h9 fun _ => ?_
        simp
        refine de_of ⟨(j2, j2 + 1 + i), ?_, by show j2 < j2 + 1 + i; omega, by show j2 + 1 + i < ss.length; omega⟩ h9
        simp [encP]
      · obtain ⟨q1, q2, c8, h8, rfl⟩ := hcs
        obtain ⟨ps, rfl, hp⟩ := list_ofP (p := fun p : Nat × Nat => p.1 < p.2 ∧ p.2 < ss.length) q1
        simp at q2
        have hmj : m * j2 ≤ 60 * 60 := Nat.mul_le_mul hm.2 (by omega)
        have hmj2 : m * (j2 + 1) = m * j2 + m := by rw [Nat.mul_add, Nat.mul_one]
        simp
        rw [if_pos (by omega), wp_ok]
        refine ⟨j2 + 1, c8, os ++ ps, rfl, j3, h8, by simp, by simp; omega, fun o ho => ?_, rfl⟩
        rcases List.mem_append.mp ho with ho | ho
        · exact s7 o ho
        · exact hp o ho
    · obtain ⟨j2, c7, os, hj, hj2, h7, rfl, l7, s7, rfl⟩ := hI
      unfold b_law_film_10
      simp [take_is]
      refine take_wp h7 (by omega) (by omega) fun r8 c8 h8 _ _ => ?_
      simp [take_is]
      refine take_wp h8 (by omega) (by omega) fun r9 c9 h9 _ _ => ?_
      simp [take_is]
      refine take_wp h9 (by omega) (by omega) fun r10 c10 h10 _ _ => ?_
      simp
      unfold b_law_film_11
      have lfd := lf_encF ⟨pls, acts, ss, os, r8, r9, 5 + r10⟩
      simp
      show wp (gcRet (c :: t) (encF ⟨pls, acts, ss, os, r8, r9, 5 + r10⟩) _) Q
      rw [gc_drawL h10 lfd, wp_ok]
      have hmj : m * j2 ≤ m * m := Nat.mul_le_mul (Nat.le_refl _) (by omega)
      exact q _ c10 h10 ⟨⟨by show 1 ≤ pls.length; omega, by show pls.length ≤ 3; omega⟩, ⟨by show 1 ≤ acts.length; omega, by show acts.length ≤ 3; omega⟩, ⟨ns.2, ns.1⟩, s6, s7, Nat.le_trans l7 hmj, ⟨by omega, by omega⟩, ⟨by omega, by omega⟩, by show 5 ≤ 5 + r10; omega, by show 5 + r10 < 65; omega⟩
end Lk14
namespace Lk14
open PySem Dn
/-! ### calendars -/
structure Calx where
  lights : List (Int × Int)
  away : List (Nat × Nat × Nat)
  closed : List (Nat × Nat × Nat)
def kW (w : Nat × Nat × Nat) : List Int := [(w.1 : Int), (w.2.1 : Int), (w.2.2 : Int)]
def encW (w : Nat × Nat × Nat) : D := .tup [.int (w.1 : Nat), .int (w.2.1 : Nat), .int (w.2.2 : Nat)]
def encL (p : Int × Int) : D := .tup [.int p.1, .int p.2]
def encC (c : Calx) : D := .tup [.tup (c.lights.map encL), .tup (c.away.map encW), .tup (c.closed.map encW)]
def WOk (many days : Nat) (w : Nat × Nat × Nat) : Prop := w.1 < many ∧ w.2.1 ≤ w.2.2 ∧ w.2.2 < days
def WsOk (many days : Nat) (ws : List (Nat × Nat × Nat)) : Prop := ws.length ≤ 2 ∧ (∀ w ∈ ws, WOk many days w) ∧ ∃ rows : List (Nat × Nat × Nat), ws.map kW = ssT (rows.map kW)
def LOk (p : Int × Int) : Prop := 300 ≤ p.1 ∧ p.1 < 500 ∧ 1000 ≤ p.2 ∧ p.2 < 1300
structure CalOk (np na days : Nat) (c : Calx) : Prop where
  li : c.lights.length = days
  lo : ∀ l ∈ c.lights, LOk l
  aw : WsOk na days c.away
  cl : WsOk np days c.closed
theorem lf_encW (w : Nat × Nat × Nat) : lf (encW w) = true := by simp [encW]
theorem lf_encL (w : Int × Int) : lf (encL w) = true := by simp [encL]
theorem lf_encC (c : Calx) : lf (encC c) = true := by simp [encC, lfs_map lf_encW, lfs_map lf_encL]
theorem windows_wp {many days : Nat} {c : Option Ob} {t : Store} {Q : D → Store → Prop} (hm : 1 ≤ many ∧ many ≤ 60) (hd : 1 ≤ days ∧ days ≤ 60) (h : DrawOk c)
    (q : ∀ ws c', DrawOk c' → WsOk many days ws → Q (.tup (ws.map encW)) (c' :: t)) : wp (m_law_windows [.loc 0, .int (many : Nat), .int (days : Nat)] (c :: t)) Q := by
  unfold m_law_windows
  rw [wp_fnD]
  unfold b_law_windows
  simp [take_is, sFor_wp]
  refine take_wp h (by omega) (by omega) fun r c1 h1 r0 r1 => ?_
  simp [fitR_of (i := r) (by omega) (by omega)]
  refine forGo_wp (fun l vs st => ∃ j c' ws, l = (rng 0 r.toNat).drop j ∧ j ≤ r.toNat ∧ DrawOk c' ∧ st = c' :: (t ++ [some (.lst (ws.map encW))]) ∧ ws.length = j ∧ (∀ w ∈ ws, WOk many days w) ∧
    vs = [some (D.loc 0), some (D.int (many : Nat)), some (D.int (days : Nat)), some (D.loc (t.length + 1)), none, none])
    (fun _ _ _ _ => trivial) (fun d l vs st hI => ?_) (fun vs st hI => ?_) _ _ _ ⟨0, c1, [], rfl, Nat.zero_le _, h1, rfl, rfl, by simp, rfl⟩
  · obtain ⟨j, c2, ws, hj, hj2, h2, rfl, l2, w2, rfl⟩ := hI
    obtain ⟨j3, rfl, rfl⟩ := rng_drop hj.symm
    rw [Int.zero_add]
    refine ⟨_, rfl, ?_⟩
    simp [take_is]
    refine take_wp h2 (by omega) (by omega) fun r3 c3 h3 r30 r31 => ?_
    simp [take_is]
    refine take_wp h3 (by omega) (by omega) fun r4 c4 h4 r40 r41 => ?_
    simp [take_is]
    refine take_wp h4 (by omega) (by omega) fun r5 c5 h5 r50 r51 => ?_
    simp
    rw [if_pos (by omega), wp_ok]
    refine ⟨j + 1, c5, ws ++ [(r4.toNat, r3.toNat, (r3 + r5).toNat)], rfl, j3, h5, ?_, by simp [l2], fun w hw => ?_, rfl⟩
    · simp [encW]
      omega
    · rcases List.mem_append.mp hw with hw | hw
      · exact w2 w hw
      · rw [List.mem_singleton] at hw
        subst hw
        exact ⟨by show r4.toNat < many; omega, by show r3.toNat ≤ (r3 + r5).toNat; omega, by show (r3 + r5).toNat < days; omega⟩
  · obtain ⟨j, c2, rows, hj, hj2, h2, rfl, l2, w2, rfl⟩ := hI
    have ek : rows.map encW = (rows.map kW).map tupD := by rw [List.map_map]; rfl
    have ho : ssOk (rows.map kW) = true := ssOk_of (d := 3) (by simp; omega) (by omega) fun k hk => by
      obtain ⟨w, hw, rfl⟩ := List.mem_map.mp hk
      obtain ⟨b1, b2, b3⟩ := w2 w hw
      refine ⟨rfl, fun i hi => ?_⟩
      simp [kW] at hi
      unfold big
      rcases hi with rfl | rfl | rfl <;> omega
    obtain ⟨ws, e1, hws⟩ := list_ofG (f := kW) (p := WOk many days) (ys := ssT (rows.map kW)) fun k hk => by
      obtain ⟨w, hw, rfl⟩ := List.mem_map.mp (mem_ssT.mp hk)
      exact ⟨w, rfl, w2 w hw⟩
    have e2 : (ssT (rows.map kW)).map tupD = ws.map encW := by rw [e1, List.map_map]; rfl
    have hlen : ws.length ≤ 2 := by
      have h3 := ssT_len (rows.map kW)
      rw [e1] at h3
      simp at h3
      omega
    simp
    rw [ssD_tups (ks := rows.map kW) (by simp [ek]) ho, e2]
    simp
    rw [gc_drawL h2 (by rw [lf_tup]; exact lfs_map lf_encW), wp_ok]
    exact q ws c2 h2 ⟨hlen, hws, rows, e1.symm⟩
def IsL (y : D) : Prop := ∃ p, y = encL p ∧ LOk p
theorem calendar_wp {days m : Nat} {f : Film} {c : Option Ob} {t : Store} {Q : D → Store → Prop} (hf : FilmOk m f) (hd : 1 ≤ days ∧ days ≤ 60) (h : DrawOk c)
    (q : ∀ cal c', DrawOk c' → CalOk f.places.length f.actors.length days cal → Q (encC cal) (c' :: t)) : wp (m_law_calendar [.loc 0, encF f, .int (days : Nat)] (c :: t)) Q := by
  obtain ⟨p1, p2⟩ := hf.pl
  obtain ⟨a1, a2⟩ := hf.ac
  unfold m_law_calendar
  rw [wp_fnD]
  unfold b_law_calendar
  simp [eComp_wp, fitR_of (i := (days : Int)) (by omega) (by omega)]
  refine ⟨by omega, wp_mono (compGo_draw1 (T := t) (Pr := IsL) (fun _ => trivial) _ c h fun d hd c2 h2 => ?_) fun ls st hls => ?_⟩
  · refine ⟨_, rfl, ?_⟩
    simp [take_is]
    refine take_wp h2 (by omega) (by omega) fun r c3 h3 r0 r1 => ?_
    simp [take_is]
    refine take_wp h3 (by omega) (by omega) fun r2 c4 h4 r20 r21 => ?_
    simp
    exact de_of ⟨(300 + r, 1000 + r2), rfl, by show 300 ≤ 300 + r; omega, by show 300 + r < 500; omega, by show 1000 ≤ 1000 + r2; omega, by show 1000 + r2 < 1300; omega⟩ h4
  · obtain ⟨q1, q2, c3, h3, rfl⟩ := hls
    obtain ⟨ls, rfl, hls⟩ := list_ofP (p := LOk) q1
    simp at q2
    simp [encF]
    refine windows_wp ⟨a1, by omega⟩ hd h3 fun w1 c4 h4 k1 => ?_
    simp
    refine windows_wp ⟨p1, by omega⟩ hd h4 fun w2 c5 h5 k2 => ?_
    simp
    show wp (gcRet (c :: t) (encC ⟨ls, w1, w2⟩) _) Q
    rw [gc_draw h5 (lf_encC _), wp_ok]
    exact q _ c5 h5 ⟨q2, hls, k1, k2⟩
end Lk14
namespace Lk14
open PySem Dn
/-! ### fees -/
abbrev Fee := Int × List (Int × Int)
def encFee (f : Fee) : D := .tup [.int f.1, .tup (f.2.map encL)]
def add1 (span : Int) (t : Int) (s : Int × Int) : Int := t + (if span > s.1 then s.2 * ((span - s.1 + 30 - 1) / 30) else 0)
def cost (f : Fee) (span : Int) : Int := f.2.foldl (add1 span) f.1
def FeeOk (f : Fee) : Prop := f.2.length ≤ 100 ∧ ∀ s ∈ f.2, 0 ≤ s.2 ∧ s.2 ≤ 99999
theorem lf_encFee (f : Fee) : lf (encFee f) = true := by simp [encFee, lfs_map lf_encL]
theorem day_cost_ok {f : Fee} {span : Int} {st : Store} (hf : FeeOk f) : m_day_cost [encFee f, .int span] st = .ok (.int (cost f span)) st := by
  refine wp_eq ?_
  unfold m_day_cost
  rw [wp_fnD]
  unfold b_day_cost
  simp [encFee, sFor_wp]
  refine forGo_wp (fun l vs st1 => ∃ pre suf, f.2 = pre ++ suf ∧ l = suf.map encL ∧ st1 = st ∧ vs = [some (.tup [.int f.1, .tup (f.2.map encL)]), some (.int span), some (.int (pre.foldl (add1 span) f.1)), none, none])
    (fun _ _ _ _ => trivial) (fun d l vs st1 hI => ?_) (fun vs st1 hI => ?_) _ _ _ ⟨[], f.2, rfl, rfl, rfl, rfl⟩
  · obtain ⟨pre, suf, hs, hl2, hst, rfl⟩ := hI
    cases suf with
    | nil => cases hl2
    | cons s suf =>
      injection hl2 with h1 h2
      subst h1 h2
      obtain ⟨b1, b2⟩ := hf.2 s (by rw [hs]; simp)
      refine ⟨_, rfl, ?_⟩
      have ef : (pre ++ [s]).foldl (add1 span) f.1 = add1 span (pre.foldl (add1 span) f.1) s := by rw [List.foldl_append]; rfl
      have ed : d_HALF_HOUR = .int 30 := rfl
      by_cases hc : s.1 < span
      · simp [encL, hc, ed, -Dn.mul_int]
        rw [mul_int, if_pos (.inl ⟨by omega, by omega⟩)]
        simp
        refine ⟨pre ++ [s], suf, by rw [hs]; simp, rfl, hst, ?_⟩
        rw [ef]
        simp [add1, hc]
      · simp [encL, hc]
        refine ⟨pre ++ [s], suf, by rw [hs]; simp, rfl, hst, ?_⟩
        rw [ef]
        simp [add1, hc]
  · obtain ⟨pre, suf, hs, hl2, hst, rfl⟩ := hI
    have e : suf = [] := by
      cases suf with
      | nil => rfl
      | cons _ _ => cases hl2
    subst e hst
    rw [List.append_nil] at hs
    simp [cost, hs]
theorem law_cost_ok {f : Fee} {span : Int} {st : Store} : m_law_cost [encFee f, .int span] st = .ok (.int (cost f span)) st := by
  refine wp_eq ?_
  unfold m_law_cost
  rw [wp_fnD]
  unfold b_law_cost
  simp [encFee]
  unfold b_law_cost_2
  simp [sFor_wp]
  refine forGo_wp (fun l vs st1 => ∃ pre suf, f.2 = pre ++ suf ∧ l = suf.map encL ∧ st1 = st ∧ vs = [some (.tup [.int f.1, .tup (f.2.map encL)]), some (.int span), some (.int (pre.foldl (add1 span) f.1)), none, none, none])
    (fun _ _ _ _ => trivial) (fun d l vs st1 hI => ?_) (fun vs st1 hI => ?_) _ _ _ ⟨[], f.2, rfl, rfl, rfl, rfl⟩
  · obtain ⟨pre, suf, hs, hl2, hst, rfl⟩ := hI
    cases suf with
    | nil => cases hl2
    | cons s suf =>
      injection hl2 with h1 h2
      subst h1 h2
      refine ⟨_, rfl, ?_⟩
      have ef : (pre ++ [s]).foldl (add1 span) f.1 = add1 span (pre.foldl (add1 span) f.1) s := by rw [List.foldl_append]; rfl
      unfold b_law_cost_3
      simp [encL]
      unfold b_law_cost_4
      generalize pre.foldl (add1 span) f.1 = t0 at *
      refine while_wp (fun n vs st2 => ∃ k : Nat, ∃ ov : Int, n = ov.toNat ∧ ov = span - s.1 - 30 * k ∧ (k = 0 ∨ -30 < ov) ∧ st2 = st1 ∧ vs = [some (.tup [.int f.1, .tup (f.2.map encL)]), some (.int span), some (.int (t0 + s.2 * k)), some (.int s.1), some (.int s.2), some (.int ov)])
        (fun n vs st2 hI => ?_) (span - s.1).toNat _ _ ⟨0, span - s.1, rfl, by omega, .inl rfl, rfl, by simp [encL]⟩
      obtain ⟨k, ov, rfl, ho, hk, rfl, rfl⟩ := hI
      simp
      by_cases hb : 0 < ov
      · right
        refine ⟨hb, ?_⟩
        unfold b_law_cost_5
        simp
        unfold b_law_cost_6
        simp
        exact ⟨(ov - 30).toNat, by omega, k + 1, ov - 30, rfl, by omega, .inr (by omega), by
          have : s.2 * ((k + 1 : Nat) : Int) = s.2 * (k : Int) + s.2 := by
            rw [Int.natCast_add, Int.mul_add]
            simp
          omega, rfl⟩
      · left
        refine ⟨by omega, pre ++ [s], suf, by rw [hs]; simp, rfl, hst, ?_⟩
        rw [ef]
        have : add1 span t0 s = t0 + s.2 * (k : Int) := by
          unfold add1
          by_cases hc : span > s.1
          · rw [if_pos hc]
            have : (span - s.1 + 30 - 1) / 30 = (k : Int) := by omega
            rw [this]
          · rw [if_neg hc]
            have : k = 0 := by omega
            rw [this]
            simp
        rw [this]
  · obtain ⟨pre, suf, hs, hl2, hst, rfl⟩ := hI
    have e : suf = [] := by
      cases suf with
      | nil => rfl
      | cons _ _ => cases hl2
    subst e hst
    rw [List.append_nil] at hs
    unfold b_law_cost_7
    simp [cost, hs]
end Lk14
namespace Lk14
open PySem Dn
theorem erase_map {α β : Type} {f : α → β} : ∀ (l : List α) (i : Nat), (l.map f).eraseIdx i = (l.eraseIdx i).map f
  | [], _ => rfl
  | _ :: _, 0 => rfl
  | x :: l, i + 1 => congrArg (f x :: ·) (erase_map l i)
theorem pop_ints {st : Store} {n : Nat} {l : List Int} {i : Int} (h : lstAt st n = some (l.map .int)) (h0 : 0 ≤ i) (h1 : i < l.length) (hl : l.length ≤ 1000000) :
    ∃ x, x ∈ l ∧ popD (.loc n) [.int i] st = .ok (.int x) (st.set n (some (.lst ((l.eraseIdx i.toNat).map .int)))) := by
  have hi : i.toNat < l.length := by omega
  refine ⟨l[i.toNat], List.getElem_mem hi, ?_⟩
  show opt (lstAt st n) _ = _
  rw [h, opt_some, ixN_pos h0 (by simpa using h1), opt_some, List.getElem?_map, List.getElem?_eq_getElem hi]
  show (if (l.map D.int).length ≤ 1000000 then _ else _) = _
  rw [if_pos (by simpa using hl), erase_map]
def ItOk (n : Nat) (x : Int) : Prop := x = -1 ∨ (0 ≤ x ∧ x < n)
theorem lr_ok {b : Bool} {j : Int} {st : Store} (h : fitR j) (h2 : j ≤ 1000000) : lrD b [.int j] st = mkNew b (rng 0 j.toNat) st := by
  unfold lrD one
  exact if_pos ⟨h, h2⟩
theorem list_wp {m : Nat} {f : Film} {c : Option Ob} {t : Store} {Q : D → Store → Prop} (hf : FilmOk m f) (hm : m ≤ 60) (h : DrawOk c)
    (q : ∀ (row : List Int) c', DrawOk c' → row.length ≤ 100 → (∀ x ∈ row, ItOk f.scenes.length x) → Q (.tup (row.map .int)) (c' :: t)) : wp (m_law_list [.loc 0, encF f] (c :: t)) Q := by
  obtain ⟨n1, n2⟩ := hf.sc
  unfold m_law_list
  rw [wp_fnD]
  unfold b_law_list
  have ixF2 : ∀ st, ixA (encF f) (.int 2) st = .ok (.tup (f.scenes.map encSc)) st := fun st => by simp [encF]
  have elr : ∀ st, lrD true [.int (f.scenes.length : Nat)] st = .ok (.loc st.length) (st ++ [some (.lst ((List.range f.scenes.length).map fun k => D.int ((k : Nat) : Int)))]) := fun st => by
    rw [lr_ok (fitR_of (by omega) (by omega)) (by omega), mkNew_t, Int.toNat_natCast, rng0_map]
  simp [ixF2, elr]
  have er : (List.range f.scenes.length).map (fun k => D.int ((k : Nat) : Int)) = ((List.range f.scenes.length).map fun k => ((k : Nat) : Int)).map .int := by rw [List.map_map]; rfl
  rw [er]
  obtain ⟨rest0, hr0⟩ : ∃ rest0, rest0 = (List.range f.scenes.length).map fun k => ((k : Nat) : Int) := ⟨_, rfl⟩
  have hr1 : rest0.length = f.scenes.length := by rw [hr0]; simp
  have hr2 : ∀ x : Int, x ∈ rest0 → 0 ≤ x ∧ x < f.scenes.length := fun x hx => by
    rw [hr0] at hx
    obtain ⟨k, hk, rfl⟩ := List.mem_map.mp hx
    have := List.mem_range.mp hk
    omega
  rw [← hr0]
  clear hr0 er elr
  unfold b_law_list_2
  simp
  unfold b_law_list_3
  simp [take_is, sFor_wp, hr1]
  refine take_wp h (by omega) (by omega) fun r c1 h1 r0 r1 => ?_
  simp [fitR_of (i := r) (by omega) (by omega)]
  refine forGo_wp (fun l vs st => ∃ j c' rest row, l = (rng 0 r.toNat).drop j ∧ j ≤ r.toNat ∧ DrawOk c' ∧ st = c' :: (t ++ [some (.lst (rest.map D.int)), some (.lst (row.map D.int))]) ∧ rest.length ≤ f.scenes.length ∧ (∀ x : Int, x ∈ rest → 0 ≤ x ∧ x < f.scenes.length) ∧ row.length ≤ j ∧ (∀ x ∈ row, ItOk f.scenes.length x) ∧
    vs = [some (.loc 0), some (encF f), some (.loc (t.length + 1)), some (.loc (t.length + 1 + 1)), none])
    (fun _ _ _ _ => trivial) (fun d l vs st hI => ?_) (fun vs st hI => ?_) _ _ _ ⟨0, c1, rest0, [], rfl, Nat.zero_le _, h1, rfl, by omega, hr2, by simp, by simp, rfl⟩
  · obtain ⟨j, c2, rest, row, hj, hj2, h2, rfl, l1, l2, l3, l4, rfl⟩ := hI
    obtain ⟨j3, rfl, rfl⟩ := rng_drop hj.symm
    rw [Int.zero_add]
    refine ⟨_, rfl, ?_⟩
    unfold b_law_list_4
    simp [take_is]
    refine take_wp h2 (by omega) (by omega) fun r3 c3 h3 _ _ => ?_
    by_cases e3 : r3 = 0
    · subst e3
      simp
      rw [if_pos (by omega), wp_ok, wpS_nx]
      refine ⟨j + 1, c3, rest, row ++ [-1], rfl, j3, h3, by simp, l1, l2, by simp; omega, fun x hx => ?_, rfl⟩
      rcases List.mem_append.mp hx with hx | hx
      · exact l4 x hx
      · rw [List.mem_singleton] at hx
        exact .inl hx
    · simp [e3]
      by_cases e4 : rest = []
      · subst e4
        simp
        exact ⟨j + 1, rfl, j3, c3, h3, [], row, ⟨rfl, rfl, rfl⟩, by simp, by simp, by omega, l4⟩
      · have hpos : 0 < rest.length := List.length_pos_iff.mpr e4
        have hq2 : (0 : Int) < rest.length := by omega
        simp [hpos]
        refine take_wp h3 (by omega) (by omega) fun r4 c4 h4 _ _ => ?_
        have fin : ∀ (i : Int) c5, DrawOk c5 → 0 ≤ i → i < rest.length → wp (popD (.loc (t.length + 1)) [.int i] (c5 :: (t ++ [some (.lst (rest.map D.int)), some (.lst (row.map D.int))]))) fun a st => ∃ x, x ∈ rest ∧ a = .int x ∧ st = c5 :: (t ++ [some (.lst ((rest.eraseIdx i.toNat).map D.int)), some (.lst (row.map D.int))]) := fun i c5 h5 i0 i1 => by
          obtain ⟨x, hx, e⟩ := pop_ints (st := c5 :: (t ++ [some (.lst (rest.map D.int)), some (.lst (row.map D.int))])) (n := t.length + 1) (l := rest) (i := i) (by simp) i0 i1 (by omega)
          rw [e, wp_ok]
          exact ⟨x, hx, rfl, by simp⟩
        have done : ∀ (i : Int) c5, DrawOk c5 → 0 ≤ i → i < rest.length → ∀ (k : D → Store → Prop), (∀ (x : Int) (rest' : List Int), rest'.length ≤ f.scenes.length → (∀ y : Int, y ∈ rest' → 0 ≤ y ∧ y < f.scenes.length) → ItOk f.scenes.length x → k (.int x) (c5 :: (t ++ [some (.lst (rest'.map D.int)), some (.lst (row.map D.int))]))) → wp (popD (.loc (t.length + 1)) [.int i] (c5 :: (t ++ [some (.lst (rest.map D.int)), some (.lst (row.map D.int))]))) k := fun i c5 h5 i0 i1 k hk => by
          refine wp_mono (fin i c5 h5 i0 i1) fun a st ha => ?_
          obtain ⟨x, hx, rfl, rfl⟩ := ha
          refine hk x _ (Nat.le_trans (List.length_eraseIdx_le rest i.toNat) l1) (fun y hy => l2 y (List.mem_of_mem_eraseIdx hy)) (.inr (l2 x hx))
        by_cases e5 : r4 = 0
        · subst e5
          simp
          refine done 0 c4 h4 (by omega) hq2 _ fun x rest' k1 k2 k3 => ?_
          simp
          rw [if_pos (by omega), wp_ok, wpS_nx]
          refine ⟨j + 1, c4, rest', row ++ [x], rfl, j3, h4, by simp, k1, k2, by simp; omega, fun y hy => ?_, rfl⟩
          rcases List.mem_append.mp hy with hy | hy
          · exact l4 y hy
          · rw [List.mem_singleton] at hy
            subst hy
            exact k3
        · simp [e5]
          refine take_wp h4 (by omega) (by omega) fun r5 c5 h5 r50 r51 => ?_
          simp
          refine done r5 c5 h5 r50 r51 _ fun x rest' k1 k2 k3 => ?_
          simp
          rw [if_pos (by omega), wp_ok, wpS_nx]
          refine ⟨j + 1, c5, rest', row ++ [x], rfl, j3, h5, by simp, k1, k2, by simp; omega, fun y hy => ?_, rfl⟩
          rcases List.mem_append.mp hy with hy | hy
          · exact l4 y hy
          · rw [List.mem_singleton] at hy
            subst hy
            exact k3
  · obtain ⟨j, c2, rest, row, hj, hj2, h2, rfl, l1, l2, l3, l4, rfl⟩ := hI
    unfold b_law_list_8
    simp
    rw [gc_drawL h2 (by rw [lf_tup]; exact lfs_ints), wp_ok]
    exact q row c2 h2 (by omega) l4
end Lk14
namespace Lk14
open PySem Dn
def encSh (call : Int) (a b : List Int) : D := .tup [.int call, .tup (a.map .int), .tup (b.map .int)]
theorem lf_ints (l : List Int) : lf (.tup (l.map .int)) = true := by rw [lf_tup]; exact lfs_ints
def RowsOk (n : Nat) (l : List Int) : Prop := l.length ≤ 100 ∧ ∀ x ∈ l, ItOk n x
theorem sheet_wp {m : Nat} {f : Film} {c : Option Ob} {t : Store} {Q : D → Store → Prop} (hf : FilmOk m f) (hm : m ≤ 60) (h : DrawOk c)
    (q : ∀ call a b c', DrawOk c' → RowsOk f.scenes.length a → RowsOk f.scenes.length b → Q (encSh call a b) (c' :: t)) : wp (m_law_sheet [.loc 0, encF f] (c :: t)) Q := by
  unfold m_law_sheet
  rw [wp_fnD]
  unfold b_law_sheet
  simp
  refine list_wp hf hm h fun a c1 h1 a1 a2 => ?_
  simp [take_is]
  refine take_wp h1 (by omega) (by omega) fun r c2 h2 _ _ => ?_
  simp [take_is]
  refine take_wp h2 (by omega) (by omega) fun r3 c3 h3 _ _ => ?_
  by_cases e : r3 = 0
  · subst e
    simp
    have hl := lfs_ints (ns := a)
    rw [gc_draw h3 (by simp [hl]), wp_ok]
    exact q (360 + 30 * r) a a c3 h3 ⟨a1, a2⟩ ⟨a1, a2⟩
  · simp [e]
    refine list_wp hf hm h3 fun b c4 h4 b1 b2 => ?_
    have hl := lfs_ints (ns := a)
    have hl2 := lfs_ints (ns := b)
    simp
    rw [gc_draw h4 (by simp [hl, hl2]), wp_ok]
    exact q (360 + 30 * r) a b c4 h4 ⟨a1, a2⟩ ⟨b1, b2⟩
def IsInt (y : D) : Prop := ∃ i : Int, y = .int i
def IsStep (y : D) : Prop := ∃ s : Int × Int, y = encL s ∧ 0 ≤ s.2 ∧ s.2 ≤ 99999
theorem fees_wp {m : Nat} {f : Film} {c : Option Ob} {t : Store} {Q : D → Store → Prop} (hf : FilmOk m f) (h : DrawOk c)
    (q : ∀ (fees : List Fee) c', DrawOk c' → fees.length = f.actors.length → (∀ x ∈ fees, FeeOk x) → Q (.tup (fees.map encFee)) (c' :: t)) : wp (m_law_fees [.loc 0, encF f] (c :: t)) Q := by
  obtain ⟨n1, n2⟩ := hf.ac
  have ixF1 : ∀ st, ixA (encF f) (.int 1) st = .ok (.tup (f.actors.map encA)) st := fun st => by simp [encF]
  unfold m_law_fees
  rw [wp_fnD]
  unfold b_law_fees
  simp [ixF1, sFor_wp]
  refine forGo_wp (fun l vs st => ∃ pre suf c' fees, f.actors = pre ++ suf ∧ l = suf.map encA ∧ DrawOk c' ∧ st = c' :: (t ++ [some (.lst (fees.map encFee))]) ∧ fees.length = pre.length ∧ (∀ x ∈ fees, FeeOk x) ∧
    vs = [some (.loc 0), some (encF f), some (.loc (t.length + 1)), none, none, none, none])
    (fun _ _ _ _ => trivial) (fun d l vs st hI => ?_) (fun vs st hI => ?_) _ _ _ ⟨[], f.actors, c, [], rfl, rfl, h, rfl, rfl, by simp, rfl⟩
  · obtain ⟨pre, suf, c1, fees, hs, hl2, h1, rfl, fl, fo, rfl⟩ := hI
    cases suf with
    | nil => cases hl2
    | cons a suf =>
      injection hl2 with e1 e2
      subst e1 e2
      have hpl : pre.length + 1 ≤ f.actors.length := by rw [hs]; simp
      refine ⟨_, rfl, ?_⟩
      simp [take_is, eComp_wp]
      refine take_wp h1 (by omega) (by omega) fun r c2 h2 r0 r1 => ?_
      simp [fitR_of (i := r) (by omega) (by omega)]
      refine ⟨by omega, wp_mono (compGo_draw1 (T := t ++ [some (.lst (fees.map encFee))]) (Pr := IsInt) (fun _ => trivial) _ c2 h2 fun d hd c3 h3 => ?_) fun ys st hys => ?_⟩
      · refine ⟨_, rfl, ?_⟩
        simp [take_is]
        refine take_wp h3 (by omega) (by omega) fun r4 c4 h4 _ _ => ?_
        exact de_of ⟨r4, rfl⟩ h4
      · obtain ⟨q1, q2, c3, h3, rfl⟩ := hys
        obtain ⟨ns, rfl⟩ := list_of q1
        simp at q2
        have ess := ssD_ints (b := false) (x := .lst (ns.map .int)) (st := c3 :: (t ++ [some (.lst (fees.map encFee))])) (ns := ns) rfl (by omega)
        have hsl := ssI_len ns
        simp [ess]
        generalize ssI ns = sp at *
        refine take_wp h3 (by omega) (by omega) fun r5 c5 h5 _ _ => ?_
        simp [eComp_wp]
        refine ⟨by omega, wp_mono (compGo_draw1 (T := t ++ [some (.lst (fees.map encFee))]) (Pr := IsStep) (fun _ => trivial) _ c5 h5 fun d hd c6 h6 => ?_) fun ys st hys => ?_⟩
        · obtain ⟨i, hi, rfl⟩ := List.mem_map.mp hd
          refine ⟨_, rfl, ?_⟩
          simp [take_is]
          refine take_wp h6 (by omega) (by omega) fun r7 c7 h7 r70 r71 => ?_
          simp
          exact de_of ⟨(i, r7), rfl, r70, by show r7 ≤ 99999; omega⟩ h7
        · obtain ⟨w1, w2, c6, h6, rfl⟩ := hys
          obtain ⟨steps, rfl, hst⟩ := list_ofP (p := fun s : Int × Int => 0 ≤ s.2 ∧ s.2 ≤ 99999) w1
          simp at w2
          simp
          rw [if_pos (by omega), wp_ok, wpS_nx]
          refine ⟨pre ++ [a], suf, c6, fees ++ [(r5, steps)], by rw [hs]; simp, rfl, h6, by simp [encFee], by simp [fl], fun x hx => ?_, rfl⟩
          rcases List.mem_append.mp hx with hx | hx
          · exact fo x hx
          · rw [List.mem_singleton] at hx
            subst hx
            exact ⟨by show steps.length ≤ 100; omega, hst⟩
  · obtain ⟨pre, suf, c1, fees, hs, hl2, h1, rfl, fl, fo, rfl⟩ := hI
    have e : suf = [] := by
      cases suf with
      | nil => rfl
      | cons _ _ => cases hl2
    subst e
    rw [List.append_nil] at hs
    simp
    rw [gc_drawL h1 (by rw [lf_tup]; exact lfs_map lf_encFee), wp_ok]
    exact q fees c1 h1 (by rw [fl, hs]) fo
/-! ### the hours of a day -/
structure Row where
  item : Int
  b : Int
  e : Int
def encRow (r : Row) : D := .tup [.int r.item, .int r.b, .int r.e]
theorem lf_encRow (r : Row) : lf (encRow r) = true := by simp [encRow]
theorem srt_ints (ns : List Int) : srtOk (ns.map .int) = true := by
  unfold srtOk
  rw [Bool.and_eq_true, Bool.and_eq_true, Bool.or_eq_true]
  refine ⟨List.all_eq_true.mpr (okd_map fun _ _ => okd_int), ?_, .inr ?_⟩
  · unfold likes
    rw [List.all_eq_true]
    intro x hx
    rw [List.all_eq_true]
    intro y hy
    rw [List.map_map] at hx hy
    obtain ⟨a, _, rfl⟩ := List.mem_map.mp hx
    obtain ⟨b, _, rfl⟩ := List.mem_map.mp hy
    simp [pd, PySem.W.alike]
  · rw [List.all_eq_true]
    intro x hx
    rw [List.map_map] at hx
    obtain ⟨a, _, rfl⟩ := List.mem_map.mp hx
    rfl
end Lk14
namespace Lk14
open PySem Dn
def RsOk (n : Nat) (rows : List Row) : Prop := rows.length ≤ 100 ∧ ∀ r ∈ rows, ItOk n r.item
theorem ixF2 {f : Film} {st : Store} : ixA (encF f) (.int 2) st = .ok (.tup (f.scenes.map encSc)) st := by simp [encF]
theorem ixF4 {f : Film} {st : Store} : ixA (encF f) (.int 4) st = .ok (.tup [.int f.move, .int f.bef, .int f.meal]) st := by simp [encF]
theorem nin_nil {i : Int} {st : Store} : ninD (.int i) (.tup []) st = .ok (.bl true) st := by
  rw [nin_flat (ds := []) (by simp) (by simp) rfl]
  simp
theorem in_cast {s : List Nat} {i : Int} {st : Store} : inD (.int i) (encN s) st = .ok (.bl (decide (∃ a ∈ s, ((a : Nat) : Int) = i))) st := in_ints (f := fun k : Nat => (k : Int)) rfl
theorem hours_ok {m : Nat} {f : Film} {call who : Int} {w : Str} {a b : List Int} {st : Store} (hf : FilmOk m f) (ha : RowsOk f.scenes.length a) (hb : RowsOk f.scenes.length b) :
    ∃ rows x, m_law_hours [encF f, encSh call a b, .tup [], .tup [.str w, .int who, .int 0]] st = .ok (.tup [.tup (rows.map encRow), x]) st ∧ RsOk f.scenes.length rows := by
  have hw : wp (m_law_hours [encF f, encSh call a b, .tup [], .tup [.str w, .int who, .int 0]] st) fun d st' => ∃ rows x, d = .tup [.tup (rows.map encRow), x] ∧ st' = st ∧ RsOk f.scenes.length rows := by
    unfold m_law_hours
    rw [wp_fnD]
    unfold b_law_hours
    simp [encSh]
    unfold b_law_hours_2
    simp
    unfold b_law_hours_3
    simp
    unfold b_law_hours_4
    simp
    unfold b_law_hours_5
    obtain ⟨its, hits, hi⟩ : ∃ its : List Int, ixA (D.tup [.int call, .tup (a.map .int), .tup (b.map .int)]) (.int (1 + if w = "rain" then 1 else 0)) (st ++ [some (.lst []), some (.lst [])]) = .ok (.tup (its.map .int)) (st ++ [some (.lst []), some (.lst [])]) ∧ RowsOk f.scenes.length its := by
      by_cases h : w = "rain"
      · exact ⟨b, by simp [h], hb⟩
      · exact ⟨a, by simp [h], ha⟩
    have eint : ∀ st, intD [.bl (decide (w = "rain"))] st = .ok (.int (if w = "rain" then 1 else 0)) st := fun st => by
      by_cases h : w = "rain" <;> simp [h, intD, one]
    simp [sFor_wp, eint, hits]
    obtain ⟨HI, hHI⟩ : ∃ HI : List D → Vars → Store → Prop, HI = fun l vs st1 => ∃ (pre suf : List Int) (rows : List Row) (fallen : List Int) (clock : Int) (place : D), its = pre ++ suf ∧ l = suf.map .int ∧ st1 = st ++ [some (.lst (rows.map encRow)), some (.lst (fallen.map .int))] ∧ rows.length ≤ pre.length ∧ fallen.length ≤ pre.length ∧ (∀ r ∈ rows, ItOk f.scenes.length r.item) ∧
      (place = .non ∨ ∃ p : Int, place = .int p) ∧
      vs = [some (encF f), some (.tup [.int call, .tup (a.map .int), .tup (b.map .int)]), some (.tup []), some (.tup [.str w, .int who, .int 0]), some (.int clock), some place, some (.loc st.length), some (.loc (st.length + 1)), none, none] := ⟨_, rfl⟩
    refine forGo_wp HI (fun _ _ _ _ => trivial) (fun d l vs st1 hI => ?_) (fun vs st1 hI => ?_) _ _ _ (by rw [hHI]; exact ⟨[], its, [], [], call, .non, rfl, rfl, rfl, by simp, by simp, by simp, .inl rfl, by simp⟩)
    · rw [hHI] at hI
      obtain ⟨pre, suf, rows, fallen, clock, place, hs, hl2, rfl, r1, r2, r3, hp, rfl⟩ := hI
      cases suf with
      | nil => cases hl2
      | cons i suf =>
        injection hl2 with e1 e2
        subst e1 e2
        have hpl : pre.length + 1 ≤ its.length := by rw [hs]; simp
        have hil := hi.1
        have hii : ItOk f.scenes.length i := hi.2 i (by rw [hs]; simp)
        refine ⟨_, rfl, ?_⟩
        unfold b_law_hours_6
        have fin : ∀ (rows2 : List Row) (fallen2 : List Int) (clock2 : Int) (place2 : D), rows2.length ≤ rows.length + 1 → fallen2.length ≤ fallen.length + 1 → (∀ r ∈ rows2, r ∈ rows ∨ r.item = i) → (place2 = .non ∨ ∃ p : Int, place2 = .int p) →
            HI (suf.map .int) [some (encF f), some (.tup [.int call, .tup (a.map .int), .tup (b.map .int)]), some (.tup []), some (.tup [.str w, .int who, .int 0]), some (.int clock2), some place2, some (.loc st.length), some (.loc (st.length + 1)), none, none] (st ++ [some (.lst (rows2.map encRow)), some (.lst (fallen2.map .int))]) := fun rows2 fallen2 clock2 place2 k1 k2 k3 k4 => by
          rw [hHI]
          refine ⟨pre ++ [i], suf, rows2, fallen2, clock2, place2, by rw [hs]; simp, rfl, rfl, by simp; omega, by simp; omega, fun r hr => ?_, k4, rfl⟩
          rcases k3 r hr with h | h
          · exact r3 r h
          · rw [h]; exact hii
        clear hHI
        by_cases hm1 : i = -1
        · subst hm1
          simp
          unfold b_law_hours_7
          simp [ixF4]
          rw [if_pos (by omega), wp_ok]
          simp
          unfold b_law_hours_8
          simp [ixF4]
          have := fin (rows ++ [⟨-1, clock, clock + f.meal⟩]) fallen (clock + f.meal) place (by simp) (by simp) (fun r hr => by
            rcases List.mem_append.mp hr with hr | hr
            · exact .inl hr
            · rw [List.mem_singleton] at hr
              subst hr
              exact .inr rfl) hp
          simpa [encRow] using this
        · have hn : 0 ≤ i ∧ i < f.scenes.length := hii.resolve_left hm1
          have hsc : f.scenes[i.toNat]? = some f.scenes[i.toNat] := List.getElem?_eq_getElem (by omega)
          generalize f.scenes[i.toNat] = sc at hsc
          simp [hm1, nin_nil]
          unfold b_law_hours_10
          simp [ixF2, hn.1, hsc]
          unfold b_law_hours_11
          have ic : ∀ st, inA false inD (.int who) (encN sc.cast) st = .ok (.bl (decide (∃ a ∈ sc.cast, ((a : Nat) : Int) = who))) st := fun st => in_cast
          have e5 : ∀ st, ixA (encSc sc) (.int 5) st = .ok (encN sc.cast) st := fun st => by simp [encSc]
          have e3 : ∀ st, ixA (encSc sc) (.int 3) st = .ok (.int sc.mins) st := fun st => by simp [encSc]
          have e1 : ∀ st, ixA (encSc sc) (.int 1) st = .ok (.int (sc.place : Nat)) st := fun st => by simp [encSc]
          by_cases hin : ∃ a ∈ sc.cast, ((a : Nat) : Int) = who
          · simp [e5, ic, hin]
            rw [if_pos (by omega), wp_ok]
            have := fin rows (fallen ++ [i]) clock place (by simp) (by simp) (fun r hr => .inl hr) hp
            simpa using this
          · simp [e5, ic, hin]
            unfold b_law_hours_14
            have last : ∀ clock2 : Int, wpS (b_law_hours_16 [some (encF f), some (.tup [.int call, .tup (a.map .int), .tup (b.map .int)]), some (.tup []), some (.tup [.str w, .int who, .int 0]), some (.int clock2), some place, some (.loc st.length), some (.loc (st.length + 1)), some (.int i), some (encSc sc)] (st ++ [some (.lst (rows.map encRow)), some (.lst (fallen.map .int))]))
                ⟨fun vs2 st2 => HI (suf.map .int) ((vs2.set 8 none).set 9 none) st2, fun d st' => wp (gcRet st d st') fun d st' => ∃ rows x, d = .tup [.tup (rows.map encRow), x] ∧ st' = st ∧ RsOk f.scenes.length rows, fun _ _ => False, fun _ _ => False⟩ := fun clock2 => by
              unfold b_law_hours_16
              simp [e1]
              unfold b_law_hours_17
              simp [e3]
              rw [if_pos (by omega), wp_ok]
              simp
              unfold b_law_hours_18
              simp [e3]
              have := fin (rows ++ [⟨i, clock2, clock2 + sc.mins⟩]) fallen (clock2 + sc.mins) (.int (sc.place : Nat)) (by simp) (by simp) (fun r hr => by
                rcases List.mem_append.mp hr with hr | hr
                · exact .inl hr
                · rw [List.mem_singleton] at hr
                  subst hr
                  exact .inr rfl) (.inr ⟨_, rfl⟩)
              simpa [encRow] using this
            rcases hp with rfl | ⟨p, rfl⟩
            · simp [e1]
              exact wpS_mono (last clock) (fun _ _ h => h) (fun _ _ h => h) (fun _ _ h => h.elim) (fun _ _ h => h.elim)
            · by_cases he : p = (sc.place : Int)
              · simp [e1, he]
                subst he
                exact wpS_mono (last clock) (fun _ _ h => h) (fun _ _ h => h) (fun _ _ h => h.elim) (fun _ _ h => h.elim)
              · simp [e1, he, ixF4]
                exact wpS_mono (last (clock + f.move)) (fun _ _ h => h) (fun _ _ h => h) (fun _ _ h => h.elim) (fun _ _ h => h.elim)
    · rw [hHI] at hI
      obtain ⟨pre, suf, rows, fallen, clock, place, hs, hl2, rfl, r1, r2, r3, hp, rfl⟩ := hI
      have e : suf = [] := by
        cases suf with
        | nil => rfl
        | cons _ _ => cases hl2
      subst e
      rw [List.append_nil] at hs
      subst hs
      unfold b_law_hours_19
      simp [srt_ints]
      have hl1 : lfs (rows.map encRow) = true := lfs_map lf_encRow
      have hl2 : lfs ((fallen.map D.int).mergeSort leDt) = true := lfs_all.mpr fun d hd => by
        have := (List.mergeSort_perm _ _).mem_iff.mp hd
        obtain ⟨k, _, rfl⟩ := List.mem_map.mp this
        simp
      simp [hl1, hl2]
      exact ⟨rows, rfl, Nat.le_trans r1 hi.1, r3⟩
  obtain ⟨d, st', e, rows, x, rfl, rfl, h⟩ := wp_ex hw
  exact ⟨rows, x, e, h⟩
end Lk14
namespace Lk14
open PySem Dn
theorem rg2 : ∀ p : Nat, p < 128 → rgOk 0 ((2 * p : Nat) : Int) 2 = true ∧ (Builtin.Range.rangeSize 0 ((2 * p : Nat) : Int) 2).toNat = p := by decide +kernel
theorem atI_last {xs : List D} {z : D} : L2.atI (xs ++ [z]) (-1) = some z := by
  unfold L2.atI L2.ixN
  rw [if_neg (by omega), if_pos (by simp; omega)]
  simp
  have e : (-1 + ((xs.length : Int) + 1)).toNat = xs.length := by omega
  rw [e]
  simp
def castOf (f : Film) (item : Int) : List Nat := match f.scenes[item.toNat]? with
  | some sc => sc.cast
  | none => []
def mine (f : Film) (actor : Nat) (r : Row) : Bool := decide (0 ≤ r.item) && decide (actor ∈ castOf f r.item)
def figOf (f : Film) : List Row → Option Int
  | [] => none
  | a :: r => some (((a :: r).getLast (by simp)).e - (if a.b - f.bef > 0 then a.b - f.bef else 0))
def fig (f : Film) (rows : List Row) (actor : Nat) : Option Int := figOf f (rows.filter (mine f actor))
def FigIs (d : D) : Option Int → Prop
  | none => d = .non
  | some v => ∃ l, d = .tup l ∧ l[2]? = some (.int v)
theorem cast_at {f : Film} {item : Int} {actor : Nat} {st : Store} (h0 : 0 ≤ item) (h1 : item < f.scenes.length) : ∃ sc, f.scenes[item.toNat]? = some sc ∧ castOf f item = sc.cast := by
  have hsc : f.scenes[item.toNat]? = some f.scenes[item.toNat] := List.getElem?_eq_getElem (by omega)
  exact ⟨_, hsc, by unfold castOf; rw [hsc]⟩
def dark (l d b e : Int) : Int := e - b - (if (if d < e then d else e) - (if l > b then l else b) > 0 then (if d < e then d else e) - (if l > b then l else b) else 0)
theorem dark_ok {l d b e : Int} {st : Store} : m_dark_minutes [.int l, .int d, .int b, .int e] st = .ok (.int (dark l d b e)) st := by
  refine wp_eq ?_
  unfold m_dark_minutes
  rw [wp_fnD]
  unfold b_dark_minutes
  have hm : ∀ i j : Int, ∀ st, minB [.int i, .int j] st = .ok (.int (if j < i then j else i)) st := fun i j st => rfl
  simp [hm, max2_int, dark]
theorem stretch_ok {rows : List Row} {call wrap : Int} {st : Store} : ∃ x : Int, m_longest_stretch [.tup (rows.map encRow), .int call, .int wrap] st = .ok (.int x) st := by
  have hw : wp (m_longest_stretch [.tup (rows.map encRow), .int call, .int wrap] st) fun v st' => st' = st ∧ ∃ x : Int, v = .int x := by
    unfold m_longest_stretch
    rw [wp_fnD]
    unfold b_longest_stretch
    simp
    unfold b_longest_stretch_2
    simp
    unfold b_longest_stretch_3
    simp [sFor_wp]
    obtain ⟨HI, hHI⟩ : ∃ HI : List D → Vars → Store → Prop, HI = fun l vs st1 => ∃ (suf : List Row) (lo s0 : Int), l = suf.map encRow ∧ st1 = st ∧ vs = [some (.tup (rows.map encRow)), some (.int call), some (.int wrap), some (.int lo), some (.int s0), none, none, none] := ⟨_, rfl⟩
    refine forGo_wp HI (fun _ _ _ _ => trivial) (fun d l vs st1 hI => ?_) (fun vs st1 hI => ?_) _ _ _ (by rw [hHI]; exact ⟨rows, 0, call, rfl, rfl, rfl⟩)
    · rw [hHI] at hI
      obtain ⟨suf, lo, s0, hl2, hst, rfl⟩ := hI
      cases suf with
      | nil => cases hl2
      | cons r suf =>
        injection hl2 with e1 e2
        subst e1 e2
        refine ⟨_, rfl, ?_⟩
        have fin : ∀ lo2 s2 : Int, HI (suf.map encRow) [some (.tup (rows.map encRow)), some (.int call), some (.int wrap), some (.int lo2), some (.int s2), none, none, none] st1 := fun lo2 s2 => by
          rw [hHI]
          exact ⟨suf, lo2, s2, rfl, hst, rfl⟩
        clear hHI
        have ed : d_MEAL = .int (-1) := rfl
        unfold b_longest_stretch_4
        by_cases h1 : r.item = -1
        · by_cases h2 : call ≤ r.b
          · by_cases h3 : r.e ≤ wrap
            · simp [encRow, ed, h1, h2, h3]
              unfold b_longest_stretch_5
              simp [max2_int]
              unfold b_longest_stretch_6
              simp
              exact fin _ _
            · simp [encRow, ed, h1, h2, h3]
              exact fin _ _
          · simp [encRow, ed, h1, h2]
            exact fin _ _
        · simp [encRow, ed, h1]
          exact fin _ _
    · rw [hHI] at hI
      obtain ⟨suf, lo, s0, hl2, rfl, rfl⟩ := hI
      unfold b_longest_stretch_7
      simp [max2_int]
  obtain ⟨v, st', e, rfl, x, rfl⟩ := wp_ex hw
  exact ⟨x, e⟩
theorem figures_ok {m days : Nat} {f : Film} {cal : Calx} {rows : List Row} {actor : Nat} {st : Store} (hf : FilmOk m f) (hc : CalOk f.places.length f.actors.length days cal) (hd : 0 < days) (hr : RsOk f.scenes.length rows) :
    ∃ d, m_figures_of [encF f, encC cal, .int 0, .tup (rows.map encRow), .int (actor : Nat), .tup [.int (-1), .int 0]] st = .ok d st ∧ FigIs d (fig f rows actor) := by
  have hw : wp (m_figures_of [encF f, encC cal, .int 0, .tup (rows.map encRow), .int (actor : Nat), .tup [.int (-1), .int 0]] st) fun d st' => st' = st ∧ FigIs d (fig f rows actor) := by
    unfold m_figures_of
    rw [wp_fnD]
    unfold b_figures_of
    have hrl := hr.1
    have ed : d_MEAL = .int (-1) := rfl
    have ed2 : d_DAY = .int 1440 := rfl
    have ed3 : d_NO_REST = .int 9999 := rfl
    simp [eComp_wp]
    refine ⟨by omega, ?_⟩
    rw [compGo_fmap (p := mine f actor) (h := fun r : Row => D.tup [.int r.b, .int r.e]) trivial fun r hrm => ⟨_, rfl, by
      rcases hr.2 r hrm with h | ⟨h0, h1⟩
      · simp [encRow, ed, h, mine]
      · obtain ⟨sc, s1, s2⟩ := cast_at (f := f) (actor := actor) (st := st) h0 h1
        have hn : ¬ r.item = -1 := by omega
        have ic : ∀ st, inA false inD (.int (actor : Int)) (encN sc.cast) st = .ok (.bl (decide (actor ∈ sc.cast))) st := fun st => in_nats (xs := sc.cast) (i := actor) (y := encN sc.cast) rfl
        have e5 : ∀ st, ixA (encSc sc) (.int 5) st = .ok (encN sc.cast) st := fun st => by simp [encSc]
        simp [encRow, ed, hn, mine, h0, ixF2, s1, e5, ic, s2], fun _ => by simp [encRow]⟩]
    unfold fig
    have hol : (rows.filter (mine f actor)).length ≤ 100 := Nat.le_trans (List.length_filter_le _ _) hrl
    generalize rows.filter (mine f actor) = own at *
    cases own with
    | nil => simp [truthB_lst, figOf, FigIs]
    | cons a r =>
      obtain ⟨ys, z, hyz⟩ : ∃ ys z, a :: r = ys ++ [z] := ⟨(a :: r).dropLast, (a :: r).getLast (by simp), (List.dropLast_concat_getLast (by simp)).symm⟩
      have hz : (a :: r).getLast (by simp) = z := by simp [hyz]
      have elast : ∀ st, ixA (.lst ((a :: r).map fun r : Row => D.tup [.int r.b, .int r.e])) (.int (-1)) st = .ok (.tup [.int z.b, .int z.e]) st := fun st => by
        rw [hyz, List.map_append, List.map_cons, List.map_nil, ixA_lst, atI_last]
      have ehead : ∀ st, ixA (.lst ((a :: r).map fun r : Row => D.tup [.int r.b, .int r.e])) (.int 0) st = .ok (.tup [.int a.b, .int a.e]) st := fun st => by simp
      have xC0 : ∀ st, ixA (encC cal) (.int 0) st = .ok (.tup (cal.lights.map encL)) st := fun st => by simp [encC]
      obtain ⟨li, hli⟩ : ∃ li, cal.lights[0]? = some li := ⟨_, List.getElem?_eq_getElem (by rw [hc.li]; exact hd)⟩
      have htr : ∀ st, truthB st (.lst ((a :: r).map fun r : Row => D.tup [.int r.b, .int r.e])) = some true := fun st => rfl
      have hits : ∀ st, itsOf st (.lst ((a :: r).map fun r : Row => D.tup [.int r.b, .int r.e])) = some ((a :: r).map (fun r : Row => D.tup [.int r.b, .int r.e]), []) := fun st => rfl
      have hlen : ∀ st, lenB st (.lst ((a :: r).map fun r : Row => D.tup [.int r.b, .int r.e])) = some (a :: r).length := fun st => by simp
      have hfig : figOf f (a :: r) = some (z.e - (if a.b - f.bef > 0 then a.b - f.bef else 0)) := by
        show some _ = some _
        rw [hz]
      rw [hfig]
      clear hyz hz hfig
      generalize hO : (a :: r) = O at *
      have hOl : O.length ≤ 1000000 := by omega
      simp [htr, ehead, ixF4, max2_int, elast, xC0, hli, encL, eComp_wp]
      refine ⟨by omega, ?_⟩
      rw [compGo_map (h := fun r : Row => D.int (r.e - r.b)) trivial fun r _ => ⟨_, rfl, by simp⟩]
      simp [eComp_wp]
      refine ⟨by omega, ?_⟩
      rw [compGo_map (h := fun r : Row => D.int (dark li.1 li.2 r.b r.e)) trivial fun r _ => ⟨_, rfl, by simp [dark_ok]⟩]
      obtain ⟨x, hx⟩ := stretch_ok (rows := rows) (call := if f.bef < a.b then a.b - f.bef else 0) (wrap := z.e) (st := st)
      simp [hx, ed3]
      exact ⟨_, rfl, rfl⟩
  obtain ⟨d, st', e, rfl, h⟩ := wp_ex hw
  exact ⟨d, e, h⟩
end Lk14
namespace Lk14
open PySem Dn
theorem law_figures_ok {m days : Nat} {f : Film} {cal : Calx} {rows : List Row} {actor : Nat} {st : Store} (hf : FilmOk m f) (hc : CalOk f.places.length f.actors.length days cal) (hd : 0 < days) (hr : RsOk f.scenes.length rows) :
    ∃ d, m_law_figures [encF f, encC cal, .int 0, .tup (rows.map encRow), .int (actor : Nat), .tup [.int (-1), .int 0]] st = .ok d st ∧ FigIs d (fig f rows actor) := by
  have hw : wp (m_law_figures [encF f, encC cal, .int 0, .tup (rows.map encRow), .int (actor : Nat), .tup [.int (-1), .int 0]] st) fun d st' => st' = st ∧ FigIs d (fig f rows actor) := by
    unfold m_law_figures
    rw [wp_fnD]
    unfold b_law_figures
    have hrl := hr.1
    simp [eComp_wp]
    refine ⟨by omega, ?_⟩
    rw [compGo_fmap (p := mine f actor) (h := encRow) trivial fun r hrm => ⟨_, rfl, by
      rcases hr.2 r hrm with h | ⟨h0, h1⟩
      · simp [encRow, h, mine]
      · obtain ⟨sc, s1, s2⟩ := cast_at (f := f) (actor := actor) (st := st) h0 h1
        have ic : ∀ st, inA false inD (.int (actor : Int)) (encN sc.cast) st = .ok (.bl (decide (actor ∈ sc.cast))) st := fun st => in_nats (xs := sc.cast) (i := actor) (y := encN sc.cast) rfl
        have e5 : ∀ st, ixA (encSc sc) (.int 5) st = .ok (encN sc.cast) st := fun st => by simp [encSc]
        simp [encRow, mine, h0, ixF2, s1, e5, ic, s2], fun _ => by simp⟩]
    unfold fig
    have hol : (rows.filter (mine f actor)).length ≤ 100 := Nat.le_trans (List.length_filter_le _ _) hrl
    generalize rows.filter (mine f actor) = own at *
    simp
    unfold b_law_figures_2
    cases own with
    | nil => simp [figOf, FigIs]
    | cons a r =>
      obtain ⟨ys, z, hyz⟩ : ∃ ys z, a :: r = ys ++ [z] := ⟨(a :: r).dropLast, (a :: r).getLast (by simp), (List.dropLast_concat_getLast (by simp)).symm⟩
      have hz : (a :: r).getLast (by simp) = z := by simp [hyz]
      have elast : ∀ st, ixA (.lst ((a :: r).map encRow)) (.int (-1)) st = .ok (encRow z) st := fun st => by
        rw [hyz, List.map_append, List.map_cons, List.map_nil, ixA_lst, atI_last]
      have ehead : ∀ st, ixA (.lst ((a :: r).map encRow)) (.int 0) st = .ok (encRow a) st := fun st => by simp
      have xC0 : ∀ st, ixA (encC cal) (.int 0) st = .ok (.tup (cal.lights.map encL)) st := fun st => by simp [encC]
      obtain ⟨li, hli⟩ : ∃ li, cal.lights[0]? = some li := ⟨_, List.getElem?_eq_getElem (by rw [hc.li]; exact hd)⟩
      have hfig : figOf f (a :: r) = some (z.e - (if a.b - f.bef > 0 then a.b - f.bef else 0)) := by
        show some _ = some _
        rw [hz]
      have hpos : ¬ (a :: r).length = 0 := by simp
      rw [hfig]
      clear hyz hz hfig
      generalize hO : (a :: r) = O at *
      have hOl : O.length ≤ 1000000 := by omega
      have hne : ¬ O = [] := by
        intro h
        rw [h] at hpos
        exact hpos rfl
      simp [hne]
      unfold b_law_figures_4
      have ea1 : ∀ st, ixA (encRow a) (.int 1) st = .ok (.int a.b) st := fun st => by simp [encRow]
      have ez2 : ∀ st, ixA (encRow z) (.int 2) st = .ok (.int z.e) st := fun st => by simp [encRow]
      simp [ehead, ea1, ixF4, max2_int]
      generalize hcl : (if f.bef < a.b then a.b - f.bef else 0) = call
      have hcl2 : (if a.b - f.bef > 0 then a.b - f.bef else 0) = call := by
        rw [← hcl]
        by_cases h : f.bef < a.b
        · rw [if_pos h, if_pos (by omega)]
        · rw [if_neg h, if_neg (by omega)]
      rw [hcl2]
      unfold b_law_figures_5
      simp [elast, ez2]
      unfold b_law_figures_6
      simp [xC0, hli, encL]
      unfold b_law_figures_7
      simp
      unfold b_law_figures_8
      simp [sFor_wp]
      obtain ⟨HI, hHI⟩ : ∃ HI : List D → Vars → Store → Prop, HI = fun l vs st1 => ∃ (suf : List Row) (night : Int), l = suf.map encRow ∧ st1 = st ∧ vs = [some (encF f), some (encC cal), some (.int 0), some (.tup (rows.map encRow)), some (.int (actor : Nat)), some (.tup [.int (-1), .int 0]), some (.lst (O.map encRow)), none, some (.int call), some (.int z.e), some (.int li.1), some (.int li.2), some (.int night), none, none, none, none, none, none, none, none, none] := ⟨_, rfl⟩
      have hm : ∀ i j : Int, ∀ st, minB [.int i, .int j] st = .ok (.int (if j < i then j else i)) st := fun i j st => rfl
      refine forGo_wp HI (fun _ _ _ _ => trivial) (fun d l vs st1 hI => ?_) (fun vs st1 hI => ?_) _ _ _ (by rw [hHI]; exact ⟨O, 0, rfl, rfl, rfl⟩)
      · rw [hHI] at hI
        obtain ⟨suf, night, hl2, hst, rfl⟩ := hI
        cases suf with
        | nil => cases hl2
        | cons q suf =>
          injection hl2 with e1 e2
          subst e1 e2
          refine ⟨_, rfl, ?_⟩
          unfold b_law_figures_9
          simp [encRow, hm, max2_int]
          rw [hHI]
          exact ⟨suf, _, rfl, hst, rfl⟩
      · rw [hHI] at hI
        obtain ⟨suf, night, hl2, rfl, rfl⟩ := hI
        clear hHI HI
        unfold b_law_figures_10
        simp
        unfold b_law_figures_11
        simp [sFor_wp]
        obtain ⟨HI, hHI⟩ : ∃ HI : List D → Vars → Store → Prop, HI = fun l vs st2 => ∃ (pre suf : List Row) (parts : List Int) (p : Nat), rows = pre ++ suf ∧ l = suf.map encRow ∧ st2 = st1 ++ [some (.lst (parts.map .int))] ∧ parts.length = 2 * p + 1 ∧ p ≤ pre.length ∧ vs = [some (encF f), some (encC cal), some (.int 0), some (.tup (rows.map encRow)), some (.int (actor : Nat)), some (.tup [.int (-1), .int 0]), some (.lst (O.map encRow)), none, some (.int call), some (.int z.e), some (.int li.1), some (.int li.2), some (.int night), none, none, none, some (.loc st1.length), none, none, none, none, none] := ⟨_, rfl⟩
        refine forGo_wp HI (fun _ _ _ _ => trivial) (fun d l vs st2 hI => ?_) (fun vs st2 hI => ?_) _ _ _ (by rw [hHI]; exact ⟨[], rows, [call], 0, rfl, rfl, rfl, rfl, Nat.zero_le _, rfl⟩)
        · rw [hHI] at hI
          obtain ⟨pre, suf, parts, p, hs, hl2, hst, p1, p2, rfl⟩ := hI
          subst hst
          cases suf with
          | nil => cases hl2
          | cons q suf =>
            injection hl2 with e1 e2
            subst e1 e2
            have hpl : pre.length + 1 ≤ rows.length := by rw [hs]; simp
            refine ⟨_, rfl, ?_⟩
            have fin : ∀ (parts2 : List Int) (p' : Nat), parts2.length = 2 * p' + 1 → p' ≤ p + 1 → HI (suf.map encRow) [some (encF f), some (encC cal), some (.int 0), some (.tup (rows.map encRow)), some (.int (actor : Nat)), some (.tup [.int (-1), .int 0]), some (.lst (O.map encRow)), none, some (.int call), some (.int z.e), some (.int li.1), some (.int li.2), some (.int night), none, none, none, some (.loc st1.length), none, none, none, none, none] (st1 ++ [some (.lst (parts2.map .int))]) := fun parts2 p' k1 k2 => by
              rw [hHI]
              exact ⟨pre ++ [q], suf, parts2, p', by rw [hs]; simp, rfl, rfl, k1, by simp; omega, rfl⟩
            clear hHI
            unfold b_law_figures_12
            by_cases c1 : q.item < 0
            · by_cases c2 : call ≤ q.b
              · by_cases c3 : q.e ≤ z.e
                · simp [encRow, c1, c2, c3]
                  rw [if_pos (by omega), wp_ok]
                  simpa using fin (parts ++ [q.b, q.e]) (p + 1) (by simp; omega) (by omega)
                · simp [encRow, c1, c2, c3]
                  exact fin parts p p1 (by omega)
              · simp [encRow, c1, c2]
                exact fin parts p p1 (by omega)
            · simp [encRow, c1]
              exact fin parts p p1 (by omega)
        · rw [hHI] at hI
          obtain ⟨pre, suf, parts, p, hs, hl2, hst, p1, p2, rfl⟩ := hI
          subst hst
          clear hHI HI
          have hpr : pre.length ≤ rows.length := by rw [hs]; simp
          unfold b_law_figures_14
          simp
          rw [if_pos (by omega), wp_ok]
          simp
          unfold b_law_figures_15
          have epl : (parts ++ [z.e]).length = 2 * (p + 1) := by simp; omega
          obtain ⟨g1, g2⟩ := rg2 (p + 1) (by omega)
          have eq0 : parts.map D.int ++ [.int z.e] = (parts ++ [z.e]).map .int := by simp
          rw [eq0]
          generalize hPP : parts ++ [z.e] = PP at *
          have hlo : ∀ st2 : Store, st2 = st1 ++ [some (.lst (PP.map .int))] → lenB st2 (.loc st1.length) = some (2 * (p + 1)) := fun st2 h => by
            rw [h, lenB_lo (ds := PP.map .int) (by simp)]
            simp [epl]
          have pk : ∀ k : Nat, k < PP.length → ixA (.loc st1.length) (.int (k : Int)) (st1 ++ [some (.lst (PP.map .int))]) = .ok (.int (PP.getD k 0)) (st1 ++ [some (.lst (PP.map .int))]) := fun k hk => by
            rw [ixA_loc (ds := PP.map .int) (by simp), atI_pos (by omega)]
            have : PP[k]? = some (PP.getD k 0) := by
              rw [List.getD_eq_getElem?_getD, List.getElem?_eq_getElem hk]
              rfl
            rw [Int.toNat_natCast, List.getElem?_map, this]
            rfl
          unfold iR3
          simp [-lenB_loc, hlo, eComp_wp]
          have ec : (2 * ((p : Int) + 1)) = ((2 * (p + 1) : Nat) : Int) := by simp
          rw [ec, g1, g2, if_pos rfl, wp_ok]
          have erg : rngC 0 2 (p + 1) = (List.range (p + 1)).map fun i : Nat => D.int (2 * (i : Int)) := by
            unfold rngC
            refine List.map_congr_left fun i _ => ?_
            rw [show (0 + (i : Int) * 2) = 2 * (i : Int) by omega]
          simp only
          rw [erg]
          have hroom : room ((List.range (p + 1)).map fun i : Nat => D.int (2 * (i : Int))).length := by
            rw [List.length_map, List.length_range]
            show p + 1 ≤ 1000000
            omega
          refine ⟨hroom, ?_⟩
          rw [compGo_map (h := fun i : Nat => D.int (PP.getD (2 * i + 1) 0 - PP.getD (2 * i) 0)) trivial fun i hi => ⟨_, rfl, by
            have hi := List.mem_range.mp hi
            have h1 := pk (2 * i) (by omega)
            have h2 := pk (2 * i + 1) (by omega)
            have k1 : ixA (.loc st1.length) (.int (2 * (i : Int))) (st1 ++ [some (.lst (PP.map .int))]) = .ok (.int (PP.getD (2 * i) 0)) (st1 ++ [some (.lst (PP.map .int))]) := by
              have e : ((2 * i : Nat) : Int) = 2 * (i : Int) := by simp
              rw [← e]; exact h1
            have k2 : ixA (.loc st1.length) (.int (2 * (i : Int) + 1)) (st1 ++ [some (.lst (PP.map .int))]) = .ok (.int (PP.getD (2 * i + 1) 0)) (st1 ++ [some (.lst (PP.map .int))]) := by
              have e : ((2 * i + 1 : Nat) : Int) = 2 * (i : Int) + 1 := by simp
              rw [← e]; exact h2
            generalize PP.getD (2 * i) 0 = u1 at k1 ⊢
            generalize PP.getD (2 * i + 1) 0 = u2 at k2 ⊢
            simp [k1, k2, -Dn.ixA_intkey]⟩]
          have emx : ∀ st2, maxD [.lst ((List.range (p + 1)).map fun i : Nat => D.int (PP.getD (2 * i + 1) 0 - PP.getD (2 * i) 0))] st2 = .ok (.int (maxI ((List.range (p + 1)).map fun i : Nat => PP.getD (2 * i + 1) 0 - PP.getD (2 * i) 0))) st2 := fun st2 =>
            max1_ints (intsOf_ints (f := fun i : Nat => PP.getD (2 * i + 1) 0 - PP.getD (2 * i) 0)) (by simp)
          generalize ((List.range (p + 1)).map fun i : Nat => D.int (PP.getD (2 * i + 1) 0 - PP.getD (2 * i) 0)) = LL at emx ⊢
          generalize maxI ((List.range (p + 1)).map fun i : Nat => PP.getD (2 * i + 1) 0 - PP.getD (2 * i) 0) = M at emx
          simp [emx]
          unfold b_law_figures_16
          simp
          unfold b_law_figures_17
          simp
          unfold b_law_figures_18
          simp [eComp_wp]
          refine ⟨by omega, ?_⟩
          rw [compGo_map (h := fun r : Row => D.int (r.e - r.b)) trivial fun r _ => ⟨_, rfl, by simp [encRow]⟩]
          simp
          unfold b_law_figures_19
          simp
          exact ⟨_, rfl, rfl⟩
  obtain ⟨d, st', e, rfl, h⟩ := wp_ex hw
  exact ⟨d, e, h⟩
end Lk14
namespace Lk14
open PySem Dn
def pay (fees : List Fee) (a : Nat) : Option Int → Int
  | none => 0
  | some v => cost (fees.getD a (0, [])) v
def tot (f : Film) (fees : List Fee) (rows : List Row) : Nat → Int
  | 0 => 0
  | a + 1 => tot f fees rows a + pay fees a (fig f rows a)
theorem fee_at {fees : List Fee} {a : Nat} (h : a < fees.length) : fees[a]? = some (fees.getD a (0, [])) := by
  rw [List.getD_eq_getElem?_getD, List.getElem?_eq_getElem h]
  rfl
section
variable {m days : Nat} {f : Film} {cal : Calx} {rows : List Row} {fees : List Fee} (hf : FilmOk m f) (hc : CalOk f.places.length f.actors.length days cal) (hd : 0 < days) (hr : RsOk f.scenes.length rows) (hl : fees.length = f.actors.length) (ho : ∀ x ∈ fees, FeeOk x)
include hf hc hd hr hl ho
theorem cost_of_ok {st : Store} : m_cost_of [encF f, encC cal, .tup (fees.map encFee), .int 0, .tup (rows.map encRow)] st = .ok (.int (tot f fees rows f.actors.length)) st := by
  obtain ⟨n1, n2⟩ := hf.ac
  have ixF1 : ∀ st, ixA (encF f) (.int 1) st = .ok (.tup (f.actors.map encA)) st := fun st => by simp [encF]
  refine wp_eq ?_
  unfold m_cost_of
  rw [wp_fnD]
  unfold b_cost_of
  simp [ixF1, sFor_wp, fitR_of (i := (f.actors.length : Int)) (by omega) (by omega)]
  obtain ⟨HI, hHI⟩ : ∃ HI : List D → Vars → Store → Prop, HI = fun l vs st1 => ∃ j, l = (rng 0 f.actors.length).drop j ∧ j ≤ f.actors.length ∧ st1 = st ∧ vs = [some (encF f), some (encC cal), some (.tup (fees.map encFee)), some (.int 0), some (.tup (rows.map encRow)), some (.int (tot f fees rows j)), none, none] := ⟨_, rfl⟩
  refine forGo_wp HI (fun _ _ _ _ => trivial) (fun d l vs st1 hI => ?_) (fun vs st1 hI => ?_) _ _ _ (by rw [hHI]; exact ⟨0, rfl, Nat.zero_le _, rfl, rfl⟩)
  · rw [hHI] at hI
    obtain ⟨j, hj, hj2, hst, rfl⟩ := hI
    subst hst
    obtain ⟨j3, rfl, rfl⟩ := rng_drop hj.symm
    rw [Int.zero_add]
    refine ⟨_, rfl, ?_⟩
    obtain ⟨d, e, hd2⟩ := figures_ok (st := st1) (actor := j) hf hc hd hr
    have fin : HI ((rng 0 f.actors.length).drop (j + 1)) [some (encF f), some (encC cal), some (.tup (fees.map encFee)), some (.int 0), some (.tup (rows.map encRow)), some (.int (tot f fees rows j + pay fees j (fig f rows j))), none, none] st1 := by
      rw [hHI]
      exact ⟨j + 1, rfl, j3, rfl, rfl⟩
    clear hHI
    have hfe := fee_at (fees := fees) (a := j) (by omega)
    have hfo : FeeOk (fees.getD j (0, [])) := ho _ (List.mem_of_getElem? hfe)
    cases hF : fig f rows j with
    | none =>
      rw [hF] at hd2 fin
      have hd2 : d = .non := hd2
      subst hd2
      simp [e]
      simpa [pay] using fin
    | some v =>
      rw [hF] at hd2 fin
      obtain ⟨l, rfl, h2⟩ := hd2
      have fin : HI ((rng 0 f.actors.length).drop (j + 1)) [some (encF f), some (encC cal), some (.tup (fees.map encFee)), some (.int 0), some (.tup (rows.map encRow)), some (.int (tot f fees rows j + cost (fees.getD j (0, [])) v)), none, none] st1 := fin
      generalize fees.getD j (0, []) = fe at *
      have dc := fun st => day_cost_ok (f := fe) (span := v) (st := st) hfo
      simp [e, hfe, h2, dc, iaddD]
      exact fin
  · rw [hHI] at hI
    obtain ⟨j, hj, hj2, hst, rfl⟩ := hI
    subst hst
    have ej : j = f.actors.length := by
      have := rng_end hj
      omega
    subst ej
    simp
theorem turn_ok {c : Option Ob} {t : Store} {v0 v2 v3 v4 v5 v6 v7 v11 : Option D} {P : Po} (hP : P.n [v0, some (.loc 0), v2, v3, v4, v5, v6, v7, some (encF f), some (encC cal), some (.tup (fees.map encFee)), v11, some (.tup (rows.map encRow)), some (.int (tot f fees rows f.actors.length)), none, none] (c :: t)) :
    wpS (b_law_15 [v0, some (.loc 0), v2, v3, v4, v5, v6, v7, some (encF f), some (encC cal), some (.tup (fees.map encFee)), v11, some (.tup (rows.map encRow)), none, none, none] (c :: t)) P := by
  obtain ⟨n1, n2⟩ := hf.ac
  have ixF1 : ∀ st, ixA (encF f) (.int 1) st = .ok (.tup (f.actors.map encA)) st := fun st => by simp [encF]
  unfold b_law_15
  simp
  unfold b_law_16
  simp [ixF1, sFor_wp, fitR_of (i := (f.actors.length : Int)) (by omega) (by omega)]
  obtain ⟨HI, hHI⟩ : ∃ HI : List D → Vars → Store → Prop, HI = fun l vs st1 => ∃ j, l = (rng 0 f.actors.length).drop j ∧ j ≤ f.actors.length ∧ st1 = c :: t ∧ vs = [v0, some (.loc 0), v2, v3, v4, v5, v6, v7, some (encF f), some (encC cal), some (.tup (fees.map encFee)), v11, some (.tup (rows.map encRow)), some (.int (tot f fees rows j)), none, none] := ⟨_, rfl⟩
  refine forGo_wp HI (fun _ _ _ _ => trivial) (fun d l vs st1 hI => ?_) (fun vs st1 hI => ?_) _ _ _ (by rw [hHI]; exact ⟨0, rfl, Nat.zero_le _, rfl, rfl⟩)
  · rw [hHI] at hI
    obtain ⟨j, hj, hj2, hst, rfl⟩ := hI
    obtain ⟨j3, rfl, rfl⟩ := rng_drop hj.symm
    rw [Int.zero_add]
    refine ⟨_, rfl, ?_⟩
    obtain ⟨d, e, hd2⟩ := law_figures_ok (st := st1) (actor := j) hf hc hd hr
    have fin : HI ((rng 0 f.actors.length).drop (j + 1)) [v0, some (.loc 0), v2, v3, v4, v5, v6, v7, some (encF f), some (encC cal), some (.tup (fees.map encFee)), v11, some (.tup (rows.map encRow)), some (.int (tot f fees rows j + pay fees j (fig f rows j))), none, none] st1 := by
      rw [hHI]
      exact ⟨j + 1, rfl, j3, hst, rfl⟩
    clear hHI hst
    have hfe := fee_at (fees := fees) (a := j) (by omega)
    unfold b_law_17
    simp [e]
    unfold b_law_18
    cases hF : fig f rows j with
    | none =>
      rw [hF] at hd2 fin
      have hd2 : d = .non := hd2
      subst hd2
      simp
      simpa [pay] using fin
    | some v =>
      rw [hF] at hd2 fin
      obtain ⟨l, rfl, h2⟩ := hd2
      have fin : HI ((rng 0 f.actors.length).drop (j + 1)) [v0, some (.loc 0), v2, v3, v4, v5, v6, v7, some (encF f), some (encC cal), some (.tup (fees.map encFee)), v11, some (.tup (rows.map encRow)), some (.int (tot f fees rows j + cost (fees.getD j (0, [])) v)), none, none] st1 := fin
      generalize fees.getD j (0, []) = fe at *
      have dc := fun st => law_cost_ok (f := fe) (span := v) (st := st)
      simp [hfe, h2, dc]
      exact fin
  · rw [hHI] at hI
    obtain ⟨j, hj, hj2, hst, rfl⟩ := hI
    subst hst
    have ej : j = f.actors.length := by
      have := rng_end hj
      omega
    subst ej
    unfold b_law_19
    simp [cost_of_ok hf hc hd hr hl ho]
    exact hP
end
end Lk14
namespace Lk14
open PySem Dn
theorem turns_ok {ns : List Int} {f : Film} {cal : Calx} {fees : List Fee} {m days : Nat} {c : Option Ob} {t : Store} {v2 v4 v6 : Option D} {P : Po} (hf : FilmOk m f) (hm : m ≤ 60) (hc : CalOk f.places.length f.actors.length days cal) (hd : 0 < days) (hl : fees.length = f.actors.length) (ho : ∀ x ∈ fees, FeeOk x) (h : DrawOk c) (hP : ∀ st, P.r (.bl true) st) :
    wpS (b_law_13 [some (.frz (ns.map .int)), some (.loc 0), v2, none, v4, none, v6, none, some (encF f), some (encC cal), some (.tup (fees.map encFee)), none, none, none, none, none] (c :: t)) P := by
  obtain ⟨n1, n2⟩ := hf.ac
  have ixF1 : ∀ st, ixA (encF f) (.int 1) st = .ok (.tup (f.actors.map encA)) st := fun st => by simp [encF]
  unfold b_law_13
  simp [sFor_wp, fitR_of (i := 4) (by omega) (by omega)]
  obtain ⟨HI, hHI⟩ : ∃ HI : List D → Vars → Store → Prop, HI = fun l vs st1 => ∃ c1, DrawOk c1 ∧ st1 = c1 :: t ∧ vs = [some (.frz (ns.map .int)), some (.loc 0), v2, none, v4, none, v6, none, some (encF f), some (encC cal), some (.tup (fees.map encFee)), none, none, none, none, none] := ⟨_, rfl⟩
  refine forGo_wp HI (fun _ _ _ _ => trivial) (fun d l vs st1 hI => ?_) (fun vs st1 hI => ?_) _ _ _ (by rw [hHI]; exact ⟨c, h, rfl, rfl⟩)
  · rw [hHI] at hI
    obtain ⟨c1, h1, rfl, rfl⟩ := hI
    have fin : ∀ c2, DrawOk c2 → HI l [some (.frz (ns.map .int)), some (.loc 0), v2, none, v4, none, v6, none, some (encF f), some (encC cal), some (.tup (fees.map encFee)), none, none, none, none, none] (c2 :: t) := fun c2 h2 => by
      rw [hHI]
      exact ⟨c2, h2, rfl, rfl⟩
    clear hHI
    refine ⟨_, rfl, ?_⟩
    unfold b_law_14
    simp
    refine sheet_wp hf hm h1 fun call a b c2 h2 ha hb => ?_
    simp [pick_is]
    refine pick_wp h2 (by simp) (by simp) (by simp) fun w c3 h3 hw => ?_
    obtain ⟨w, rfl⟩ : ∃ z, w = .str z := by
      simp at hw
      rcases hw with rfl | rfl <;> exact ⟨_, rfl⟩
    simp [take_is, ixF1]
    refine take_wp h3 (by omega) (by omega) fun r c4 h4 _ _ => ?_
    obtain ⟨rows, x, e, hr⟩ := hours_ok (call := call) (who := r - 1) (w := w) (a := a) (b := b) (st := c4 :: t) hf ha hb
    simp [e]
    refine turn_ok hf hc hd hr hl ho ?_
    simpa using fin c4 h4
  · rw [hHI] at hI
    obtain ⟨c1, h1, rfl, rfl⟩ := hI
    unfold b_law_21
    simp
    exact hP _
theorem tries_ok {ns : List Int} {sp : List Int} {fe : Fee} {c : Option Ob} {P : Po} (hs : sp.length ≤ 10) (hfe : FeeOk fe) (h : DrawOk c) (hP : ∀ st, P.r (.bl true) st) :
    wpS (b_law_4 [some (.frz (ns.map .int)), some (.loc 0), some (.lst (sp.map .int)), none, some (encFee fe), none, none, none, none, none, none, none, none, none, none, none] [c]) P := by
  unfold b_law_4
  simp [take_is]
  refine take_wp h (by omega) (by omega) fun r c1 h1 _ _ => ?_
  simp
  unfold b_law_5
  simp [sFor_wp]
  obtain ⟨HI, hHI⟩ : ∃ HI : List D → Vars → Store → Prop, HI = fun l vs st1 => ∃ (pre suf tr : List Int) (c1 : Option Ob), sp = pre ++ suf ∧ l = suf.map .int ∧ DrawOk c1 ∧ st1 = [c1, some (.lst (tr.map .int))] ∧ tr.length ≤ 3 + 3 * pre.length ∧ vs = [some (.frz (ns.map .int)), some (.loc 0), some (.lst (sp.map .int)), none, some (encFee fe), none, some (.loc 1), none, none, none, none, none, none, none, none, none] := ⟨_, rfl⟩
  refine forGo_wp HI (fun _ _ _ _ => trivial) (fun d l vs st1 hI => ?_) (fun vs st1 hI => ?_) _ _ _ (by rw [hHI]; exact ⟨[], sp, [0, 9999, r], c1, rfl, rfl, h1, rfl, by simp, rfl⟩)
  · rw [hHI] at hI
    obtain ⟨pre, suf, tr, c2, e1, hl2, h2, rfl, ht, rfl⟩ := hI
    cases suf with
    | nil => cases hl2
    | cons s suf =>
      injection hl2 with k1 k2
      subst k1 k2
      have hpl : pre.length + 1 ≤ sp.length := by rw [e1]; simp
      have fin : ∀ (tr2 : List Int) c3, DrawOk c3 → tr2.length ≤ tr.length + 3 → HI (suf.map .int) [some (.frz (ns.map .int)), some (.loc 0), some (.lst (sp.map .int)), none, some (encFee fe), none, some (.loc 1), none, none, none, none, none, none, none, none, none] [c3, some (.lst (tr2.map .int))] := fun tr2 c3 h3 hl3 => by
        rw [hHI]
        exact ⟨pre ++ [s], suf, tr2, c3, by rw [e1]; simp, rfl, h3, rfl, by simp; omega, rfl⟩
      clear hHI
      refine ⟨_, rfl, ?_⟩
      unfold b_law_6
      simp [eComp_wp]
      refine wp_mono (compGo_draw1 (T := [some (.lst (tr.map .int))]) (Pr := IsInt) (fun _ => trivial) _ c2 h2 fun d hd c3 h3 => ?_) fun ys st hys => ?_
      · obtain ⟨i, rfl⟩ : ∃ i : Int, d = .int i := by
          simp at hd
          rcases hd with rfl | rfl | rfl <;> exact ⟨_, rfl⟩
        refine ⟨_, rfl, ?_⟩
        simp [take_is]
        refine take_wp h3 (by omega) (by omega) fun r2 c4 h4 _ _ => ?_
        simp
        exact de_of ⟨_, rfl⟩ h4
      · obtain ⟨q1, q2, c3, h3, rfl⟩ := hys
        obtain ⟨more, rfl⟩ := list_of q1
        simp at q2
        simp
        rw [if_pos (by omega), wp_ok]
        have := fin (tr ++ more) c3 h3 (by simp; omega)
        simpa using this
  · rw [hHI] at hI
    obtain ⟨pre, suf, tr, c2, e1, hl2, h2, rfl, ht, rfl⟩ := hI
    clear hHI HI
    have hpl : pre.length ≤ sp.length := by rw [e1]; simp
    unfold b_law_7
    simp [sFor_wp]
    have hits : itsOf [c2, some (.lst (tr.map .int))] (.loc 1) = some (tr.map .int, [(1, .lst (tr.map .int))]) := rfl
    simp [hits]
    obtain ⟨HI, hHI⟩ : ∃ HI : List D → Vars → Store → Prop, HI = fun l vs st1 => ∃ suf : List Int, l = suf.map .int ∧ st1 = [c2, some (.lst (tr.map .int))] ∧ vs = [some (.frz (ns.map .int)), some (.loc 0), some (.lst (sp.map .int)), none, some (encFee fe), none, some (.loc 1), none, none, none, none, none, none, none, none, none] := ⟨_, rfl⟩
    refine forGo_wp HI (fun l vs st1 hI => ?_) (fun d l vs st1 hI => ?_) (fun vs st1 hI => ?_) _ _ _ (by rw [hHI]; exact ⟨tr, rfl, rfl, rfl⟩)
    · rw [hHI] at hI
      obtain ⟨suf, _, rfl, _⟩ := hI
      exact ⟨rfl, trivial⟩
    · rw [hHI] at hI
      obtain ⟨suf, hl2, hst, rfl⟩ := hI
      cases suf with
      | nil => cases hl2
      | cons s suf =>
        injection hl2 with k1 k2
        subst k1 k2
        refine ⟨_, rfl, ?_⟩
        unfold b_law_8
        have dc := fun (v : Int) st => day_cost_ok (f := fe) (span := v) (st := st) hfe
        have lc := fun (v : Int) st => law_cost_ok (f := fe) (span := v) (st := st)
        simp [max2_int, dc, lc]
        rw [hHI]
        exact ⟨suf, rfl, hst, rfl⟩
    · rw [hHI] at hI
      obtain ⟨suf, hl2, rfl, rfl⟩ := hI
      unfold b_law_10
      simp
      refine film_wp (m := 8) (by omega) h2 fun f c3 h3 hf => ?_
      simp
      unfold b_law_11
      simp
      refine calendar_wp (days := 2) hf (by omega) h3 fun cal c4 h4 hc => ?_
      simp
      unfold b_law_12
      simp
      refine fees_wp hf h4 fun fees c5 h5 f1 f2 => ?_
      simp
      exact turns_ok hf (by omega) hc (by omega) f1 f2 h5 hP
theorem law_wp (ns : List Int) : wp (m_law [.frz (ns.map D.int)] []) fun d _ => d = .bl true := by
  unfold m_law
  rw [wp_fnD]
  unfold b_law
  obtain ⟨c0, h0, e0⟩ := begin_ok (ns := ns)
  simp [begin_is, e0]
  unfold b_law_2
  simp [take_is, eComp_wp]
  refine take_wp h0 (by omega) (by omega) fun r c1 h1 r0 r1 => ?_
  simp [fitR_of (i := r) (by omega) (by omega)]
  refine ⟨by omega, wp_mono (compGo_draw1 (T := []) (Pr := IsInt) (fun _ => trivial) _ c1 h1 fun d hd c3 h3 => ?_) fun ys st hys => ?_⟩
  · refine ⟨_, rfl, ?_⟩
    simp [take_is]
    refine take_wp h3 (by omega) (by omega) fun r4 c4 h4 _ _ => ?_
    exact de_of ⟨r4, rfl⟩ h4
  · obtain ⟨q1, q2, c3, h3, rfl⟩ := hys
    obtain ⟨is, rfl⟩ := list_of q1
    simp at q2
    have ess := ssD_ints (b := false) (x := .lst (is.map .int)) (st := [c3]) (ns := is) rfl (by omega)
    have hsl := ssI_len is
    simp [ess]
    generalize ssI is = sp at *
    unfold b_law_3
    simp [pick_is]
    refine pick_wp h3 (by simp) (by simp) (by simp) fun b c4 h4 hb => ?_
    obtain ⟨b, rfl⟩ : ∃ z : Int, b = .int z := by
      simp at hb
      rcases hb with rfl | rfl | rfl <;> exact ⟨_, rfl⟩
    simp [eComp_wp]
    refine ⟨by omega, wp_mono (compGo_draw1 (T := []) (Pr := IsStep) (fun _ => trivial) _ c4 h4 fun d hd c6 h6 => ?_) fun ys st hys => ?_⟩
    · obtain ⟨i, hi, rfl⟩ := List.mem_map.mp hd
      refine ⟨_, rfl, ?_⟩
      simp [pick_is]
      refine pick_wp h6 (by simp) (by simp) (by simp) fun p c7 h7 hp => ?_
      obtain ⟨p, rfl, p0, p1⟩ : ∃ z : Int, p = .int z ∧ 0 ≤ z ∧ z ≤ 99999 := by
        simp at hp
        rcases hp with rfl | rfl | rfl <;> exact ⟨_, rfl, by omega, by omega⟩
      simp
      exact de_of ⟨(i, p), rfl, p0, p1⟩ h7
    · obtain ⟨w1, w2, c6, h6, rfl⟩ := hys
      obtain ⟨steps, rfl, hst⟩ := list_ofP (p := fun s : Int × Int => 0 ≤ s.2 ∧ s.2 ≤ 99999) w1
      simp at w2
      simp
      have hP : ∀ st, wp (gcRet [] (.bl true) st) fun d _ => d = .bl true := fun st => by simp [gc_nil]
      exact tries_ok (fe := (b, steps)) (by omega) ⟨by show steps.length ≤ 100; omega, hst⟩ h6 hP
theorem law_true (ns : List Int) (_ : ns.length ≤ 63) : ∃ st, m_law [.frz (ns.map D.int)] [] = .ok (.bl true) st := by
  obtain ⟨d, st, e, rfl⟩ := wp_ex (law_wp ns)
  exact ⟨st, e⟩
end Lk14
open PySem PySem.W PyProof.Rows
set_option maxHeartbeats 0 in
theorem PySem.Challenge.cw_callsheets_k14_costs_of_days_holds : PySem.Challenge.rw_callsheets_k14_costs_of_days.Holds := by
  w_on; o_law; k_head; (case hw => w_witness2)
  k_fill
  refine L2.walk_of (l := PySem.Challenge.rw_callsheets_k14_costs_of_days) (n := 63) (k := 4) (x := "script") (CX := fun w => L2.CX PySem.Challenge.pw_callsheets_k14_costs_of_days w) (sp := fun w => Lk14.spLaw _) rfl (by decide) rfl ⟨rfl, by decide, by decide⟩ (fun w h Y => PySem.W.kIn_of Y) ?F (fun _ _ a ns hl _ hS => ⟨a, ns, rfl, hS, hl, fun _ => rfl⟩) (fun _ _ _ _ _ h => Dn.cx_false h)
  case F =>
    intro w mg fa h KX G hmg
    refine' Lk14.all_mk KX G hmg Lk14.law_true ?g_MEAL ?g_DAY ?g_NO_REST ?g_HALF_HOUR ?a1 ?l1 ?c1 ?k1 ?a2 ?l2 ?c2 ?k2 ?a3 ?l3 ?c3 ?k3 ?a4 ?l4 ?c4 ?k4 ?a5 ?l5 ?c5 ?k5 ?a6 ?l6 ?c6 ?k6 ?a7 ?l7 ?c7 ?k7 ?a8 ?l8 ?c8 ?k8 ?a9 ?l9 ?c9 ?k9 ?a10 ?l10 ?c10 ?k10 ?a11 ?l11 ?c11 ?k11 ?a12 ?l12 ?c12 ?k12 ?a13 ?l13 ?c13 ?k13 ?a14 ?l14 ?c14 ?k14 ?a15 ?l15 ?c15 ?k15 ?a16 ?l16 ?c16 ?k16 ?a17 ?l17 ?c17 ?k17 ?a18 ?l18 ?c18 ?k18 ?z_abs ?z_int ?z_len ?z_list ?z_max ?z_min ?z_range ?z_set ?z_sorted ?z_str ?z_sum ?z_tuple
    (case g_MEAL => k_is); (case g_DAY => k_is); (case g_NO_REST => k_is); (case g_HALF_HOUR => k_is); (case a1 => k_is); (case l1 => k_is); (case c1 => k_is); (case k1 => k_is); (case a2 => k_is); (case l2 => k_is); (case c2 => k_is); (case k2 => k_is); (case a3 => k_is); (case l3 => k_is); (case c3 => k_is); (case k3 => k_is); (case a4 => k_is); (case l4 => k_is); (case c4 => k_is); (case k4 => k_is); (case a5 => k_is); (case l5 => k_is); (case c5 => k_is); (case k5 => k_is); (case a6 => k_is); (case l6 => k_is); (case c6 => k_is); (case k6 => k_is); (case a7 => k_is); (case l7 => k_is); (case c7 => k_is); (case k7 => k_is); (case a8 => k_is); (case l8 => k_is); (case c8 => k_is); (case k8 => k_is); (case a9 => k_is); (case l9 => k_is); (case c9 => k_is); (case k9 => k_is); (case a10 => k_is); (case l10 => k_is); (case c10 => k_is); (case k10 => k_is); (case a11 => k_is); (case l11 => k_is); (case c11 => k_is); (case k11 => k_is); (case a12 => k_is); (case l12 => k_is); (case c12 => k_is); (case k12 => k_is); (case a13 => k_is); (case l13 => k_is); (case c13 => k_is); (case k13 => k_is); (case a14 => k_is); (case l14 => k_is); (case c14 => k_is); (case k14 => k_is); (case a15 => k_is); (case l15 => k_is); (case c15 => k_is); (case k15 => k_is); (case a16 => k_is); (case l16 => k_is); (case c16 => k_is); (case k16 => k_is); (case a17 => k_is); (case l17 => k_is); (case c17 => k_is); (case k17 => k_is); (case a18 => k_is); (case l18 => k_is); (case c18 => k_is); (case k18 => k_is); (case z_abs => k_is); (case z_int => k_is); (case z_len => k_is); (case z_list => k_is); (case z_max => k_is); (case z_min => k_is); (case z_range => k_is); (case z_set => k_is); (case z_sorted => k_is); (case z_str => k_is); (case z_sum => k_is); (case z_tuple => k_is)
