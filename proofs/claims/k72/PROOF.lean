import PyProof.Rows.All
import Wide.All
import OpenK.AllK
import Wide.FinOn
import HandS.ForMost
import HandS.ForExc
import HandS.TupAny
import HandS.Deep
import HandS.TupMul
import HandS.TupLe
import HandS.CallSlots
import HandS.ExcOwn
import HandS.SortInts
import KE.SortData
import HandS.WordsDict
import KE.GoesEnum
import HandS.Zip
import HandS.Small
import HandS.Strs
import KE.DataMinMax
import KE.BitLaws
import HandS.TupSets
import HandS.Iter
import KE.KExcSuper
import HandS.TryOnly
import KE.KTupSum
import HandS.Conv
import KE.KRevSl
import PySem.Challenge.RW_callsheets_k72_days_of_courses
set_option Elab.async false
set_option linter.all false
set_option maxRecDepth 100000
set_option maxHeartbeats 4000000
/-! A denotational layer over HandS: data D, a store of what may change, what an expression gives. -/
namespace Dn
open PySem PySem.Spec PyProof.Rows L2

/-- data: what never changes stands as itself, what may change stands at a place of the store -/
inductive D where
  | non | bl (b : Bool) | int (i : Int) | str (x : Str) | tup (ds : List D) | lst (ds : List D) | frz (ds : List D) | loc (n : Nat)
  | exn (a dd : Addr) (ds : List D)
  deriving Inhabited
/-- what may change -/
inductive Ob where
  | lst (ds : List D) | dct (kvs : List (Key × D)) | dtt (kvs : List (List Key × D)) | ins (c : Str) (fs : List (Str × D))
abbrev Store := List (Option Ob)
abbrev Vars := List (Option D)
/-- an exception: its class, its fields -/
structure Exn where
  c : Str
  fs : List (Str × D)

/-! ### what stands for data -/
def Ex (H H' : Hp) : Prop := ∀ a o, H a = some o → H' a = some o
theorem Ex.refl (H : Hp) : Ex H H := fun _ _ h => h
theorem Ex.trans {H H1 H2 : Hp} (a : Ex H H1) (b : Ex H1 H2) : Ex H H2 := fun x o h => b x o (a x o h)
theorem Ex.new {H : Hp} {p : Addr} {o : HO} (h : H p = none) : Ex H (upd H p o) := fun a u e => by
  rw [upd_ne (ne_of_none e h)]
  exact e
theorem Ex.free {H H' : Hp} (e : Ex H H') {p : Addr} (h : H' p = none) : H p = none := by
  cases h1 : H p with
  | none => rfl
  | some o =>
    rw [e p o h1] at h
    cases h
/-- what H does not have may change behind it -/
theorem Ex.mut {H H' : Hp} {p : Addr} {o : HO} (e : Ex H H') (h : H p = none) : Ex H (upd H' p o) := fun a u ha => by
  rw [upd_ne (ne_of_none ha h)]
  exact e a u ha
theorem Ex.rd {H H' : Hp} {a : Addr} {u : HO} (e : Ex H H') (h : Rd H a u) : Rd H' a u := by
  rcases h with h | ⟨o, h⟩
  · exact Or.inl (e a _ h)
  · exact Or.inr ⟨o, e a _ h⟩
theorem Ex.sqt {K : PySem.W.Frag} {H H' : Hp} {a : Addr} {xs : List V} (e : Ex H H') (h : SqT K H a xs) : SqT K H' a xs := by
  rcases h with h | h
  · exact Or.inl (e.rd h)
  · exact Or.inr h
theorem Ex.sql {K : PySem.W.Frag} {H H' : Hp} {a : Addr} {xs : List V} (e : Ex H H') (h : SqL K H a xs) : SqL K H' a xs := by
  rcases h with h | h
  · exact Or.inl (e.rd h)
  · exact Or.inr h

/-- the fields of an own error, in their order -/
def exN : List Str := ["code", "line"]
section
variable (K : PySem.W.Frag) (μ : List Addr) (G : Hp)
mutual
def Rep : D → V → Prop
  | .non, v => v = .non
  | .bl b, v => v = .bl b
  | .int i, v => v = .int i
  | .str x, v => v = .str x
  | .tup ds, v => ∃ a vs, v = .ref a ∧ SqT K G a vs ∧ Reps ds vs
  | .lst ds, v => ∃ a vs, v = .ref a ∧ G a = some (.lst vs) ∧ Reps ds vs
  | .frz ds, v => ∃ a vs, v = .ref a ∧ SqL K G a vs ∧ Reps ds vs
  | .loc n, v => ∃ a, v = .ref a ∧ μ[n]? = some a
  | .exn a dd ds, v => ∃ vs, v = .ref a ∧ G dd = some (.xd (exN.zip vs)) ∧ Reps ds vs
def Reps : List D → List V → Prop
  | [], vs => vs = []
  | d :: ds, vs => ∃ v r, vs = v :: r ∧ Rep d v ∧ Reps ds r
end
end
/-- later: more places, more that is known -/
structure Fut (μ : List Addr) (G : Hp) (μ' : List Addr) (G' : Hp) : Prop where
  pl : ∃ l, μ' = μ ++ l
  ex : Ex G G'
theorem Fut.refl (μ : List Addr) (G : Hp) : Fut μ G μ G := ⟨⟨[], by simp⟩, Ex.refl G⟩
theorem Fut.trans {μ μ1 μ2 : List Addr} {G G1 G2 : Hp} (a : Fut μ G μ1 G1) (b : Fut μ1 G1 μ2 G2) : Fut μ G μ2 G2 := by
  obtain ⟨⟨l, rfl⟩, ea⟩ := a
  obtain ⟨⟨k, rfl⟩, eb⟩ := b
  exact ⟨⟨l ++ k, by simp⟩, ea.trans eb⟩
theorem Fut.at {μ μ' : List Addr} {G G' : Hp} (f : Fut μ G μ' G') {n : Nat} {a : Addr} (h : μ[n]? = some a) : μ'[n]? = some a := by
  obtain ⟨⟨l, rfl⟩, _⟩ := f
  rw [List.getElem?_append_left (List.getElem?_eq_some_iff.mp h).1]
  exact h
theorem Fut.know {μ : List Addr} {G G' : Hp} (e : Ex G G') : Fut μ G μ G' := ⟨⟨[], by simp⟩, e⟩

section
variable {K : PySem.W.Frag} {μ μ' : List Addr} {G G' : Hp}
mutual
theorem Rep.fut (f : Fut μ G μ' G') : ∀ {d : D} {v : V}, Rep K μ G d v → Rep K μ' G' d v
  | .non, _, h => by simpa [Rep] using h
  | .bl _, _, h => by simpa [Rep] using h
  | .int _, _, h => by simpa [Rep] using h
  | .str _, _, h => by simpa [Rep] using h
  | .tup ds, v, h => by
    unfold Rep at h ⊢
    obtain ⟨a, vs, e, s, r⟩ := h
    exact ⟨a, vs, e, f.ex.sqt s, Reps.fut f r⟩
  | .lst ds, v, h => by
    unfold Rep at h ⊢
    obtain ⟨a, vs, e, s, r⟩ := h
    exact ⟨a, vs, e, f.ex a _ s, Reps.fut f r⟩
  | .frz ds, v, h => by
    unfold Rep at h ⊢
    obtain ⟨a, vs, e, s, r⟩ := h
    exact ⟨a, vs, e, f.ex.sql s, Reps.fut f r⟩
  | .loc n, v, h => by
    unfold Rep at h ⊢
    obtain ⟨a, e, s⟩ := h
    exact ⟨a, e, f.at s⟩
  | .exn a dd ds, v, h => by
    unfold Rep at h ⊢
    obtain ⟨vs, e, s, r⟩ := h
    exact ⟨vs, e, f.ex dd _ s, Reps.fut f r⟩
theorem Reps.fut (f : Fut μ G μ' G') : ∀ {ds : List D} {vs : List V}, Reps K μ G ds vs → Reps K μ' G' ds vs
  | [], _, h => by simpa [Reps] using h
  | d :: ds, vs, h => by
    unfold Reps at h ⊢
    obtain ⟨v, r, e, h1, h2⟩ := h
    exact ⟨v, r, e, Rep.fut f h1, Reps.fut f h2⟩
end
theorem rep_non {v : V} (h : Rep K μ G .non v) : v = .non := by simpa [Rep] using h
theorem rep_bl {b : Bool} {v : V} (h : Rep K μ G (.bl b) v) : v = .bl b := by simpa [Rep] using h
theorem rep_int {i : Int} {v : V} (h : Rep K μ G (.int i) v) : v = .int i := by simpa [Rep] using h
theorem rep_str {x : Str} {v : V} (h : Rep K μ G (.str x) v) : v = .str x := by simpa [Rep] using h
theorem rep_tup {ds : List D} {v : V} (h : Rep K μ G (.tup ds) v) : ∃ a vs, v = .ref a ∧ SqT K G a vs ∧ Reps K μ G ds vs := by unfold Rep at h; exact h
theorem rep_lst {ds : List D} {v : V} (h : Rep K μ G (.lst ds) v) : ∃ a vs, v = .ref a ∧ G a = some (.lst vs) ∧ Reps K μ G ds vs := by unfold Rep at h; exact h
theorem rep_frz {ds : List D} {v : V} (h : Rep K μ G (.frz ds) v) : ∃ a vs, v = .ref a ∧ SqL K G a vs ∧ Reps K μ G ds vs := by unfold Rep at h; exact h
theorem rep_loc {n : Nat} {v : V} (h : Rep K μ G (.loc n) v) : ∃ a, v = .ref a ∧ μ[n]? = some a := by unfold Rep at h; exact h
theorem rep_exn {a dd : Addr} {ds : List D} {v : V} (h : Rep K μ G (.exn a dd ds) v) : ∃ vs, v = .ref a ∧ G dd = some (.xd (exN.zip vs)) ∧ Reps K μ G ds vs := by unfold Rep at h; exact h
theorem Rep.exn {a dd : Addr} {ds : List D} {vs : List V} (s : G dd = some (.xd (exN.zip vs))) (r : Reps K μ G ds vs) : Rep K μ G (.exn a dd ds) (.ref a) := by
  unfold Rep
  exact ⟨vs, rfl, s, r⟩
theorem Rep.non : Rep K μ G .non .non := by simp [Rep]
theorem Rep.bl {b : Bool} : Rep K μ G (.bl b) (.bl b) := by simp [Rep]
theorem Rep.int {i : Int} : Rep K μ G (.int i) (.int i) := by simp [Rep]
theorem Rep.str {x : Str} : Rep K μ G (.str x) (.str x) := by simp [Rep]
theorem Rep.tup {ds : List D} {a : Addr} {vs : List V} (s : SqT K G a vs) (r : Reps K μ G ds vs) : Rep K μ G (.tup ds) (.ref a) := by
  unfold Rep
  exact ⟨a, vs, rfl, s, r⟩
theorem Rep.lst {ds : List D} {a : Addr} {vs : List V} (s : G a = some (.lst vs)) (r : Reps K μ G ds vs) : Rep K μ G (.lst ds) (.ref a) := by
  unfold Rep
  exact ⟨a, vs, rfl, s, r⟩
theorem Rep.frz {ds : List D} {a : Addr} {vs : List V} (s : SqL K G a vs) (r : Reps K μ G ds vs) : Rep K μ G (.frz ds) (.ref a) := by
  unfold Rep
  exact ⟨a, vs, rfl, s, r⟩
theorem Rep.loc {n : Nat} {a : Addr} (h : μ[n]? = some a) : Rep K μ G (.loc n) (.ref a) := by
  unfold Rep
  exact ⟨a, rfl, h⟩
theorem Reps.nil : Reps K μ G [] [] := by simp [Reps]
theorem Reps.cons {d : D} {ds : List D} {v : V} {vs : List V} (h : Rep K μ G d v) (t : Reps K μ G ds vs) : Reps K μ G (d :: ds) (v :: vs) := by
  unfold Reps
  exact ⟨v, vs, rfl, h, t⟩
theorem reps_nil {vs : List V} (h : Reps K μ G [] vs) : vs = [] := by simpa [Reps] using h
theorem reps_cons {d : D} {ds : List D} {vs : List V} (h : Reps K μ G (d :: ds) vs) : ∃ v r, vs = v :: r ∧ Rep K μ G d v ∧ Reps K μ G ds r := by unfold Reps at h; exact h
theorem Reps.length : ∀ {ds : List D} {vs : List V}, Reps K μ G ds vs → vs.length = ds.length
  | [], _, h => by rw [reps_nil h]; rfl
  | d :: ds, vs, h => by
    obtain ⟨v, r, rfl, _, t⟩ := reps_cons h
    rw [List.length_cons, List.length_cons, Reps.length t]
theorem Reps.get : ∀ {ds : List D} {vs : List V} {i : Nat} {d : D}, Reps K μ G ds vs → ds[i]? = some d → ∃ v, vs[i]? = some v ∧ Rep K μ G d v
  | [], _, i, d, _, e => by simp at e
  | x :: ds, vs, 0, d, h, e => by
    obtain ⟨v, r, rfl, hv, _⟩ := reps_cons h
    have e' : x = d := by simpa using e
    subst e'
    exact ⟨v, rfl, hv⟩
  | x :: ds, vs, i + 1, d, h, e => by
    obtain ⟨v, r, rfl, _, t⟩ := reps_cons h
    obtain ⟨w, hw, rw'⟩ := Reps.get (i := i) (d := d) t (by simpa using e)
    exact ⟨w, by simpa using hw, rw'⟩
theorem Reps.append : ∀ {ds es : List D} {vs ws : List V}, Reps K μ G ds vs → Reps K μ G es ws → Reps K μ G (ds ++ es) (vs ++ ws)
  | [], es, vs, ws, h, k => by rw [reps_nil h]; exact k
  | d :: ds, es, vs, ws, h, k => by
    obtain ⟨v, r, rfl, hv, t⟩ := reps_cons h
    exact .cons hv (Reps.append t k)
theorem Reps.set {d : D} {v : V} (hd : Rep K μ G d v) : ∀ {ds : List D} {vs : List V} (i : Nat), Reps K μ G ds vs → Reps K μ G (ds.set i d) (vs.set i v)
  | [], vs, i, h => by rw [reps_nil h]; exact .nil
  | x :: ds, vs, 0, h => by
    obtain ⟨v', r, rfl, _, t⟩ := reps_cons h
    exact .cons hd t
  | x :: ds, vs, i + 1, h => by
    obtain ⟨v', r, rfl, hx, t⟩ := reps_cons h
    exact .cons hx (Reps.set hd i t)
theorem Reps.take : ∀ {ds : List D} {vs : List V} (n : Nat), Reps K μ G ds vs → Reps K μ G (ds.take n) (vs.take n)
  | _, _, 0, _ => by simp [Reps]
  | [], vs, n + 1, h => by rw [reps_nil h]; exact .nil
  | x :: ds, vs, n + 1, h => by
    obtain ⟨v', r, rfl, hx, t⟩ := reps_cons h
    exact .cons hx (Reps.take n t)
theorem Reps.drop : ∀ {ds : List D} {vs : List V} (n : Nat), Reps K μ G ds vs → Reps K μ G (ds.drop n) (vs.drop n)
  | _, _, 0, h => h
  | [], vs, n + 1, h => by rw [reps_nil h]; exact .nil
  | x :: ds, vs, n + 1, h => by
    obtain ⟨v', r, rfl, hx, t⟩ := reps_cons h
    exact Reps.drop n t
theorem Reps.eraseIdx : ∀ {ds : List D} {vs : List V} (n : Nat), Reps K μ G ds vs → Reps K μ G (ds.eraseIdx n) (vs.eraseIdx n)
  | [], vs, n, h => by rw [reps_nil h]; exact .nil
  | x :: ds, vs, 0, h => by
    obtain ⟨v', r, rfl, hx, t⟩ := reps_cons h
    exact t
  | x :: ds, vs, n + 1, h => by
    obtain ⟨v', r, rfl, hx, t⟩ := reps_cons h
    exact .cons hx (Reps.eraseIdx n t)
theorem Reps.reverse : ∀ {ds : List D} {vs : List V}, Reps K μ G ds vs → Reps K μ G ds.reverse vs.reverse
  | [], vs, h => by rw [reps_nil h]; exact .nil
  | x :: ds, vs, h => by
    obtain ⟨v', r, rfl, hx, t⟩ := reps_cons h
    rw [List.reverse_cons, List.reverse_cons]
    exact (Reps.reverse t).append (.cons hx .nil)
theorem Reps.dropLast {ds : List D} {vs : List V} (h : Reps K μ G ds vs) : Reps K μ G ds.dropLast vs.dropLast := by
  rw [List.dropLast_eq_take, List.dropLast_eq_take, h.length]
  exact h.take _
theorem reps_ints : ∀ {ns : List Int} {vs : List V}, Reps K μ G (ns.map D.int) vs → vs = ns.map V.int
  | [], vs, h => reps_nil h
  | n :: ns, vs, h => by
    obtain ⟨v', r, rfl, hx, t⟩ := reps_cons h
    rw [rep_int hx, reps_ints t]
    rfl
theorem reps_bls : ∀ {bs : List Bool} {vs : List V}, Reps K μ G (bs.map D.bl) vs → vs = bs.map V.bl
  | [], vs, h => reps_nil h
  | n :: ns, vs, h => by
    obtain ⟨v', r, rfl, hx, t⟩ := reps_cons h
    rw [rep_bl hx, reps_bls t]
    rfl
theorem reps_strs : ∀ {ns : List Str} {vs : List V}, Reps K μ G (ns.map D.str) vs → vs = ns.map V.str
  | [], vs, h => reps_nil h
  | n :: ns, vs, h => by
    obtain ⟨v', r, rfl, hx, t⟩ := reps_cons h
    rw [rep_str hx, reps_strs t]
    rfl
theorem Reps.ints : ∀ {ns : List Int}, Reps K μ G (ns.map D.int) (ns.map V.int)
  | [] => .nil
  | _ :: _ => .cons .int Reps.ints
theorem Reps.strs : ∀ {ns : List Str}, Reps K μ G (ns.map D.str) (ns.map V.str)
  | [] => .nil
  | _ :: _ => .cons .str Reps.strs
end

/-! ### the store -/
/-- a key of a dict with int and text keys -/
def keyD : Key → D
  | .inl i => .int i
  | .inr x => .str x
def keyT (ks : List Key) : D := .tup (ks.map keyD)
section
variable (K : PySem.W.Frag) (mg : Str → Option Value) (μ : List Addr) (G : Hp)
/-- the pairs of a dict -/
def RepKV {κ : Type} : List (κ × D) → List (κ × V) → Prop
  | [], kvs => kvs = []
  | (k, d) :: r, kvs => ∃ v s, kvs = (k, v) :: s ∧ Rep K μ G d v ∧ RepKV r s
/-- attributes, fields -/
def RepF : List (Str × D) → List (Str × V) → Prop
  | [], fs => fs = []
  | (f, d) :: r, fs => ∃ v s, fs = (f, v) :: s ∧ Rep K μ G d v ∧ RepF r s
/-- what stands at an address for what may change -/
def RepO : Ob → HO → Prop
  | .lst ds, o => ∃ vs, o = .lst vs ∧ Reps K μ G ds vs
  | .dct kvs, o => ∃ ps, o = .dK ps ∧ RepKV K μ G kvs ps
  | .dtt kvs, o => ∃ ps, o = .dT ps ∧ RepKV K μ G kvs ps
  | .ins c fs, o => ∃ C dx gs, o = .ins C dx gs ∧ mg c = some (.ref C) ∧ RepF K μ G fs gs
/-- an exception behind the code that raised it -/
def RepX (e : Exn) (cls : Value) (dd : Option Addr) : Prop := ∃ C, cls = .ref C ∧ mg e.c = some (.ref C) ∧
  match dd with
  | some d => ∃ gs, G d = some (.xd gs) ∧ RepF K μ G e.fs gs
  | none => e.fs = []
/-- what is known of the heap: G never changes, F is somebody else's for now, the store's places -/
structure Kn (F : Hp) (st : Store) (H : Hp) : Prop where
  ex : Ex G H
  fr : Ex F H
  sep : ∀ a o, F a = some o → G a = none
  len : μ.length = st.length
  inj : μ.Nodup
  cell : ∀ (n : Nat) (ob : Ob), st[n]? = some (some ob) → ∃ a o, μ[n]? = some a ∧ G a = none ∧ F a = none ∧ H a = some o ∧ RepO K mg μ G ob o
  there : ∀ a ∈ μ, H a ≠ none
  out : ∀ a ∈ μ, F a = none
/-- the names' values -/
structure RepE (vs : Vars) (σ : L2.St) : Prop where
  len : vs.length = σ.length
  get : ∀ (i : Nat) (d : D), vs[i]? = some (some d) → ∃ v, σ[i]? = some (some v) ∧ Rep K μ G d v
end
section
variable {K : PySem.W.Frag} {mg : Str → Option Value} {μ μ' : List Addr} {G G' : Hp}
theorem RepKV.fut {κ : Type} (f : Fut μ G μ' G') : ∀ {l : List (κ × D)} {ps : List (κ × V)}, RepKV K μ G l ps → RepKV K μ' G' l ps
  | [], _, h => h
  | (k, d) :: r, ps, h => by
    obtain ⟨v, s, e, hv, t⟩ := h
    exact ⟨v, s, e, hv.fut f, RepKV.fut f t⟩
theorem RepF.fut (f : Fut μ G μ' G') : ∀ {l : List (Str × D)} {ps : List (Str × V)}, RepF K μ G l ps → RepF K μ' G' l ps
  | [], _, h => h
  | (k, d) :: r, ps, h => by
    obtain ⟨v, s, e, hv, t⟩ := h
    exact ⟨v, s, e, hv.fut f, RepF.fut f t⟩
theorem RepO.fut (f : Fut μ G μ' G') {ob : Ob} {o : HO} (h : RepO K mg μ G ob o) : RepO K mg μ' G' ob o := by
  cases ob with
  | lst ds =>
    obtain ⟨vs, e, r⟩ := h
    exact ⟨vs, e, r.fut f⟩
  | dct kvs =>
    obtain ⟨vs, e, r⟩ := h
    exact ⟨vs, e, r.fut f⟩
  | dtt kvs =>
    obtain ⟨vs, e, r⟩ := h
    exact ⟨vs, e, r.fut f⟩
  | ins c fs =>
    obtain ⟨C, dx, gs, e, m, r⟩ := h
    exact ⟨C, dx, gs, e, m, r.fut f⟩
theorem RepX.fut (f : Fut μ G μ' G') {e : Exn} {cls : Value} {dd : Option Addr} (h : RepX K mg μ G e cls dd) : RepX K mg μ' G' e cls dd := by
  obtain ⟨C, e1, e2, h⟩ := h
  refine ⟨C, e1, e2, ?_⟩
  cases dd with
  | none => exact h
  | some d =>
    obtain ⟨gs, g, r⟩ := h
    exact ⟨gs, f.ex d _ g, r.fut f⟩
theorem RepE.fut (f : Fut μ G μ' G') {vs : Vars} {σ : L2.St} (h : RepE K μ G vs σ) : RepE K μ' G' vs σ :=
  ⟨h.len, fun i d e => let ⟨v, hv, r⟩ := h.get i d e; ⟨v, hv, r.fut f⟩⟩
theorem RepE.set {vs : Vars} {σ : L2.St} (h : RepE K μ G vs σ) {d : D} {v : V} (r : Rep K μ G d v) (i : Nat) : RepE K μ G (vs.set i (some d)) (σ.set i (some v)) := by
  refine ⟨by rw [List.length_set, List.length_set, h.len], fun j e hj => ?_⟩
  by_cases hij : i = j
  · subst hij
    by_cases hl : i < vs.length
    · rw [List.getElem?_set_self hl] at hj
      have : d = e := by simpa using hj
      subst this
      exact ⟨v, List.getElem?_set_self (by rw [← h.len]; exact hl), r⟩
    · rw [List.getElem?_eq_none (by simpa using hl)] at hj
      cases hj
  · rw [List.getElem?_set_ne hij] at hj
    rw [List.getElem?_set_ne hij]
    exact h.get j e hj
/-- a name's value forgotten -/
theorem RepE.drop {vs : Vars} {σ : L2.St} (h : RepE K μ G vs σ) (i : Nat) : RepE K μ G (vs.set i none) σ := by
  refine ⟨by rw [List.length_set, h.len], fun j e hj => ?_⟩
  by_cases hij : i = j
  · subst hij
    by_cases hl : i < vs.length
    · rw [List.getElem?_set_self hl] at hj
      cases hj
    · rw [List.getElem?_eq_none (by simpa using hl)] at hj
      cases hj
  · rw [List.getElem?_set_ne hij] at hj
    exact h.get j e hj
/-- a new thing that is known for ever -/
theorem Kn.learn {F : Hp} {st : Store} {H : Hp} (k : Kn K mg μ G F st H) {p : Addr} {o : HO} (hp : H p = none) : Kn K mg μ (upd G p o) F st (upd H p o) := by
  have gp : G p = none := k.ex.free hp
  have fp : F p = none := k.fr.free hp
  have f : Fut μ G μ (upd G p o) := .know (.new gp)
  refine ⟨fun a u e => ?_, fun a u e => ?_, fun a u e => ?_, k.len, k.inj, fun n ob e => ?_, fun a ha => ?_, k.out⟩
  · by_cases h : a = p
    · subst h; rw [upd_same] at e ⊢; exact e
    · rw [upd_ne h] at e ⊢; exact k.ex a u e
  · rw [upd_ne (ne_of_none e fp)]
    exact k.fr a u e
  · rw [upd_ne (ne_of_none e fp)]
    exact k.sep a u e
  · obtain ⟨a, u, h1, h2, h3, h4, h5⟩ := k.cell n ob e
    have hne : a ≠ p := ne_of_none h4 hp
    exact ⟨a, u, h1, by rw [upd_ne hne]; exact h2, h3, by rw [upd_ne hne]; exact h4, h5.fut f⟩
  · by_cases h : a = p
    · subst h; rw [upd_same]; intro z; cases z
    · rw [upd_ne h]; exact k.there a ha
/-- a new thing that may change -/
theorem Kn.alloc {F : Hp} {st : Store} {H : Hp} (k : Kn K mg μ G F st H) {p : Addr} {o : HO} {ob : Ob} (hp : H p = none) (r : RepO K mg μ G ob o) :
    Kn K mg (μ ++ [p]) G F (st ++ [some ob]) (upd H p o) := by
  have gp : G p = none := k.ex.free hp
  have fp : F p = none := k.fr.free hp
  have f : Fut μ G (μ ++ [p]) G := ⟨⟨[p], rfl⟩, .refl G⟩
  have hm : p ∉ μ := fun h => k.there p h hp
  refine ⟨k.ex.mut gp, k.fr.mut fp, k.sep, by simp [k.len], List.nodup_append.mpr ⟨k.inj, by simp, fun a ha b hb => ?_⟩, fun n ob' e => ?_, fun a ha => ?_, fun a ha => ?_⟩
  · have : b = p := by simpa using hb
    subst this
    intro z
    subst z
    exact hm ha
  · by_cases hn : n < st.length
    · rw [List.getElem?_append_left hn] at e
      obtain ⟨a, u, h1, h2, h3, h4, h5⟩ := k.cell n ob' e
      have hne : a ≠ p := ne_of_none h4 hp
      exact ⟨a, u, f.at h1, h2, h3, by rw [upd_ne hne]; exact h4, h5.fut f⟩
    · have hn' : n = st.length := by
        have := (List.getElem?_eq_some_iff.mp e).1
        rw [List.length_append] at this
        simp at this
        omega
      subst hn'
      rw [List.getElem?_append_right (Nat.le_refl _), Nat.sub_self] at e
      have e' : ob = ob' := by simpa using e
      subst e'
      exact ⟨p, o, by rw [← k.len, List.getElem?_append_right (Nat.le_refl _), Nat.sub_self]; rfl, gp, fp, upd_same, r.fut f⟩
  · by_cases h : a = p
    · subst h; rw [upd_same]; intro z; cases z
    · rw [upd_ne h]
      rcases List.mem_append.mp ha with h1 | h1
      · exact k.there a h1
      · exact absurd (by simpa using h1) h
  · rcases List.mem_append.mp ha with h1 | h1
    · exact k.out a h1
    · have : a = p := by simpa using h1
      rw [this]
      exact fp
/-- what may change is changed -/
theorem Kn.write {F : Hp} {st : Store} {H : Hp} (k : Kn K mg μ G F st H) {n : Nat} {ob ob' : Ob} {o : HO} {a : Addr} (hn : st[n]? = some (some ob)) (ha : μ[n]? = some a) (r : RepO K mg μ G ob' o) :
    Kn K mg μ G F (st.set n (some ob')) (upd H a o) := by
  obtain ⟨a', u, h1, h2, h3, h4, h5⟩ := k.cell n ob hn
  rw [ha] at h1
  cases h1
  have nl : n < st.length := (List.getElem?_eq_some_iff.mp hn).1
  refine ⟨k.ex.mut h2, k.fr.mut h3, k.sep, by simp [k.len], k.inj, fun m ob2 e => ?_, fun b hb => ?_, k.out⟩
  · by_cases hm : n = m
    · subst hm
      rw [List.getElem?_set_self nl] at e
      have e' : ob' = ob2 := by simpa using e
      subst e'
      exact ⟨a, o, ha, h2, h3, upd_same, r⟩
    · rw [List.getElem?_set_ne hm] at e
      obtain ⟨b, u', g1, g2, g3, g4, g5⟩ := k.cell m ob2 e
      have hne : b ≠ a := by
        intro z
        subst z
        exact hm (L2.nd_ix k.inj ha g1)
      exact ⟨b, u', g1, g2, g3, by rw [upd_ne hne]; exact g4, g5⟩
  · by_cases h : b = a
    · subst h; rw [upd_same]; intro z; cases z
    · rw [upd_ne h]; exact k.there b hb
/-- a new thing that matters no longer -/
theorem Kn.junk {F : Hp} {st : Store} {H : Hp} (k : Kn K mg μ G F st H) {p : Addr} {o : HO} (hp : H p = none) : Kn K mg μ G F st (upd H p o) := by
  have gp : G p = none := k.ex.free hp
  have fp : F p = none := k.fr.free hp
  refine ⟨k.ex.mut gp, k.fr.mut fp, k.sep, k.len, k.inj, fun n ob e => ?_, fun a ha => ?_, k.out⟩
  · obtain ⟨a, u, h1, h2, h3, h4, h5⟩ := k.cell n ob e
    exact ⟨a, u, h1, h2, h3, by rw [upd_ne (ne_of_none h4 hp)]; exact h4, h5⟩
  · by_cases h : a = p
    · subst h; rw [upd_same]; intro z; cases z
    · rw [upd_ne h]; exact k.there a ha
end

/-! ### what an expression gives -/
inductive Re (α : Type) where
  | bad
  | ok (a : α) (st : Store)
  | exc (e : Exn) (st : Store)
/-- what the simplifier leaves alone: a function behind it stays as it is -/
abbrev Lk {α : Sort _} (_ : α) : Type := Unit
def Re.bind {α β : Type} (r : Re α) (k : α → Store → Re β) (_ : Lk k := Unit.unit) : Re β := match r with
  | .bad => .bad
  | .ok a st => k a st
  | .exc e st => .exc e st
abbrev EM := Vars → Store → Re D
abbrev EMs := Vars → Store → Re (List D)

section
variable (K : PySem.W.Frag) (mg : Str → Option Value) (W : WX)
def Done {α : Type} (σ : L2.St) (μ : List Addr) (G F : Hp) (r : Re α) (P : List Addr → Hp → α → Store → Hp → Prop) : Prop := match r with
  | .bad => False
  | .ok a st => ∀ μ' G' H', Fut μ G μ' G' → Kn K mg μ' G' F st H' → P μ' G' a st H'
  | .exc e st => ∀ μ' G' H' cls dd, Fut μ G μ' G' → Kn K mg μ' G' F st H' → RepX K mg μ' G' e cls dd → W cls dd σ H'
def tE (m : EM) : TE := fun σ H Q => ∃ vs st μ G F, RepE K μ G vs σ ∧ Kn K mg μ G F st H ∧ Done K mg W σ μ G F (m vs st) fun μ' G' d _ H' => ∀ v, Rep K μ' G' d v → Q v H'
def tT (m : EM) : TT := fun σ H Q => ∃ vs st μ G F, RepE K μ G vs σ ∧ Kn K mg μ G F st H ∧ Done K mg W σ μ G F (m vs st) fun _ _ d _ H' => ∃ b, d = .bl b ∧ Q b H'
def tA (m : EMs) : TA := fun σ H Q => ∃ vs st μ G F, RepE K μ G vs σ ∧ Kn K mg μ G F st H ∧ Done K mg W σ μ G F (m vs st) fun μ' G' ds _ H' => ∀ ws, Reps K μ' G' ds ws → Q ws H'
end
section
variable {K : PySem.W.Frag} {mg : Str → Option Value} {W : WX} {α β : Type} {σ : L2.St} {μ μ' : List Addr} {G G' F : Hp}
theorem Done.mono {r : Re α} {P P' : List Addr → Hp → α → Store → Hp → Prop} (h : Done K mg W σ μ G F r P)
    (k : ∀ μ' G' a st H', Fut μ G μ' G' → Kn K mg μ' G' F st H' → P μ' G' a st H' → P' μ' G' a st H') : Done K mg W σ μ G F r P' := by
  cases r with
  | bad => exact h
  | ok a st => exact fun μ' G' H' f kn => k μ' G' a st H' f kn (h μ' G' H' f kn)
  | exc e st => exact h
theorem Done.fut {r : Re α} {P : List Addr → Hp → α → Store → Hp → Prop} (f : Fut μ G μ' G') (h : Done K mg W σ μ G F r P) : Done K mg W σ μ' G' F r P := by
  cases r with
  | bad => exact h
  | ok a st => exact fun μ2 G2 H2 f2 kn => h μ2 G2 H2 (f.trans f2) kn
  | exc e st => exact fun μ2 G2 H2 cls dd f2 kn x => h μ2 G2 H2 cls dd (f.trans f2) kn x
theorem Done.bind {r : Re α} {k : α → Store → Re β} {P : List Addr → Hp → β → Store → Hp → Prop} (h : Done K mg W σ μ G F (r.bind k) P) :
    Done K mg W σ μ G F r fun μ' G' a st _ => Done K mg W σ μ' G' F (k a st) P := by
  cases r with
  | bad => exact h
  | ok a st => exact fun μ' G' H' f kn => Done.fut f h
  | exc e st => exact h
end

/-! ### weaker readings -/
section
variable {X : Cx} {e : Expr} {es : List Expr}
theorem _root_.L2.PE.of {t t' : TE} (h : PE X e t) (k : ∀ σ H Q, t' σ H Q → t σ H Q) : PE X e t' := ⟨fun pins s σ H Q I q => h.run pins s σ H Q I (k σ H Q q)⟩
theorem _root_.L2.PT.of {t t' : TT} (h : PT X e t) (k : ∀ σ H Q, t' σ H Q → t σ H Q) : PT X e t' := ⟨fun pins s σ H Q I q => h.run pins s σ H Q I (k σ H Q q)⟩
theorem _root_.L2.PW.of {t t' : TT} (h : PW X e t) (k : ∀ σ H Q, t' σ H Q → t σ H Q) : PW X e t' := ⟨fun wh pins s σ H Q I q => h.run wh pins s σ H Q I (k σ H Q q)⟩
theorem _root_.L2.PA.of {t t' : TA} (h : PA X es t) (k : ∀ σ H Q, t' σ H Q → t σ H Q) : PA X es t' := ⟨fun pos pins s σ H Q I q => h.run pos pins s σ H Q I (k σ H Q q)⟩
theorem _root_.L2.PS.of {s : Stmt} {t t' : TS} (h : PS X s t) (k : ∀ D σ H, t' D σ H → t D σ H) : PS X s t' := ⟨fun pins s σ H D I q => h.run pins s σ H D I (k D σ H q)⟩
theorem _root_.L2.PSs.of {s : List Stmt} {t t' : TS} (h : PSs X s t) (k : ∀ D σ H, t' D σ H → t D σ H) : PSs X s t' := ⟨fun pins s σ H D I q => h.run pins s σ H D I (k D σ H q)⟩
end
end Dn
namespace Dn
open PySem PySem.Spec PyProof.Rows L2

/-! ### operations on data -/
abbrev room (n : Nat) : Prop := n ≤ 1000000
theorem room_line {n : Nat} (h : room n) : n ≤ sizeLine := Nat.le_trans h (by decide)
theorem room_lt {n : Nat} (h : room n) : n < sizeLine := Nat.lt_of_le_of_lt h (by decide)
def cell (st : Store) (n : Nat) : Option Ob := (st[n]?).join
def lstAt (st : Store) (n : Nat) : Option (List D) := match cell st n with
  | some (.lst ds) => some ds
  | _ => none
def seqOf (st : Store) : D → Option (List D)
  | .tup ds => some ds
  | .lst ds => some ds
  | .frz ds => some ds
  | .loc n => lstAt st n
  | _ => none
def lstOf (st : Store) : D → Option (List D)
  | .lst ds => some ds
  | .loc n => lstAt st n
  | _ => none
theorem lstAt_cell {st : Store} {n : Nat} {ds : List D} (h : lstAt st n = some ds) : cell st n = some (.lst ds) := by
  unfold lstAt at h
  split at h
  · rename_i e
    rw [e]
    injection h with h
    rw [h]
  · cases h
theorem cell_some {st : Store} {n : Nat} {ob : Ob} (h : cell st n = some ob) : st[n]? = some (some ob) := by
  unfold cell at h
  cases e : st[n]? with
  | none => rw [e] at h; cases h
  | some o =>
    rw [e] at h
    have h' : o = some ob := h
    rw [h']
section
variable {K : PySem.W.Frag} {mg : Str → Option Value} {W : WX} {σ : L2.St} {μ : List Addr} {G F : Hp} {st : Store} {H : Hp} {d : D} {ds : List D} {v : V} {vs : List V} {Q : VK}
theorem lstOf_rep (k : Kn K mg μ G F st H) (r : Rep K μ G d v) (e : lstOf st d = some ds) : ∃ a vs, v = .ref a ∧ H a = some (.lst vs) ∧ Reps K μ G ds vs := by
  cases d with
  | lst xs =>
    obtain ⟨a, vs, rfl, g, q⟩ := rep_lst r
    have : xs = ds := by simpa [lstOf] using e
    subst this
    exact ⟨a, vs, rfl, k.ex a _ g, q⟩
  | loc n =>
    obtain ⟨a, rfl, ha⟩ := rep_loc r
    obtain ⟨a', o, h1, _, _, h4, vs, rfl, q⟩ := k.cell n _ (cell_some (lstAt_cell e))
    rw [ha] at h1
    cases h1
    exact ⟨a, vs, rfl, h4, q⟩
  | _ => cases e
theorem seqOf_rep (k : Kn K mg μ G F st H) (r : Rep K μ G d v) (e : seqOf st d = some ds) : ∃ a vs, v = .ref a ∧ (SqL K H a vs ∨ SqT K H a vs) ∧ Reps K μ G ds vs := by
  cases d with
  | tup xs =>
    obtain ⟨a, vs, rfl, g, q⟩ := rep_tup r
    have : xs = ds := by simpa [seqOf] using e
    subst this
    exact ⟨a, vs, rfl, .inr (k.ex.sqt g), q⟩
  | lst xs =>
    obtain ⟨a, vs, h1, h2, h3⟩ := lstOf_rep (ds := ds) k r e
    exact ⟨a, vs, h1, .inl (.of h2), h3⟩
  | frz xs =>
    obtain ⟨a, vs, rfl, g, q⟩ := rep_frz r
    have : xs = ds := by simpa [seqOf] using e
    subst this
    exact ⟨a, vs, rfl, .inl (k.ex.sql g), q⟩
  | loc n =>
    obtain ⟨a, vs, h1, h2, h3⟩ := lstOf_rep (ds := ds) k r e
    exact ⟨a, vs, h1, .inl (.of h2), h3⟩
  | _ => cases e
/-- what a value-level answer asks -/
abbrev Fin (K : PySem.W.Frag) (Q : VK) : List Addr → Hp → D → Store → Hp → Prop := fun μ' G' d _ H' => ∀ z, Rep K μ' G' d z → Q z H'
theorem Done.here {α : Type} {a : α} {P : List Addr → Hp → α → Store → Hp → Prop} (k : Kn K mg μ G F st H) (h : Done K mg W σ μ G F (.ok a st) P) : P μ G a st H := h μ G H (.refl μ G) k
theorem fin_here {z : V} (k : Kn K mg μ G F st H) (h : Done K mg W σ μ G F (.ok d st) (Fin K Q)) (r : Rep K μ G d z) : Q z H := h μ G H (.refl μ G) k z r
/-- a new list: by value, or at a place -/
def mkNew (b : Bool) (ds : List D) (st : Store) : Re D := match b with
  | true => .ok (.loc st.length) (st ++ [some (.lst ds)])
  | false => .ok (.lst ds) st
theorem new_list {b : Bool} (k : Kn K mg μ G F st H) (r : Reps K μ G ds vs) (h : Done K mg W σ μ G F (mkNew b ds st) (Fin K Q)) : ∀ p, H p = none → Q (.ref p) (upd H p (.lst vs)) := fun p hp => by
  cases b with
  | true =>
    refine h (μ ++ [p]) G _ ⟨⟨[p], rfl⟩, .refl G⟩ (k.alloc hp ⟨vs, rfl, r⟩) _ (.loc ?_)
    rw [← k.len, List.getElem?_append_right (Nat.le_refl _), Nat.sub_self]
    rfl
  | false =>
    have f : Fut μ G μ (upd G p (.lst vs)) := .know (.new (k.ex.free hp))
    exact h μ _ _ f (k.learn hp) _ (.lst upd_same (r.fut f))
theorem new_tup (k : Kn K mg μ G F st H) (r : Reps K μ G ds vs) (h : Done K mg W σ μ G F (.ok (.tup ds) st) (Fin K Q)) : ∀ p, H p = none → Q (.ref p) (upd H p (.tup vs)) := fun p hp => by
  have f : Fut μ G μ (upd G p (.tup vs)) := .know (.new (k.ex.free hp))
  exact h μ _ _ f (k.learn hp) _ (.tup (.of upd_same) (r.fut f))
end

/-! ### data as PyData -/
mutual
def pd : D → PyData
  | .non => .none
  | .bl b => .bool b
  | .int i => .int i
  | .str x => .str x
  | .tup ds => .tuple (pds ds)
  | .lst ds => .list (pds ds)
  | .frz _ => .none
  | .loc _ => .none
  | .exn _ _ _ => .none
def pds : List D → List PyData
  | [] => []
  | d :: ds => pd d :: pds ds
end
/-- of bounded depth, without places -/
def okd : Nat → D → Bool
  | _, .non => true
  | _, .bl _ => true
  | _, .int _ => true
  | _, .str x => PyData.strOk x
  | 0, _ => false
  | n + 1, .tup ds => ds.all (okd n)
  | n + 1, .lst ds => ds.all (okd n)
  | _, .frz _ => false
  | _, .loc _ => false
  | _, .exn _ _ _ => false
theorem pds_map : ∀ ds : List D, pds ds = ds.map pd
  | [] => rfl
  | d :: ds => by rw [pds, pds_map ds]; rfl
theorem okd_shape : ∀ (n : Nat) (d : D), okd n d = true → (pd d).canLay0 = true ∧ (pd d).depth ≤ n := by
  have all : ∀ (n : Nat), (∀ d : D, okd n d = true → (pd d).canLay0 = true ∧ (pd d).depth ≤ n) → ∀ ds : List D, ds.all (okd n) = true → PyData.canLayAll0 (pds ds) = true ∧ PyData.depthAll (pds ds) ≤ n := by
    intro n ih ds
    induction ds with
    | nil => intro _; simp [pds, PyData.canLayAll0, PyData.depthAll]
    | cons d ds ih2 =>
      intro h
      rw [List.all_cons, Bool.and_eq_true] at h
      obtain ⟨h1, h2⟩ := ih d h.1
      obtain ⟨g1, g2⟩ := ih2 h.2
      rw [pds, PyData.canLayAll0, PyData.depthAll, h1, g1]
      exact ⟨rfl, by omega⟩
  intro n
  induction n with
  | zero =>
    intro d h
    cases d <;> simp_all [okd, pd, PyData.canLay0, PyData.depth]
  | succ n ih =>
    intro d h
    cases d with
    | tup ds =>
      have := all n ih ds (by simpa [okd] using h)
      simp only [pd, PyData.canLay0, PyData.depth]
      exact ⟨this.1, by omega⟩
    | lst ds =>
      have := all n ih ds (by simpa [okd] using h)
      simp only [pd, PyData.canLay0, PyData.depth]
      exact ⟨this.1, by omega⟩
    | _ => simp_all [okd, pd, PyData.canLay0, PyData.depth]
theorem okd_shaped {d : D} (h : okd 60 d = true) : SeqAt.shaped (pd d) = true := by
  obtain ⟨h1, h2⟩ := okd_shape 60 d h
  unfold SeqAt.shaped
  rw [h1, decide_eq_true (by omega)]
  rfl
section
variable {K : PySem.W.Frag} {μ : List Addr} {G H : Hp}
theorem rep_dp (e : Ex G H) : ∀ (n : Nat) (d : D) (v : V), okd n d = true → Rep K μ G d v → Dp K H v (pd d) := by
  have all : ∀ (n : Nat), (∀ (d : D) (v : V), okd n d = true → Rep K μ G d v → Dp K H v (pd d)) → ∀ (ds : List D) (vs : List V), ds.all (okd n) = true → Reps K μ G ds vs → DpAll K H vs (pds ds) := by
    intro n ih ds
    induction ds with
    | nil =>
      intro vs _ r
      rw [reps_nil r]
      exact .nil
    | cons d ds ih2 =>
      intro vs h r
      rw [List.all_cons, Bool.and_eq_true] at h
      obtain ⟨v, t, rfl, hv, ht⟩ := reps_cons r
      exact .cons (ih d v h.1 hv) (ih2 t h.2 ht)
  intro n
  induction n with
  | zero =>
    intro d v h r
    cases d with
    | non => rw [rep_non r]; exact .non
    | bl b => rw [rep_bl r]; exact .bl b
    | int i => rw [rep_int r]; exact .int i
    | str x => rw [rep_str r]; exact .str x
    | _ => simp [okd] at h
  | succ n ih =>
    intro d v h r
    cases d with
    | non => rw [rep_non r]; exact .non
    | bl b => rw [rep_bl r]; exact .bl b
    | int i => rw [rep_int r]; exact .int i
    | str x => rw [rep_str r]; exact .str x
    | tup ds =>
      obtain ⟨a, vs, rfl, s, q⟩ := rep_tup r
      exact .tup (e.sqt s) (all n ih ds vs (by simpa [okd] using h) q)
    | lst ds =>
      obtain ⟨a, vs, rfl, s, q⟩ := rep_lst r
      exact .lst (.of (e a _ s)) (all n ih ds vs (by simpa [okd] using h) q)
    | frz _ => simp [okd] at h
    | loc _ => simp [okd] at h
    | exn _ _ _ => simp [okd] at h
end
/-- a list at a place stands for its items -/
def resD (st : Store) : D → D
  | .loc n => match lstAt st n with
    | some ds => .lst ds
    | none => .loc n
  | d => d
def eqvD (x y : D) : Bool := PyData.eqv (pd x) (pd y)
section
variable {K : PySem.W.Frag} {mg : Str → Option Value} {μ : List Addr} {G F : Hp} {st : Store} {H : Hp} {d : D} {v : V}
theorem res_dp (k : Kn K mg μ G F st H) (r : Rep K μ G d v) (h : okd 60 (resD st d) = true) : Dp K H v (pd (resD st d)) := by
  cases d with
  | loc n =>
    cases hc : lstAt st n with
    | none =>
      have e : resD st (.loc n) = .loc n := by simp only [resD, hc]
      rw [e] at h
      simp [okd] at h
    | some ds =>
      have e : resD st (.loc n) = .lst ds := by simp only [resD, hc]
      rw [e] at h ⊢
      obtain ⟨a, vs, rfl, h2, h3⟩ := lstOf_rep (ds := ds) k r hc
      refine .lst (.of h2) ?_
      have h' : ds.all (okd 59) = true := by simpa [okd] using h
      clear e h hc r h2
      induction ds generalizing vs with
      | nil => rw [reps_nil h3]; exact .nil
      | cons d ds ih =>
        obtain ⟨v, t, rfl, hv, ht⟩ := reps_cons h3
        rw [List.all_cons, Bool.and_eq_true] at h'
        exact .cons (rep_dp k.ex 59 d v h'.1 hv) (ih t ht h'.2)
  | _ => exact rep_dp k.ex 60 _ v h r
end

/-! ### operators on data -/
def addD (b : Bool) (x y : D) (st : Store) : Re D := match x, y with
  | .int i, .int j => .ok (.int (i + j)) st
  | .str s, .str t => if room (s.length + t.length) then .ok (.str (s ++ t)) st else .bad
  | .tup u, .tup w => if room (u.length + w.length) then .ok (.tup (u ++ w)) st else .bad
  | x, y => match lstOf st x, lstOf st y with
    | some u, some w => if room (u.length + w.length) then mkNew b (u ++ w) st else .bad
    | _, _ => .bad
def subD (x y : D) (st : Store) : Re D := match x, y with
  | .int i, .int j => .ok (.int (i - j)) st
  | _, _ => .bad
def mulD (b : Bool) (x y : D) (st : Store) : Re D := match x, y with
  | .int i, .int j => if (-(2 ^ 64) < i ∧ i < 2 ^ 64) ∨ (-(2 ^ 64) < j ∧ j < 2 ^ 64) then .ok (.int (i * j)) st else .bad
  | .tup u, .int k => if u ≠ [] ∧ 2 ≤ k ∧ k ≤ 1000 ∧ u.length ≤ 1000 then .ok (.tup (List.replicate k.toNat u).flatten) st else .bad
  | x, .int k => match lstOf st x with
    | some u => if -(2 ^ 63) ≤ k ∧ k < 2 ^ 63 ∧ room (u.length * k.toNat) then mkNew b (List.replicate k.toNat u).flatten st else .bad
    | _ => .bad
  | _, _ => .bad
def fdivD (x y : D) (st : Store) : Re D := match x, y with
  | .int i, .int j => if 0 < j ∧ j < 1073741824 then .ok (.int (i / j)) st else .bad
  | _, _ => .bad
def modD (x y : D) (st : Store) : Re D := match x, y with
  | .int i, .int j => if 0 < j then .ok (.int (i % j)) st else .bad
  | _, _ => .bad
def powD (x y : D) (st : Store) : Re D := match x, y with
  | .int i, .int j => if 0 ≤ j ∧ j ≤ 1000000 ∧ i.natAbs < 2 ^ 64 then .ok (.int (i ^ j.toNat)) st else .bad
  | _, _ => .bad
def shlD (x y : D) (st : Store) : Re D := match x, y with
  | .int i, .int j => if 0 ≤ j ∧ j ≤ 1000000 ∧ i.natAbs < 2 ^ 64 then .ok (.int (i * 2 ^ j.toNat)) st else .bad
  | _, _ => .bad
def shrD (x y : D) (st : Store) : Re D := match x, y with
  | .int i, .int j => if 0 ≤ j then .ok (.int (i / 2 ^ j.toNat)) st else .bad
  | _, _ => .bad
def andD (x y : D) (st : Store) : Re D := match x, y with
  | .int i, .int j => .ok (.int (Builtin.bitAnd i j)) st
  | _, _ => .bad
/-- == by data -/
def eqB (st : Store) (x y : D) : Option Bool := match x, y with
  | .non, .non => some true
  | .int i, .int j => some (decide (i = j))
  | .bl i, .bl j => some (decide (i = j))
  | .str i, .str j => some (decide (i = j))
  | x, y => if okd 60 (resD st x) && okd 60 (resD st y) then some (eqvD (resD st x) (resD st y)) else none
def eqD (x y : D) (st : Store) : Re D := match eqB st x y with
  | some b => .ok (.bl b) st
  | none => .bad
def neD (x y : D) (st : Store) : Re D := match eqB st x y with
  | some b => .ok (.bl !b) st
  | none => .bad
def ltD (x y : D) (st : Store) : Re D := match x, y with
  | .int i, .int j => .ok (.bl (decide (i < j))) st
  | .str i, .str j => .ok (.bl (decide (i.cps.toList < j.cps.toList))) st
  | _, _ => .bad
def leD (x y : D) (st : Store) : Re D := match x, y with
  | .int i, .int j => .ok (.bl (decide (i ≤ j))) st
  | _, _ => .bad
def gtD (x y : D) (st : Store) : Re D := match x, y with
  | .int i, .int j => .ok (.bl (decide (j < i))) st
  | _, _ => .bad
def geD (x y : D) (st : Store) : Re D := match x, y with
  | .int i, .int j => .ok (.bl (decide (j ≤ i))) st
  | _, _ => .bad
def isNon : D → Bool
  | .non => true
  | _ => false
def isD (x y : D) (st : Store) : Re D := match x, y with
  | .bl i, .bl j => .ok (.bl (decide (i = j))) st
  | x, .non => .ok (.bl (isNon x)) st
  | _, _ => .bad
def isnotD (x y : D) (st : Store) : Re D := match x, y with
  | .bl i, .bl j => .ok (.bl (!decide (i = j))) st
  | x, .non => .ok (.bl (!isNon x)) st
  | _, _ => .bad
def flatD : D → Bool
  | .non | .bl _ | .int _ | .str _ => true
  | _ => false
def inB (st : Store) (x y : D) : Option Bool := match x, y with
  | .str c, .str z => match c.cps.toList with
    | [s] => some (decide (s ∈ z.cps.toList))
    | _ => none
  | x, y => match seqOf st y with
    | some ds => if flatD x && ds.all flatD then some (ds.any fun z => eqvD z x)
      else if okd 60 x && ds.all (okd 59) then some (ds.any fun z => eqvD z x) else none
    | none => none
def inD (x y : D) (st : Store) : Re D := match inB st x y with
  | some b => .ok (.bl b) st
  | none => .bad
def ninD (x y : D) (st : Store) : Re D := match inB st x y with
  | some b => .ok (.bl !b) st
  | none => .bad
def ixD (x y : D) (st : Store) : Re D := match x, y with
  | .str z, .int i => if room z.length then (match atI z.cps.toList i with | some c => .ok (.str ⟨#[c]⟩) st | none => .bad) else .bad
  | x, .int i => match seqOf st x with
    | some ds => (match atI ds i with | some d => .ok d st | none => .bad)
    | none => .bad
  | _, _ => .bad
def negD (x : D) (st : Store) : Re D := match x with
  | .int i => .ok (.int (-i)) st
  | _ => .bad
def truthB (st : Store) : D → Option Bool
  | .non => some false
  | .bl b => some b
  | .int i => some (i != 0)
  | .str z => if room z.length then some ((z.length : Int) != 0) else none
  | .tup ds => some (!ds.isEmpty)
  | .lst ds => some (!ds.isEmpty)
  | .frz ds => some (!ds.isEmpty)
  | .loc n => match cell st n with
    | some (.lst ds) => some (!ds.isEmpty)
    | some (.dct kvs) => some (!kvs.isEmpty)
    | _ => none
  | .exn _ _ _ => none
/-- a slice -/
def cutD (ds : List D) (lo hi : Option Int) : List D := (ds.drop (HT.sIx ds.length 0 lo)).take (HT.sIx ds.length ds.length hi - HT.sIx ds.length 0 lo)
def sliceD (b : Bool) (x : D) (lo hi : Option Int) (st : Store) : Re D := match x with
  | .tup ds => .ok (.tup (cutD ds lo hi)) st
  | .str z => .bad
  | x => match lstOf st x with
    | some ds => mkNew b (cutD ds lo hi) st
    | none => .bad

/-! ### they are what the operators do -/
section
variable (K : PySem.W.Frag) (mg : Str → Option Value)
def S2 (f : D → D → Store → Re D) (r : R2) : Prop := ∀ (W : WX) (σ : L2.St) (μ : List Addr) (G F : Hp) (st : Store) (H : Hp) (x y : D) (v w : V) (Q : VK), Kn K mg μ G F st H → Rep K μ G x v → Rep K μ G y w →
  Done K mg W σ μ G F (f x y st) (Fin K Q) → r v w H Q
def S1 (f : D → Store → Re D) (r : V → Hp → VK → Prop) : Prop := ∀ (W : WX) (σ : L2.St) (μ : List Addr) (G F : Hp) (st : Store) (H : Hp) (x : D) (v : V) (Q : VK), Kn K mg μ G F st H → Rep K μ G x v →
  Done K mg W σ μ G F (f x st) (Fin K Q) → r v H Q
def SN (f : List D → Store → Re D) (r : List V → Hp → VK → Prop) : Prop := ∀ (W : WX) (σ : L2.St) (μ : List Addr) (G F : Hp) (st : Store) (H : Hp) (xs : List D) (vs : List V) (Q : VK), Kn K mg μ G F st H → Reps K μ G xs vs →
  Done K mg W σ μ G F (f xs st) (Fin K Q) → r vs H Q
end
section
variable {X : Cx} {K : PySem.W.Frag} {mg : Str → Option Value}
/-- by lists alone -/
theorem lists2 {f : List D → List D → Store → Re D} {st : Store} {x y : D} {W : WX} {σ : L2.St} {μ : List Addr} {G F : Hp} {P : List Addr → Hp → D → Store → Hp → Prop}
    (h : Done K mg W σ μ G F (match lstOf st x, lstOf st y with | some u, some w => f u w st | _, _ => .bad) P) : ∃ u w, lstOf st x = some u ∧ lstOf st y = some w ∧ Done K mg W σ μ G F (f u w st) P := by
  cases e1 : lstOf st x with
  | none => rw [e1] at h; exact h.elim
  | some u =>
    cases e2 : lstOf st y with
    | none => rw [e1, e2] at h; exact h.elim
    | some w =>
      rw [e1, e2] at h
      exact ⟨u, w, rfl, rfl, h⟩
abbrev rAddA (K : PySem.W.Frag) : R2 := fun x y H Q => (rI0 fun i j => .int (i + j)) x y H Q ∨ ((∃ i j, x = .str i ∧ y = .str j ∧ i.length + j.length ≤ sizeLine ∧ Q (.str (i ++ j)) H) ∨ (rCat x y H Q ∨ rCatA K x y H Q))
theorem or_add : OpR X (binaryOp .Add) (rAddA X.K) := op_add.or (op_add_str.or (op_cat.or op_catA))
theorem ite_done {c : Prop} [Decidable c] {r : Re D} {W : WX} {σ : L2.St} {μ : List Addr} {G F : Hp} {P : List Addr → Hp → D → Store → Hp → Prop} (h : Done K mg W σ μ G F (if c then r else .bad) P) : c ∧ Done K mg W σ μ G F r P := by
  by_cases hc : c
  · rw [if_pos hc] at h; exact ⟨hc, h⟩
  · rw [if_neg hc] at h; exact h.elim
theorem s_add (b : Bool) : S2 K mg (addD b) (rAddA K) := by
  intro W σ μ G F st H x y v w Q k rx ry h
  have lists : (Done K mg W σ μ G F (match lstOf st x, lstOf st y with | some u, some w => if room (u.length + w.length) then mkNew b (u ++ w) st else .bad | _, _ => .bad) (Fin K Q)) → rAddA K v w H Q := by
    intro h
    obtain ⟨u, w', e1, e2, h⟩ := lists2 (f := fun u w st => if room (u.length + w.length) then mkNew b (u ++ w) st else .bad) h
    obtain ⟨hr, h⟩ := ite_done h
    obtain ⟨a, us, rfl, ha, ru⟩ := lstOf_rep k rx e1
    obtain ⟨c, ws, rfl, hc, rw'⟩ := lstOf_rep k ry e2
    refine .inr (.inr (.inl ⟨a, c, us, ws, rfl, rfl, ha, hc, ?_, new_list k (ru.append rw') h⟩))
    rw [ru.length, rw'.length]
    exact room_line hr
  unfold addD at h
  split at h
  · rw [rep_int rx, rep_int ry]
    exact .inl ⟨_, _, rfl, rfl, fin_here k h .int⟩
  · obtain ⟨hr, h⟩ := ite_done h
    rw [rep_str rx, rep_str ry]
    exact .inr (.inl ⟨_, _, rfl, rfl, room_line hr, fin_here k h .str⟩)
  · rename_i us ws
    obtain ⟨hr, h⟩ := ite_done h
    obtain ⟨a, vs, rfl, ha, ru⟩ := rep_tup rx
    obtain ⟨c, zs, rfl, hc, rz⟩ := rep_tup ry
    refine .inr (.inr (.inr ⟨a, c, vs, zs, rfl, rfl, k.ex.sqt ha, k.ex.sqt hc, by rw [ru.length, rz.length]; exact room_line hr, fun e => ?_, fun _ e => ?_, fun _ _ => new_tup k (ru.append rz) h⟩))
    · subst e
      have : us = [] := by
        have := ru.length
        simpa using this.symm
      subst this
      exact fin_here k h ry
    · subst e
      have : ws = [] := by
        have := rz.length
        simpa using this.symm
      subst this
      rw [List.append_nil] at h
      exact fin_here k h rx
  · exact lists h
theorem s_sub : S2 K mg subD (rI0 fun i j => .int (i - j)) := by
  intro W σ μ G F st H x y v w Q k rx ry h
  unfold subD at h
  split at h
  · rw [rep_int rx, rep_int ry]
    exact ⟨_, _, rfl, rfl, fin_here k h .int⟩
  · exact h.elim
abbrev rMulA (K : PySem.W.Frag) : R2 := fun x y H Q => (rI CMul fun i j => .int (i * j)) x y H Q ∨ (rRep x y H Q ∨ rRepT K x y H Q)
theorem or_mul : OpR X (binaryOp .Mult) (rMulA X.K) := op_mul.or (op_rep.or op_repT)
theorem Reps.rep {μ : List Addr} {G : Hp} {ds : List D} {vs : List V} (h : Reps K μ G ds vs) : ∀ n : Nat, Reps K μ G (List.replicate n ds).flatten (List.replicate n vs).flatten
  | 0 => .nil
  | n + 1 => by
    rw [List.replicate_succ, List.replicate_succ, List.flatten_cons, List.flatten_cons]
    exact h.append (Reps.rep h n)
theorem s_mul (b : Bool) : S2 K mg (mulD b) (rMulA K) := by
  intro W σ μ G F st H x y v w Q k rx ry h
  unfold mulD at h
  split at h
  · obtain ⟨hr, h⟩ := ite_done h
    rw [rep_int rx, rep_int ry]
    exact .inl ⟨_, _, rfl, rfl, hr, fin_here k h .int⟩
  · obtain ⟨⟨h1, h2, h3, h4⟩, h⟩ := ite_done h
    obtain ⟨a, vs, rfl, ha, ru⟩ := rep_tup rx
    rw [rep_int ry]
    refine .inr (.inr ⟨a, _, vs, rfl, rfl, k.ex.sqt ha, fun e => ?_, h2, h3, by rw [ru.length]; exact h4, new_tup k (ru.rep _) h⟩)
    subst e
    exact h1 (by simpa using ru.length.symm)
  · split at h
    · rename_i us e
      obtain ⟨⟨h1, h2, h3⟩, h⟩ := ite_done h
      obtain ⟨a, vs, rfl, ha, ru⟩ := lstOf_rep k rx e
      rw [rep_int ry]
      exact .inr (.inl ⟨a, _, vs, rfl, rfl, ha, h1, h2, by rw [ru.length]; exact room_line h3, new_list k (ru.rep _) h⟩)
    · exact h.elim
  · exact h.elim
theorem s_int {f : D → D → Store → Re D} {C : Int → Int → Prop} {g : Int → Int → V} (hf : ∀ W σ μ G F st x y P, Done K mg W σ μ G F (f x y st) P → ∃ i j, x = .int i ∧ y = .int j ∧ C i j ∧ ∃ d, (∀ μ G, Rep K μ G d (g i j)) ∧ Done K mg W σ μ G F (.ok d st) P) : S2 K mg f (rI C g) := by
  intro W σ μ G F st H x y v w Q k rx ry h
  obtain ⟨i, j, rfl, rfl, hc, d, hd, h⟩ := hf _ _ _ _ _ _ _ _ _ h
  rw [rep_int rx, rep_int ry]
  exact ⟨i, j, rfl, rfl, hc, fin_here k h (hd _ _)⟩
theorem s_int0 {f : D → D → Store → Re D} {g : Int → Int → V} (hf : ∀ W σ μ G F st x y P, Done K mg W σ μ G F (f x y st) P → ∃ i j, x = .int i ∧ y = .int j ∧ ∃ d, (∀ μ G, Rep K μ G d (g i j)) ∧ Done K mg W σ μ G F (.ok d st) P) : S2 K mg f (rI0 g) := by
  intro W σ μ G F st H x y v w Q k rx ry h
  obtain ⟨i, j, rfl, rfl, d, hd, h⟩ := hf _ _ _ _ _ _ _ _ _ h
  rw [rep_int rx, rep_int ry]
  exact ⟨i, j, rfl, rfl, fin_here k h (hd _ _)⟩
theorem s_fdiv : S2 K mg fdivD (rI CDiv fun i j => .int (i / j)) := s_int fun W σ μ G F st x y P h => by
  unfold fdivD at h
  split at h
  · obtain ⟨hr, h⟩ := ite_done h
    exact ⟨_, _, rfl, rfl, hr, _, fun _ _ => .int, h⟩
  · exact h.elim
theorem s_mod : S2 K mg modD (rI (fun _ j => 0 < j) fun i j => .int (i % j)) := s_int fun W σ μ G F st x y P h => by
  unfold modD at h
  split at h
  · obtain ⟨hr, h⟩ := ite_done h
    exact ⟨_, _, rfl, rfl, hr, _, fun _ _ => .int, h⟩
  · exact h.elim
theorem s_pow : S2 K mg powD (rI CPow fun i j => .int (i ^ j.toNat)) := s_int fun W σ μ G F st x y P h => by
  unfold powD at h
  split at h
  · obtain ⟨hr, h⟩ := ite_done h
    exact ⟨_, _, rfl, rfl, hr, _, fun _ _ => .int, h⟩
  · exact h.elim
theorem s_shl : S2 K mg shlD (rI CPow fun i j => .int (i * 2 ^ j.toNat)) := s_int fun W σ μ G F st x y P h => by
  unfold shlD at h
  split at h
  · obtain ⟨hr, h⟩ := ite_done h
    exact ⟨_, _, rfl, rfl, hr, _, fun _ _ => .int, h⟩
  · exact h.elim
theorem s_shr : S2 K mg shrD (rI (fun _ j => 0 ≤ j) fun i j => .int (i / 2 ^ j.toNat)) := s_int fun W σ μ G F st x y P h => by
  unfold shrD at h
  split at h
  · obtain ⟨hr, h⟩ := ite_done h
    exact ⟨_, _, rfl, rfl, hr, _, fun _ _ => .int, h⟩
  · exact h.elim
theorem s_and : S2 K mg andD (rI0 fun i j => .int (Builtin.bitAnd i j)) := s_int0 fun W σ μ G F st x y P h => by
  unfold andD at h
  split at h
  · exact ⟨_, _, rfl, rfl, _, fun _ _ => .int, h⟩
  · exact h.elim
theorem s_le : S2 K mg leD (rI0 fun i j => .bl (decide (i ≤ j))) := s_int0 fun W σ μ G F st x y P h => by
  unfold leD at h
  split at h
  · exact ⟨_, _, rfl, rfl, _, fun _ _ => .bl, h⟩
  · exact h.elim
theorem s_gt : S2 K mg gtD (rI0 fun i j => .bl (decide (j < i))) := s_int0 fun W σ μ G F st x y P h => by
  unfold gtD at h
  split at h
  · exact ⟨_, _, rfl, rfl, _, fun _ _ => .bl, h⟩
  · exact h.elim
theorem s_ge : S2 K mg geD (rI0 fun i j => .bl (decide (j ≤ i))) := s_int0 fun W σ μ G F st x y P h => by
  unfold geD at h
  split at h
  · exact ⟨_, _, rfl, rfl, _, fun _ _ => .bl, h⟩
  · exact h.elim
abbrev rLtA : R2 := fun x y H Q => (rI0 fun i j => .bl (decide (i < j))) x y H Q ∨ (∃ i j, x = .str i ∧ y = .str j ∧ Q (.bl (decide (i.cps.toList < j.cps.toList))) H)
theorem or_lt : OpR X (compareOp .Lt) rLtA := op_lt.or op_lt_str
theorem s_lt : S2 K mg ltD rLtA := by
  intro W σ μ G F st H x y v w Q k rx ry h
  unfold ltD at h
  split at h
  · rw [rep_int rx, rep_int ry]
    exact .inl ⟨_, _, rfl, rfl, fin_here k h .bl⟩
  · rw [rep_str rx, rep_str ry]
    exact .inr ⟨_, _, rfl, rfl, fin_here k h .bl⟩
  · exact h.elim
abbrev rEqA (K : PySem.W.Frag) : R2 := fun x y H Q => rEq x y H Q ∨ rEqD K x y H Q
abbrev rNeA (K : PySem.W.Frag) : R2 := fun x y H Q => rNe x y H Q ∨ rNeD K x y H Q
theorem or_eq (hu : X.A.units + 64 < cLine) : OpR X (compareOp .Eq) (rEqA X.K) := op_eq.or (op_eqD hu)
theorem or_ne (hu : X.A.units + 64 < cLine) : OpR X (compareOp .NotEq) (rNeA X.K) := op_ne.or (op_neD hu)
theorem eqB_dp {μ : List Addr} {G F : Hp} {st : Store} {H : Hp} {x y : D} {v w : V} {b : Bool} (k : Kn K mg μ G F st H) (rx : Rep K μ G x v) (ry : Rep K μ G y w) (h : eqB st x y = some b) :
    (scal v w = true ∧ decide (v = w) = b) ∨ ∃ d e, Dp K H v d ∧ Dp K H w e ∧ SeqAt.shaped d = true ∧ SeqAt.shaped e = true ∧ PyData.eqv d e = b := by
  unfold eqB at h
  split at h
  · rw [rep_non rx, rep_non ry]
    injection h with h
    subst h
    exact .inl ⟨rfl, rfl⟩
  · rw [rep_int rx, rep_int ry]
    injection h with h
    subst h
    exact .inl ⟨rfl, by simp⟩
  · rw [rep_bl rx, rep_bl ry]
    injection h with h
    subst h
    exact .inl ⟨rfl, by simp⟩
  · rw [rep_str rx, rep_str ry]
    injection h with h
    subst h
    exact .inl ⟨rfl, by simp⟩
  · split at h
    · rename_i hc
      rw [Bool.and_eq_true] at hc
      injection h with h
      subst h
      exact .inr ⟨_, _, res_dp k rx hc.1, res_dp k ry hc.2, okd_shaped hc.1, okd_shaped hc.2, rfl⟩
    · cases h
theorem s_eq : S2 K mg eqD (rEqA K) := by
  intro W σ μ G F st H x y v w Q k rx ry h
  unfold eqD at h
  split at h
  · rename_i b e
    have q : Q (.bl b) H := fin_here k h .bl
    rcases eqB_dp k rx ry e with ⟨h1, h2⟩ | ⟨d, e, h1, h2, h3, h4, h5⟩
    · exact .inl ⟨h1, by rw [h2]; exact q⟩
    · exact .inr ⟨d, e, h1, h2, h3, h4, by rw [h5]; exact q⟩
  · exact h.elim
theorem s_ne : S2 K mg neD (rNeA K) := by
  intro W σ μ G F st H x y v w Q k rx ry h
  unfold neD at h
  split at h
  · rename_i b e
    have q : Q (.bl !b) H := fin_here k h .bl
    rcases eqB_dp k rx ry e with ⟨h1, h2⟩ | ⟨d, e, h1, h2, h3, h4, h5⟩
    · exact .inl ⟨h1, by rw [h2]; exact q⟩
    · exact .inr ⟨d, e, h1, h2, h3, h4, by rw [h5]; exact q⟩
  · exact h.elim
abbrev rIsA : R2 := fun x y H Q => (∃ a b, x = .bl a ∧ y = .bl b ∧ Q (.bl (decide (a = b))) H) ∨ (y = .non ∧ Q (.bl (decide (x = .non))) H)
abbrev rIsnotA : R2 := fun x y H Q => (∃ a b, x = .bl a ∧ y = .bl b ∧ Q (.bl (!decide (a = b))) H) ∨ (y = .non ∧ Q (.bl (!decide (x = .non))) H)
theorem or_is : OpR X (compareOp .Is) rIsA := op_is_bl.or op_isN
theorem or_isnot : OpR X (compareOp .IsNot) rIsnotA := op_isnot_bl.or op_notN
theorem rep_isnon {μ : List Addr} {G : Hp} {x : D} {v : V} (r : Rep K μ G x v) : decide (v = .non) = isNon x := by
  cases x with
  | non => rw [rep_non r]; rfl
  | bl b => rw [rep_bl r]; rfl
  | int b => rw [rep_int r]; rfl
  | str b => rw [rep_str r]; rfl
  | tup b => obtain ⟨a, vs, rfl, _⟩ := rep_tup r; rfl
  | lst b => obtain ⟨a, vs, rfl, _⟩ := rep_lst r; rfl
  | frz b => obtain ⟨a, vs, rfl, _⟩ := rep_frz r; rfl
  | loc b => obtain ⟨a, rfl, _⟩ := rep_loc r; rfl
  | exn _ _ _ => obtain ⟨vs, rfl, _⟩ := rep_exn r; rfl
theorem s_is : S2 K mg isD rIsA := by
  intro W σ μ G F st H x y v w Q k rx ry h
  unfold isD at h
  split at h
  · rw [rep_bl rx, rep_bl ry]
    exact .inl ⟨_, _, rfl, rfl, fin_here k h .bl⟩
  · refine .inr ⟨rep_non ry, ?_⟩
    rw [rep_isnon rx]
    exact fin_here k h .bl
  · exact h.elim
theorem s_isnot : S2 K mg isnotD rIsnotA := by
  intro W σ μ G F st H x y v w Q k rx ry h
  unfold isnotD at h
  split at h
  · rw [rep_bl rx, rep_bl ry]
    exact .inl ⟨_, _, rfl, rfl, fin_here k h .bl⟩
  · refine .inr ⟨rep_non ry, ?_⟩
    rw [rep_isnon rx]
    exact fin_here k h .bl
  · exact h.elim

/-! ### in, subscripts, truth, slices -/
/-- x in a list or tuple of data of any depth -/
def rInA (K : PySem.W.Frag) (neg : Bool) : R2 := fun x y H Q => ∃ d ds, Dp K H x d ∧ (Dp K H y (.list ds) ∨ Dp K H y (.tuple ds)) ∧ SeqAt.shaped d = true ∧ SeqAt.shaped (.list ds) = true ∧ Q (.bl (if neg then !ds.any fun z => PyData.eqv z d else ds.any fun z => PyData.eqv z d)) H
theorem op_inA (hu : X.A.units + 65 < cLine) : OpR X (compareOp .In) (rInA X.K false) := by
  intro pins s σ H x y v u Q I rx ry h
  obtain ⟨d, ds, hd, he, sd, se, q⟩ := h
  obtain ⟨as, r1⟩ := Dp.reads I d x v hd rx
  rcases he with he | he
  · obtain ⟨bs, r2⟩ := Dp.reads I (.list ds) y u he ry
    exact SeqAt.in_list_reads r2 r1 (SeqAt.canLay_of_shaped se) (SeqAt.canLay_of_shaped sd) (room_in_shaped sd hu) ⟨.bl _, H, I, rfl, q⟩
  · obtain ⟨bs, r2⟩ := Dp.reads I (.tuple ds) y u he ry
    exact SeqAt.in_tuple_reads r2 r1 (SeqAt.canLay_of_shaped (show SeqAt.shaped (.tuple ds) = true from se)) (SeqAt.canLay_of_shaped sd) (room_in_shaped sd hu) ⟨.bl _, H, I, rfl, q⟩
theorem op_notInA (hu : X.A.units + 65 < cLine) : OpR X (compareOp .NotIn) (rInA X.K true) := by
  intro pins s σ H x y v u Q I rx ry h
  obtain ⟨d, ds, hd, he, sd, se, q⟩ := h
  obtain ⟨as, r1⟩ := Dp.reads I d x v hd rx
  rcases he with he | he
  · obtain ⟨bs, r2⟩ := Dp.reads I (.list ds) y u he ry
    exact SeqAt.notIn_list_reads r2 r1 (SeqAt.canLay_of_shaped se) (SeqAt.canLay_of_shaped sd) (room_in_shaped sd hu) ⟨.bl _, H, I, rfl, q⟩
  · obtain ⟨bs, r2⟩ := Dp.reads I (.tuple ds) y u he ry
    exact SeqAt.notIn_tuple_reads r2 r1 (SeqAt.canLay_of_shaped (show SeqAt.shaped (.tuple ds) = true from se)) (SeqAt.canLay_of_shaped sd) (room_in_shaped sd hu) ⟨.bl _, H, I, rfl, q⟩
def rSgn (neg : Bool) : R2 := fun x y H Q => ∃ (c : Nat) (z : Str), x = .str ⟨#[c]⟩ ∧ y = .str z ∧ Q (.bl (if neg then !decide (c ∈ z.cps.toList) else decide (c ∈ z.cps.toList))) H
abbrev rInB (K : PySem.W.Frag) (neg : Bool) : R2 := fun x y H Q => rSgn neg x y H Q ∨ (rIn K neg x y H Q ∨ rInA K neg x y H Q)
theorem or_in (hu : X.A.units + 65 < cLine) : OpR X (compareOp .In) (rInB X.K false) := OpR.or (r := rSgn false) op_in_sign (op_in_seq.or (op_inA hu))
theorem or_nin (hu : X.A.units + 65 < cLine) : OpR X (compareOp .NotIn) (rInB X.K true) := OpR.or (r := rSgn true) op_notIn_sign (op_notIn_seq.or (op_notInA hu))
theorem flat_rep {μ : List Addr} {G : Hp} {x : D} {v : V} (r : Rep K μ G x v) (f : flatD x = true) : flatV v = true := by
  cases x with
  | non => rw [rep_non r]; rfl
  | bl b => rw [rep_bl r]; rfl
  | int b => rw [rep_int r]; rfl
  | str b => rw [rep_str r]; rfl
  | _ => cases f
theorem flats_rep {μ : List Addr} {G : Hp} : ∀ {xs : List D} {vs : List V}, Reps K μ G xs vs → xs.all flatD = true → vs.all flatV = true
  | [], vs, r, _ => by rw [reps_nil r]; rfl
  | x :: xs, vs, r, f => by
    obtain ⟨v, t, rfl, hv, ht⟩ := reps_cons r
    rw [List.all_cons, Bool.and_eq_true] at f
    rw [List.all_cons, flat_rep hv f.1, flats_rep ht f.2]
    rfl
theorem eqV_rep {μ : List Addr} {G : Hp} {x y : D} {v w : V} (rx : Rep K μ G x v) (ry : Rep K μ G y w) (fx : flatD x = true) (fy : flatD y = true) : eqV v w = eqvD x y := by
  cases x <;> cases y <;> first
    | exact absurd fx Bool.false_ne_true
    | exact absurd fy Bool.false_ne_true
    | (simp only [Rep] at rx ry; subst rx; subst ry; simp [eqV, eqvD, pd, PyData.eqv])
theorem any_rep {μ : List Addr} {G : Hp} {x : D} {v : V} (rx : Rep K μ G x v) (fx : flatD x = true) : ∀ {ys : List D} {ws : List V}, Reps K μ G ys ws → ys.all flatD = true → inV v ws = ys.any fun z => eqvD z x
  | [], ws, r, _ => by rw [reps_nil r]; rfl
  | y :: ys, ws, r, f => by
    obtain ⟨w, t, rfl, hw, ht⟩ := reps_cons r
    rw [List.all_cons, Bool.and_eq_true] at f
    have ih := any_rep rx fx ht f.2
    unfold inV at ih ⊢
    rw [List.any_cons, List.any_cons, ih, eqV_rep hw rx f.1 fx]
theorem any_pds {x : D} : ∀ ys : List D, ((pds ys).any fun z => PyData.eqv z (pd x)) = ys.any fun z => eqvD z x
  | [] => rfl
  | y :: ys => by rw [pds, List.any_cons, List.any_cons, any_pds ys]; rfl
theorem reps_dps {μ : List Addr} {G H : Hp} (e : Ex G H) (n : Nat) : ∀ (ds : List D) (vs : List V), ds.all (okd n) = true → Reps K μ G ds vs → DpAll K H vs (pds ds)
  | [], vs, _, r => by rw [reps_nil r]; exact .nil
  | d :: ds, vs, h, r => by
    obtain ⟨v, t, rfl, hv, ht⟩ := reps_cons r
    rw [List.all_cons, Bool.and_eq_true] at h
    exact .cons (rep_dp e n d v h.1 hv) (reps_dps e n ds t h.2 ht)
theorem inB_rep {neg : Bool} {μ : List Addr} {G F : Hp} {st : Store} {H : Hp} {x y : D} {v w : V} {b : Bool} {Q : VK} (k : Kn K mg μ G F st H) (rx : Rep K μ G x v) (ry : Rep K μ G y w) (h : inB st x y = some b)
    (q : Q (.bl (if neg then !b else b)) H) : rInB K neg v w H Q := by
  have main : ∀ ds, seqOf st y = some ds → (if flatD x && ds.all flatD then some (ds.any fun z => eqvD z x) else if okd 60 x && ds.all (okd 59) then some (ds.any fun z => eqvD z x) else none) = some b → rInB K neg v w H Q := by
    intro ds e h
    obtain ⟨a, vs, rfl, hs, rs⟩ := seqOf_rep k ry e
    split at h
    · rename_i hc
      rw [Bool.and_eq_true] at hc
      injection h with h
      refine .inr (.inl ⟨a, vs, rfl, hs, flat_rep rx hc.1, flats_rep rs hc.2, ?_⟩)
      rw [any_rep rx hc.1 rs hc.2, h]
      exact q
    · split at h
      · rename_i hc
        rw [Bool.and_eq_true] at hc
        injection h with h
        refine .inr (.inr ⟨pd x, pds ds, rep_dp k.ex 60 _ _ hc.1 rx, ?_, okd_shaped hc.1, okd_shaped (d := .lst ds) (by simpa [okd] using hc.2), ?_⟩)
        · rcases hs with hs | hs
          · exact .inl (.lst hs (reps_dps k.ex 59 ds vs hc.2 rs))
          · exact .inr (.tup hs (reps_dps k.ex 59 ds vs hc.2 rs))
        · rw [any_pds, h]
          exact q
      · cases h
  unfold inB at h
  split at h
  · split at h
    · rename_i s e
      injection h with h
      subst h
      rw [rep_str rx, rep_str ry]
      refine .inl ⟨s, _, ?_, rfl, q⟩
      rename_i c _ _
      have : c = ⟨#[s]⟩ := by
        cases c with
        | mk cps =>
          have e' : cps.toList = [s] := e
          have : cps = #[s] := by
            apply Array.toList_inj.mp
            exact e'
          rw [this]
      rw [this]
    · cases h
  · split at h
    · rename_i e
      exact main _ e h
    · cases h
theorem s_in : S2 K mg inD (rInB K false) := by
  intro W σ μ G F st H x y v w Q k rx ry h
  unfold inD at h
  split at h
  · rename_i b e
    exact inB_rep (neg := false) k rx ry e (fin_here k h .bl)
  · exact h.elim
theorem s_nin : S2 K mg ninD (rInB K true) := by
  intro W σ μ G F st H x y v w Q k rx ry h
  unfold ninD at h
  split at h
  · rename_i b e
    exact inB_rep (neg := true) k rx ry e (fin_here k h .bl)
  · exact h.elim
theorem atI_rep {μ : List Addr} {G : Hp} {ds : List D} {vs : List V} {i : Int} {d : D} (r : Reps K μ G ds vs) (h : atI ds i = some d) : ∃ v, atI vs i = some v ∧ Rep K μ G d v := by
  unfold atI at h ⊢
  rw [r.length]
  cases e : ixN ds.length i with
  | none => rw [e] at h; cases h
  | some j =>
    rw [e] at h
    exact r.get h
theorem s_ix : S2 K mg ixD (rIx K) := by
  intro W σ μ G F st H x y v w Q k rx ry h
  unfold ixD at h
  split at h
  · obtain ⟨hr, h⟩ := ite_done h
    split at h
    · rename_i c e
      rw [rep_str rx, rep_int ry]
      exact .inr (.inr ⟨_, _, c, rfl, rfl, room_line hr, e, fin_here k h .str⟩)
    · exact h.elim
  · split at h
    · rename_i ds e
      split at h
      · rename_i d e2
        obtain ⟨a, vs, rfl, hs, rs⟩ := seqOf_rep k rx e
        obtain ⟨z, e3, rz⟩ := atI_rep rs e2
        rw [rep_int ry]
        have q := fin_here k h rz
        rcases hs with hs | hs
        · exact .inl ⟨a, vs, _, z, rfl, rfl, hs, e3, q⟩
        · exact .inr (.inl ⟨a, vs, _, z, rfl, rfl, hs, e3, q⟩)
      · exact h.elim
    · exact h.elim
  · exact h.elim
theorem s_neg : S1 K mg negD (rU fun i => .int (-i)) := by
  intro W σ μ G F st H x v Q k rx h
  unfold negD at h
  split at h
  · rw [rep_int rx]
    exact ⟨_, rfl, fin_here k h .int⟩
  · exact h.elim
theorem isEmpty_reps {μ : List Addr} {G : Hp} {ds : List D} {vs : List V} (r : Reps K μ G ds vs) : vs.isEmpty = ds.isEmpty := by
  have := r.length
  cases ds <;> cases vs <;> simp_all
theorem truth_rep {μ : List Addr} {G F : Hp} {st : Store} {H : Hp} {x : D} {v : V} {b : Bool} (k : Kn K mg μ G F st H) (r : Rep K μ G x v) (h : truthB st x = some b) : TruV K v H b := by
  cases x with
  | non => rw [rep_non r]; injection h with h; exact h.symm
  | bl c => rw [rep_bl r]; injection h with h; exact h.symm
  | int c => rw [rep_int r]; injection h with h; exact h.symm
  | str z =>
    rw [rep_str r]
    by_cases hr : room z.length
    · have h' : some ((z.length : Int) != 0) = some b := by
        rw [← h]
        simp only [truthB, if_pos hr]
      injection h' with h'
      exact ⟨room_line hr, h'.symm⟩
    · have h' : none = some b := by
        rw [← h]
        simp only [truthB, if_neg hr]
      cases h'
  | tup ds =>
    obtain ⟨a, vs, rfl, hs, rs⟩ := rep_tup r
    injection h with h
    exact .inr (.inl ⟨vs, k.ex.sqt hs, by rw [isEmpty_reps rs]; exact h.symm⟩)
  | lst ds =>
    obtain ⟨a, vs, rfl, hs, rs⟩ := rep_lst r
    injection h with h
    exact .inl ⟨vs, .of (k.ex _ _ hs), by rw [isEmpty_reps rs]; exact h.symm⟩
  | frz ds =>
    obtain ⟨a, vs, rfl, hs, rs⟩ := rep_frz r
    injection h with h
    exact .inl ⟨vs, k.ex.sql hs, by rw [isEmpty_reps rs]; exact h.symm⟩
  | exn _ _ _ => simp only [truthB] at h; cases h
  | loc n =>
    obtain ⟨a, rfl, ha⟩ := rep_loc r
    simp only [truthB] at h
    split at h
    · rename_i ds e
      obtain ⟨a', o, h1, _, _, h4, vs, rfl, q⟩ := k.cell n _ (cell_some e)
      rw [ha] at h1
      cases h1
      injection h with h
      exact .inl ⟨vs, .of h4, by rw [isEmpty_reps q]; exact h.symm⟩
    · rename_i kvs e
      obtain ⟨a', o, h1, _, _, h4, ps, rfl, q⟩ := k.cell n _ (cell_some e)
      rw [ha] at h1
      cases h1
      injection h with h
      refine .inr (.inr ⟨ps, h4, ?_⟩)
      cases kvs with
      | nil =>
        have : ps = [] := q
        rw [this]
        exact h.symm
      | cons p r =>
        obtain ⟨k, d⟩ := p
        obtain ⟨_, s, rfl, _⟩ := q
        exact h.symm
    · cases h
theorem Reps.cut {μ : List Addr} {G : Hp} {ds : List D} {vs : List V} (r : Reps K μ G ds vs) (lo hi : Option Int) : Reps K μ G (cutD ds lo hi) (cutV vs lo hi) := by
  unfold cutD cutV
  rw [r.length]
  exact (r.drop _).take _
end
end Dn
namespace Dn
open PySem PySem.Spec PyProof.Rows L2

abbrev ME (X : Cx) (W : WX) (e : Expr) (m : EM) : Prop := PE X e (tE X.K X.mg W m)
abbrev MT (X : Cx) (W : WX) (e : Expr) (m : EM) : Prop := PT X e (tT X.K X.mg W m)
abbrev MW (X : Cx) (W : WX) (e : Expr) (m : EM) : Prop := PW X e (tT X.K X.mg W m)
abbrev MA (X : Cx) (W : WX) (es : List Expr) (m : EMs) : Prop := PA X es (tA X.K X.mg W m)

/-! ### terms -/
def getV (vs : Vars) (i : Nat) : Option D := (vs[i]?).join
def eV (i : Nat) : EM := fun vs st => match getV vs i with
  | some d => .ok d st
  | none => .bad
def eC (d : D) : EM := fun _ st => .ok d st
def e1 (f : D → Store → Re D) (a : EM) : EM := fun vs st => (a vs st).bind fun x st => f x st
def e2 (f : D → D → Store → Re D) (a b : EM) : EM := fun vs st => (a vs st).bind fun x st => (b vs st).bind fun y st => f x y st
def onB (d : D) (t f : Re D) : Re D := match d with
  | .bl true => t
  | .bl false => f
  | _ => .bad
def eAnd (a b : EM) : EM := fun vs st => (a vs st).bind fun x st => onB x (b vs st) (.ok (.bl false) st)
def eOr (a b : EM) : EM := fun vs st => (a vs st).bind fun x st => onB x (.ok (.bl true) st) (b vs st)
def eNot (a : EM) : EM := fun vs st => (a vs st).bind fun x st => onB x (.ok (.bl false) st) (.ok (.bl true) st)
def eIf (c a b : EM) : EM := fun vs st => (c vs st).bind fun x st => onB x (a vs st) (b vs st)
def eTru (a : EM) : EM := fun vs st => (a vs st).bind fun x st => match truthB st x with
  | some b => .ok (.bl b) st
  | none => .bad
def aNil : EMs := fun _ st => .ok [] st
def aCons (a : EM) (r : EMs) : EMs := fun vs st => (a vs st).bind fun x st => (r vs st).bind fun xs st => .ok (x :: xs) st
def eTup (as : EMs) : EM := fun vs st => (as vs st).bind fun xs st => if room xs.length then .ok (.tup xs) st else .bad
def eLst (b : Bool) (as : EMs) : EM := fun vs st => (as vs st).bind fun xs st => if room xs.length then mkNew b xs st else .bad
def eN (f : List D → Store → Re D) (as : EMs) : EM := fun vs st => (as vs st).bind fun xs st => f xs st
def eChain (f g : D → D → Store → Re D) (a b c : EM) : EM := fun vs st => (a vs st).bind fun x st => (b vs st).bind fun y st => (f x y st).bind fun z st => onB z ((c vs st).bind fun w st => g y w st) (.ok (.bl false) st)
def oNone : Vars → Store → Re (Option Int) := fun _ st => .ok none st
def oSome (a : EM) : Vars → Store → Re (Option Int) := fun vs st => (a vs st).bind fun x st => match x with
  | .int i => .ok (some i) st
  | _ => .bad
def eSl (b : Bool) (a : EM) (lo hi : Vars → Store → Re (Option Int)) : EM := fun vs st => (a vs st).bind fun x st => (lo vs st).bind fun l st => (hi vs st).bind fun h st => sliceD b x l h st
/-- a def as a function -/
abbrev FnD := List D → Store → Re D

section
variable {K : PySem.W.Frag} {mg : Str → Option Value} {W : WX} {σ : L2.St} {μ : List Addr} {G F : Hp} {H : Hp} {Q : VK}
end

/-! ### the rules -/
section
variable {X : Cx} {W : WX} {e a b c : Expr} {es : List Expr} {ma mb mc : EM} {ms : EMs} {pos : Pos}
theorem m_var (i : Nat) {x : Str} (hN : X.N[i]? = some x := by rfl) (hv : Vis X.env.scope x := by first | exact Or.inl rfl | exact Or.inr (Or.inl rfl) | exact Or.inr (Or.inr rfl)) (hd : (x == ("__debug__" : Str)) = false := by decide)
    (hcd : (x == ("__classdict__" : Str)) = false := by decide) : ME X W (.Name x pos) (eV i) := (pe_var hN hv hd hcd).of fun σ H Q h => by
  obtain ⟨vs, st, μ, G, F, re, k, h⟩ := h
  unfold eV getV at h
  cases hv : vs[i]? with
  | none => rw [hv] at h; exact h.elim
  | some o =>
    cases o with
    | none => rw [hv] at h; exact h.elim
    | some d =>
      rw [hv] at h
      obtain ⟨v, e, r⟩ := re.get i d hv
      exact ⟨v, e, fin_here k h r⟩
theorem const_of {d : D} {v : V} (h : PE X e (tC v)) (r : ∀ μ G, Rep X.K μ G d v) : ME X W e (eC d) := h.of fun σ H Q h => by
  obtain ⟨vs, st, μ, G, F, re, k, h⟩ := h
  exact fin_here k h (r μ G)
theorem m_int {i : Int} {j : Nat} : ME X W (.Constant (.int i) j pos) (eC (.int i)) := const_of pe_int fun _ _ => .int
theorem m_bl {i : Bool} {j : Nat} : ME X W (.Constant (.bool i) j pos) (eC (.bl i)) := const_of pe_bl fun _ _ => .bl
theorem m_non {j : Nat} : ME X W (.Constant .none j pos) (eC .non) := const_of pe_non fun _ _ => .non
theorem m_str {i : Str} {j : Nat} : ME X W (.Constant (.str i) j pos) (eC (.str i)) := const_of pe_str fun _ _ => .str
/-- a module's constant -/
structure Cst (K : PySem.W.Frag) (mg : Str → Option Value) (x : Str) (d : D) : Prop where
  ex : ∃ u v, mg x = some u ∧ RelV v u ∧ ∀ μ G, Rep K μ G d v
theorem m_glob {x : Str} {d : D} (c : Cst X.K X.mg x d) (hg : Gl X x := by rfl) (hd : (x == ("__debug__" : Str)) = false := by decide) : ME X W (.Name x pos) (eC d) := by
  obtain ⟨u, v, h1, h2, h3⟩ := c.ex
  exact const_of (pe_glob hg h1 h2 hd) h3
/-- two operands in a row -/
theorem two_of {r : R2} {f : D → D → Store → Re D} (hs : S2 X.K X.mg f r) (ha : ME X W a ma) (hb : ME X W b mb) (σ : L2.St) (H : Hp) (Q : VK) (h : tE X.K X.mg W (e2 f ma mb) σ H Q) :
    tOp r (tE X.K X.mg W ma) (tE X.K X.mg W mb) σ H Q := by
  obtain ⟨vs, st, μ, G, F, re, k, h⟩ := h
  refine ⟨vs, st, μ, G, F, re, k, (Done.bind h).mono fun μ1 G1 x st1 H1 f1 k1 h1 v rv => ?_⟩
  refine ⟨vs, st1, μ1, G1, F, re.fut f1, k1, (Done.bind h1).mono fun μ2 G2 y st2 H2 f2 k2 h2 w rw' => ?_⟩
  exact hs W σ μ2 G2 F st2 H2 x y v w Q k2 (rv.fut f2) rw' h2
theorem tT_tE {m : EM} {σ : L2.St} {H : Hp} {Q : Bool → Hp → Prop} (h : tT X.K X.mg W m σ H Q) : tE X.K X.mg W m σ H fun x H' => ∃ k, x = .bl k ∧ Q k H' := by
  obtain ⟨vs, st, μ, G, F, re, k, h⟩ := h
  refine ⟨vs, st, μ, G, F, re, k, h.mono fun μ1 G1 x st1 H1 f1 k1 h1 v rv => ?_⟩
  obtain ⟨b, rfl, q⟩ := h1
  exact ⟨b, rep_bl rv, q⟩
theorem m_op {op : Operator} {r : R2} {f : D → D → Store → Re D} (ho : OpR X (binaryOp op) r) (hs : S2 X.K X.mg f r) (ha : ME X W a ma) (hb : ME X W b mb) : ME X W (.BinOp a op b pos) (e2 f ma mb) := (pe_op ho ha hb).of (two_of hs ha hb)
theorem m_un {op : UnaryOp} {r : V → Hp → VK → Prop} {f : D → Store → Re D} (ho : UnR X (unaryOp op) r) (hs : S1 X.K X.mg f r) (ha : ME X W a ma) : ME X W (.UnaryOp op a pos) (e1 f ma) := (pe_un ho ha).of fun σ H Q h => by
  obtain ⟨vs, st, μ, G, F, re, k, h⟩ := h
  exact ⟨vs, st, μ, G, F, re, k, (Done.bind h).mono fun μ1 G1 x st1 H1 f1 k1 h1 v rv => hs W σ μ1 G1 F st1 H1 x v Q k1 rv h1⟩
theorem m_cmp {op : CmpOp} {r : R2} {f : D → D → Store → Re D} (ho : OpR X (compareOp op) r) (hs : S2 X.K X.mg f r) (ha : ME X W a ma) (hb : ME X W b mb) (hm : behindInMarks op b = false := by first | exact nomark _ | rfl) : ME X W (.Compare a [op] [b] pos) (e2 f ma mb) :=
  (pe_cmpR ho ha hb hm).of (two_of hs ha hb)
theorem t_cmp {op : CmpOp} {r : R2} {f : D → D → Store → Re D} (ho : OpR X (compareOp op) r) (hs : S2 X.K X.mg f r) (ha : ME X W a ma) (hb : ME X W b mb) (hm : behindInMarks op b = false := by first | exact nomark _ | rfl) : MT X W (.Compare a [op] [b] pos) (e2 f ma mb) :=
  (pt_cmpR ho ha hb hm).of fun σ H Q h => two_of hs ha hb σ H _ (tT_tE h)
theorem onB_done {α : Type} {d : D} {r s : Re D} {σ : L2.St} {μ : List Addr} {G F : Hp} {P : List Addr → Hp → D → Store → Hp → Prop} (h : Done X.K X.mg W σ μ G F (onB d r s) P) :
    ∃ k, d = .bl k ∧ Done X.K X.mg W σ μ G F (if k = true then r else s) P := by
  cases d with
  | bl k =>
    refine ⟨k, rfl, ?_⟩
    cases k <;> exact h
  | _ => exact h.elim
theorem chain_of {r r' : R2} {f g : D → D → Store → Re D} (hs : S2 X.K X.mg f r) (hs' : S2 X.K X.mg g r') (ha : ME X W a ma) (hb : ME X W b mb) (hc : ME X W c mc) (σ : L2.St) (H : Hp) (Q : VK) (h : tE X.K X.mg W (eChain f g ma mb mc) σ H Q) :
    tChain r r' (tE X.K X.mg W ma) (tE X.K X.mg W mb) (tE X.K X.mg W mc) σ H Q := by
  obtain ⟨vs, st, μ, G, F, re, k, h⟩ := h
  refine ⟨vs, st, μ, G, F, re, k, (Done.bind h).mono fun μ1 G1 x st1 H1 f1 k1 h1 v rv => ?_⟩
  refine ⟨vs, st1, μ1, G1, F, re.fut f1, k1, (Done.bind h1).mono fun μ2 G2 y st2 H2 f2 k2 h2 w rw' => ?_⟩
  refine hs W σ μ2 G2 F st2 H2 x y v w _ k2 (rv.fut f2) rw' ((Done.bind h2).mono fun μ3 G3 z st3 H3 f3 k3 h3 z' rz => ?_)
  obtain ⟨kk, rfl, h3⟩ := onB_done (α := Unit) h3
  refine ⟨kk, rep_bl rz, ?_⟩
  cases kk with
  | true =>
    rw [if_pos rfl]
    have h3' : Done X.K X.mg W σ μ3 G3 F ((mc vs st3).bind fun w st => g y w st) (Fin X.K Q) := h3
    refine ⟨vs, st3, μ3, G3, F, ((re.fut f1).fut f2).fut f3, k3, (Done.bind h3').mono fun μ4 G4 u st4 H4 f4 k4 h4 u' ru => ?_⟩
    exact hs' W σ μ4 G4 F st4 H4 y u w u' Q k4 ((rw'.fut f3).fut f4) ru h4
  | false =>
    rw [if_neg Bool.false_ne_true]
    exact fin_here k3 h3 .bl
theorem m_chain {op op' : CmpOp} {r r' : R2} {f g : D → D → Store → Re D} (ho : OpR X (compareOp op) r) (hs : S2 X.K X.mg f r) (ho' : OpR X (compareOp op') r') (hs' : S2 X.K X.mg g r') (ha : ME X W a ma) (hb : ME X W b mb) (hc : ME X W c mc)
    (hm : lastMarks [op, op'] [b, c] = false := by with_unfolding_all rfl) : ME X W (.Compare a [op, op'] [b, c] pos) (eChain f g ma mb mc) := (pe_chain ho ho' ha hb hc hm).of (chain_of hs hs' ha hb hc)
theorem t_chain {op op' : CmpOp} {r r' : R2} {f g : D → D → Store → Re D} (ho : OpR X (compareOp op) r) (hs : S2 X.K X.mg f r) (ho' : OpR X (compareOp op') r') (hs' : S2 X.K X.mg g r') (ha : ME X W a ma) (hb : ME X W b mb) (hc : ME X W c mc)
    (hm : lastMarks [op, op'] [b, c] = false := by with_unfolding_all rfl) : MT X W (.Compare a [op, op'] [b, c] pos) (eChain f g ma mb mc) := (pt_chain ho ho' ha hb hc hm).of fun σ H Q h => chain_of hs hs' ha hb hc σ H _ (tT_tE h)

/-! and, or, not, if: as tests, as values -/
variable {mt mu : EM} {rest : List Expr}
theorem w_and1 (ha : MT X W a mt) : MW X W (.BoolOp .And [a] pos) mt := pw_and1 ha
theorem w_or1 (ha : MT X W a mt) : MW X W (.BoolOp .Or [a] pos) mt := pw_or1 ha
theorem w_and (ha : MT X W a mt) (hb : MW X W (.BoolOp .And (b :: rest) pos) mu) : MW X W (.BoolOp .And (a :: b :: rest) pos) (eAnd mt mu) := (pw_and ha hb).of fun σ H Q h => by
  obtain ⟨vs, st, μ, G, F, re, k, h⟩ := h
  refine ⟨vs, st, μ, G, F, re, k, (Done.bind h).mono fun μ1 G1 x st1 H1 f1 k1 h1 => ?_⟩
  obtain ⟨kk, rfl, h1⟩ := onB_done (α := Unit) h1
  refine ⟨kk, rfl, ?_⟩
  cases kk with
  | true => exact ⟨vs, st1, μ1, G1, F, re.fut f1, k1, h1⟩
  | false =>
    obtain ⟨b, e, q⟩ := Done.here k1 h1
    cases e
    exact q
theorem w_or (ha : MT X W a mt) (hb : MW X W (.BoolOp .Or (b :: rest) pos) mu) : MW X W (.BoolOp .Or (a :: b :: rest) pos) (eOr mt mu) := (pw_or ha hb).of fun σ H Q h => by
  obtain ⟨vs, st, μ, G, F, re, k, h⟩ := h
  refine ⟨vs, st, μ, G, F, re, k, (Done.bind h).mono fun μ1 G1 x st1 H1 f1 k1 h1 => ?_⟩
  obtain ⟨kk, rfl, h1⟩ := onB_done (α := Unit) h1
  refine ⟨kk, rfl, ?_⟩
  cases kk with
  | false => exact ⟨vs, st1, μ1, G1, F, re.fut f1, k1, h1⟩
  | true =>
    obtain ⟨b, e, q⟩ := Done.here k1 h1
    cases e
    exact q
theorem t_w (h : MW X W e mt) : MT X W e mt := h.pt
theorem t_not (ha : MT X W a mt) : MT X W (.UnaryOp .Not a pos) (eNot mt) := (pt_not ha).of fun σ H Q h => by
  obtain ⟨vs, st, μ, G, F, re, k, h⟩ := h
  refine ⟨vs, st, μ, G, F, re, k, (Done.bind h).mono fun μ1 G1 x st1 H1 f1 k1 h1 => ?_⟩
  obtain ⟨kk, rfl, h1⟩ := onB_done (α := Unit) h1
  refine ⟨kk, rfl, ?_⟩
  cases kk with
  | false =>
    obtain ⟨b, e, q⟩ := Done.here k1 h1
    cases e
    exact q
  | true =>
    obtain ⟨b, e, q⟩ := Done.here k1 h1
    cases e
    exact q
theorem t_val (h : ME X W e mt) (he : ∀ whole, isTrue e X.env whole = (do let v ← whole; standAt e.pos; holding [v] (truthy v)) := by intro _; rfl) : MT X W e mt := (pt_val h he).of fun σ H Q h => tT_tE h
theorem t_tru (h : ME X W e mt) (he : ∀ whole, isTrue e X.env whole = (do let v ← whole; standAt e.pos; holding [v] (truthy v)) := by intro _; rfl) : MT X W e (eTru mt) := (pt_truth h he).of fun σ H Q h => by
  obtain ⟨vs, st, μ, G, F, re, k, h⟩ := h
  refine ⟨vs, st, μ, G, F, re, k, (Done.bind h).mono fun μ1 G1 x st1 H1 f1 k1 h1 v rv => ?_⟩
  split at h1
  · rename_i b e
    obtain ⟨b', e', q⟩ := Done.here k1 h1
    cases e'
    exact ⟨b, truth_rep k1 rv e, q⟩
  · exact h1.elim
theorem m_one {op : BoolOp} (h : ME X W a mt) : ME X W (.BoolOp op [a] pos) mt := pe_one h
theorem m_and (ha : ME X W a mt) (hb : ME X W (.BoolOp .And (b :: rest) pos) mu) : ME X W (.BoolOp .And (a :: b :: rest) pos) (eAnd mt mu) := (pe_and ha hb).of fun σ H Q h => by
  obtain ⟨vs, st, μ, G, F, re, k, h⟩ := h
  refine ⟨vs, st, μ, G, F, re, k, (Done.bind h).mono fun μ1 G1 x st1 H1 f1 k1 h1 v rv => ?_⟩
  obtain ⟨kk, rfl, h1⟩ := onB_done (α := Unit) h1
  refine ⟨kk, rep_bl rv, ?_⟩
  cases kk with
  | true => exact ⟨vs, st1, μ1, G1, F, re.fut f1, k1, h1⟩
  | false => exact fin_here k1 h1 .bl
theorem m_or (ha : ME X W a mt) (hb : ME X W (.BoolOp .Or (b :: rest) pos) mu) : ME X W (.BoolOp .Or (a :: b :: rest) pos) (eOr mt mu) := (pe_or ha hb).of fun σ H Q h => by
  obtain ⟨vs, st, μ, G, F, re, k, h⟩ := h
  refine ⟨vs, st, μ, G, F, re, k, (Done.bind h).mono fun μ1 G1 x st1 H1 f1 k1 h1 v rv => ?_⟩
  obtain ⟨kk, rfl, h1⟩ := onB_done (α := Unit) h1
  refine ⟨kk, rep_bl rv, ?_⟩
  cases kk with
  | false => exact ⟨vs, st1, μ1, G1, F, re.fut f1, k1, h1⟩
  | true => exact fin_here k1 h1 .bl
theorem m_not (ha : ME X W a mt) : ME X W (.UnaryOp .Not a pos) (eNot mt) := (pe_not ha).of fun σ H Q h => by
  obtain ⟨vs, st, μ, G, F, re, k, h⟩ := h
  refine ⟨vs, st, μ, G, F, re, k, (Done.bind h).mono fun μ1 G1 x st1 H1 f1 k1 h1 v rv => ?_⟩
  obtain ⟨kk, rfl, h1⟩ := onB_done (α := Unit) h1
  refine ⟨kk, rep_bl rv, ?_⟩
  cases kk with
  | false => exact fin_here k1 h1 .bl
  | true => exact fin_here k1 h1 .bl
theorem m_if (hc : MT X W c mt) (ha : ME X W a ma) (hb : ME X W b mb) : ME X W (.IfExp c a b pos) (eIf mt ma mb) := (pe_ifExp hc ha hb).of fun σ H Q h => by
  obtain ⟨vs, st, μ, G, F, re, k, h⟩ := h
  refine ⟨vs, st, μ, G, F, re, k, (Done.bind h).mono fun μ1 G1 x st1 H1 f1 k1 h1 => ?_⟩
  obtain ⟨kk, rfl, h1⟩ := onB_done (α := Unit) h1
  refine ⟨kk, rfl, ?_⟩
  cases kk with
  | true => exact ⟨vs, st1, μ1, G1, F, re.fut f1, k1, h1⟩
  | false => exact ⟨vs, st1, μ1, G1, F, re.fut f1, k1, h1⟩

/-! displays, subscripts, slices -/
theorem ma_nil : MA X W [] aNil := pa_nil.of fun σ H Q h => by
  obtain ⟨vs, st, μ, G, F, re, k, h⟩ := h
  exact Done.here k h [] .nil
theorem ma_cons (ha : ME X W e ma) (hr : MA X W es ms) (hs : starEach (e :: es) X.env = (false, eval e X.env) :: starEach es X.env := by rfl) : MA X W (e :: es) (aCons ma ms) := (pa_cons ha hr hs).of fun σ H Q h => by
  obtain ⟨vs, st, μ, G, F, re, k, h⟩ := h
  refine ⟨vs, st, μ, G, F, re, k, (Done.bind h).mono fun μ1 G1 x st1 H1 f1 k1 h1 v rv => ?_⟩
  refine ⟨vs, st1, μ1, G1, F, re.fut f1, k1, (Done.bind h1).mono fun μ2 G2 xs st2 H2 f2 k2 h2 ws rws => ?_⟩
  exact Done.here k2 h2 _ (.cons (rv.fut f2) rws)
theorem m_tup {j : Nat} (h : MA X W es ms) : ME X W (.Tuple es j pos) (eTup ms) := (pe_tup h).of fun σ H Q h => by
  obtain ⟨vs, st, μ, G, F, re, k, h⟩ := h
  refine ⟨vs, st, μ, G, F, re, k, (Done.bind h).mono fun μ1 G1 xs st1 H1 f1 k1 h1 ws rws => ?_⟩
  obtain ⟨hr, h1⟩ := ite_done h1
  exact ⟨by rw [rws.length]; exact room_line hr, new_tup k1 rws h1⟩
theorem m_lst (n : Bool) (h : MA X W es ms) : ME X W (.List es pos) (eLst n ms) := (pe_lst h).of fun σ H Q h => by
  obtain ⟨vs, st, μ, G, F, re, k, h⟩ := h
  refine ⟨vs, st, μ, G, F, re, k, (Done.bind h).mono fun μ1 G1 xs st1 H1 f1 k1 h1 ws rws => ?_⟩
  obtain ⟨hr, h1⟩ := ite_done h1
  exact ⟨by rw [rws.length]; exact room_line hr, new_list k1 rws h1⟩
theorem m_ix (ha : ME X W a ma) (hb : ME X W b mb) (hs : PlainIx b := by exact fun _ _ => rfl) : ME X W (.Subscript a b pos) (e2 ixD ma mb) := (pe_ix ix_seq ha hb hs).of (two_of s_ix ha hb)
abbrev MO (X : Cx) (W : WX) (e : Option Expr) (m : Vars → Store → Re (Option Int)) : Prop := PO X e fun σ H Q => ∃ vs st μ G F, RepE X.K μ G vs σ ∧ Kn X.K X.mg μ G F st H ∧ Done X.K X.mg W σ μ G F (m vs st) fun _ _ o _ H' => Q o H'
theorem _root_.L2.PO.of {o : Option Expr} {t t' : TO} (h : PO X o t) (k : ∀ σ H Q, t' σ H Q → t σ H Q) : PO X o t' := ⟨fun pins s σ H Q I q => h.run pins s σ H Q I (k σ H Q q)⟩
theorem mo_none : MO X W none oNone := po_none.of fun σ H Q h => by
  obtain ⟨vs, st, μ, G, F, re, k, h⟩ := h
  exact Done.here k h
theorem mo_some (ha : ME X W a ma) : MO X W (some a) (oSome ma) := (po_some ha).of fun σ H Q h => by
  obtain ⟨vs, st, μ, G, F, re, k, h⟩ := h
  refine ⟨vs, st, μ, G, F, re, k, (Done.bind h).mono fun μ1 G1 x st1 H1 f1 k1 h1 v rv => ?_⟩
  split at h1
  · exact ⟨_, rep_int rv, Done.here k1 h1⟩
  · exact h1.elim
abbrev rSlB (K : PySem.W.Frag) : V → Option Int → Option Int → Hp → VK → Prop := fun x lo hi H Q => rSlA K x lo hi H Q ∨ rSlL K x lo hi H Q
theorem cut_all {ds : List D} {lo hi : Option Int} (h : HT.sIx ds.length 0 lo = 0 ∧ HT.sIx ds.length ds.length hi = ds.length) : cutD ds lo hi = ds := by
  unfold cutD
  rw [h.1, h.2, List.drop_zero, Nat.sub_zero, List.take_length]
theorem m_sl {lo hi : Option Expr} {ml mh : Vars → Store → Re (Option Int)} {p2 : Pos} (n : Bool) (ha : ME X W a ma) (hl : MO X W lo ml) (hu : MO X W hi mh) : ME X W (.Subscript a (.Slice lo hi none p2) pos) (eSl n ma ml mh) :=
  (pe_slice (sl_tupA.or sl_list) ha hl hu).of fun σ H Q h => by
    obtain ⟨vs, st, μ, G, F, re, k, h⟩ := h
    refine ⟨vs, st, μ, G, F, re, k, (Done.bind h).mono fun μ1 G1 x st1 H1 f1 k1 h1 v rv => ?_⟩
    refine ⟨vs, st1, μ1, G1, F, re.fut f1, k1, (Done.bind h1).mono fun μ2 G2 l st2 H2 f2 k2 h2 => ?_⟩
    refine ⟨vs, st2, μ2, G2, F, (re.fut f1).fut f2, k2, (Done.bind h2).mono fun μ3 G3 u st3 H3 f3 k3 h3 => ?_⟩
    have rv' := (rv.fut f2).fut f3
    unfold sliceD at h3
    split at h3
    · obtain ⟨p, ws, rfl, hs, rs⟩ := rep_tup rv'
      refine .inl ⟨p, ws, rfl, k3.ex.sqt hs, fun hw => ?_, fun hw => new_tup k3 (rs.cut l u) h3⟩
      rw [rs.length] at hw
      rw [cut_all hw] at h3
      exact fin_here k3 h3 rv'
    · exact h3.elim
    · split at h3
      · rename_i ds e
        obtain ⟨p, ws, rfl, hs, rs⟩ := lstOf_rep k3 rv' e
        exact .inr ⟨p, ws, rfl, .of hs, new_list k3 (rs.cut l u) h3⟩
      · exact h3.elim

/-! calls of what is built in -/
variable {x : Str} {p : Pos} {f : List D → Store → Re D} {r : List V → Hp → VK → Prop} {id T : String}
theorem n_of (hs : SN X.K X.mg f r) (ha : MA X W es ms) (σ : L2.St) (H : Hp) (Q : VK) (h : tE X.K X.mg W (eN f ms) σ H Q) : tCB r (tA X.K X.mg W ms) σ H Q := by
  obtain ⟨vs, st, μ, G, F, re, k, h⟩ := h
  exact ⟨vs, st, μ, G, F, re, k, (Done.bind h).mono fun μ1 G1 xs st1 H1 f1 k1 h1 ws rws => hs W σ μ1 G1 F st1 H1 xs ws Q k1 rws h1⟩
theorem m_bi (hc : CallR X (.builtin id) r) (hs : SN X.K X.mg f r) (hm : X.mg x = none) (hv : bootBuiltins x = some (.builtin id)) (ha : MA X W (e :: es) ms) (hg : Gl X x := by rfl) (hn : x ≠ "__name__" := by decide) (hdb : (x == ("__debug__" : Str)) = false := by decide)
    (he : starEach (e :: es) X.env = (false, eval e X.env) :: starEach es X.env := by rfl) (hpl : (backTo pos (starEach es X.env)).any (·.1) = false := by rfl) : ME X W (.Call (.Name x p) (e :: es) [] pos) (eN f ms) :=
  (pe_callB hc hg hm hv ha hn hdb he hpl).of (n_of hs ha)
theorem m_ty (hc : CallR X (.type T) r) (hs : SN X.K X.mg f r) (hm : X.mg x = none) (hv : bootBuiltins x = some (.type T)) (ha : MA X W (e :: es) ms) (hg : Gl X x := by rfl) (hn : x ≠ "__name__" := by decide) (hdb : (x == ("__debug__" : Str)) = false := by decide)
    (he : starEach (e :: es) X.env = (false, eval e X.env) :: starEach es X.env := by rfl) (hpl : (backTo pos (starEach es X.env)).any (·.1) = false := by rfl) : ME X W (.Call (.Name x p) (e :: es) [] pos) (eN f ms) :=
  (pe_callTy hc hg hm hv ha hn hdb he hpl).of (n_of hs ha)

/-! calls of defs -/
/-- what a def promises by its function -/
def spD (K : PySem.W.Frag) (mg : Str → Option Value) (n : Nat) (m : FnD) : Sp := fun vs H Q E => vs.length = n ∧ ∃ ds st μ G F, Reps K μ G ds vs ∧ Kn K mg μ G F st H ∧ Done K mg (fun cls d _ H' => E cls d H') [] μ G F (m ds st) (Fin K Q)
abbrev FnM (P : Program) (w : World) (K : PySem.W.Frag) (mg : Str → Option Value) (base : Heap) (k : Nat) (f : Addr) (fd : FuncData) (ps : List Str) (m : FnD) : Prop := FnOk P w K mg base (L2.CX P w) k f fd ps (spD K mg ps.length m)
theorem done_wish {K : PySem.W.Frag} {mg : Str → Option Value} {W W' : WX} {σ σ' : L2.St} {μ : List Addr} {G F : Hp} {r : Re D} {P : List Addr → Hp → D → Store → Hp → Prop} (h : Done K mg W σ μ G F r P) (hw : ∀ cls d H, W cls d σ H → W' cls d σ' H) : Done K mg W' σ' μ G F r P := by
  cases r with
  | bad => exact h
  | ok a st => exact h
  | exc e st => exact fun μ' G' H' cls dd f k x => hw _ _ _ (h μ' G' H' cls dd f k x)
/-- how many arguments -/
inductive ALen : EMs → Nat → Prop
  | nil : ALen aNil 0
  | cons {a : EM} {r : EMs} {n : Nat} : ALen r n → ALen (aCons a r) (n + 1)
theorem ALen.len {ms : EMs} {n : Nat} (h : ALen ms n) : ∀ {vs : Vars} {st : Store} {ds : List D} {st' : Store}, ms vs st = .ok ds st' → ds.length = n := by
  induction h with
  | nil =>
    intro vs st ds st' e
    injection e with e1 _
    subst e1
    rfl
  | @cons a r n _ ih =>
    intro vs st ds st' e
    have e' : ((a vs st).bind fun x st => (r vs st).bind fun xs st => .ok (x :: xs) st) = .ok ds st' := e
    cases h1 : a vs st with
    | bad => rw [h1] at e'; cases e'
    | exc ex s1 => rw [h1] at e'; cases e'
    | ok d s1 =>
      rw [h1] at e'
      have e2 : ((r vs s1).bind fun xs st => .ok (d :: xs) st) = .ok ds st' := e'
      cases h2 : r vs s1 with
      | bad => rw [h2] at e2; cases e2
      | exc ex s2 => rw [h2] at e2; cases e2
      | ok d2 s2 =>
        rw [h2] at e2
        injection e2 with e3 _
        subst e3
        rw [List.length_cons, ih h2]
variable {k : Nat} {fa : Addr} {fd : FuncData} {ps : List Str} {m : FnD}
theorem m_call (Fk : FnM X.prog X.w X.K X.mg X.base k fa fd ps m) (hr : Room k X.A) (hm : X.mg x = some (.ref fa)) (hk : PySem.W.keepIn X.K (.ref fa) = true) (hb : Binds X.K fd ps []) (tk : Takes X W)
    (ha : MA X W (e :: es) ms) (hms : ALen ms ps.length := by repeat constructor) (hg : Gl X x := by rfl) (hdb : (x == ("__debug__" : Str)) = false := by decide) (he : starEach (e :: es) X.env = (false, eval e X.env) :: starEach es X.env := by rfl)
    (hpl : (backTo pos (starEach es X.env)).any (·.1) = false := by rfl) : ME X W (.Call (.Name x p) (e :: es) [] pos) (eN m ms) := by
  refine (pe_callSD Fk hr hg hm hk hb .nil (fun σ => passAt tk σ) ha hdb he hpl).of fun σ H Q h => ?_
  obtain ⟨vs, st, μ, G, F, re, kn, h⟩ := h
  unfold eN at h
  cases hd : ms vs st with
  | bad => rw [hd] at h; exact h.elim
  | exc ex st1 =>
    rw [hd] at h
    exact ⟨vs, st, μ, G, F, re, kn, by rw [hd]; exact h⟩
  | ok ds st1 =>
    rw [hd] at h
    refine ⟨vs, st, μ, G, F, re, kn, ?_⟩
    rw [hd]
    intro μ1 G1 H1 f1 k1 ws rws
    refine ⟨by rw [List.append_nil, rws.length, hms.len hd], ds, st1, μ1, G1, F, by rw [List.append_nil]; exact rws, k1, ?_⟩
    exact done_wish (Done.fut f1 h) fun cls d H hw => hw
end
end Dn
namespace Dn
open PySem PySem.Spec PyProof.Rows L2

/-! ### what a statement does -/
inductive Rs where
  | bad
  | nx (vs : Vars) (st : Store)
  | ret (d : D) (st : Store)
  | brk (vs : Vars) (st : Store)
  | ct (vs : Vars) (st : Store)
  | exc (e : Exn) (vs : Vars) (st : Store)
abbrev SM := Vars → Store → Rs
/-- an expression's answer, then a statement's -/
def Re.thn {α : Type} (r : Re α) (vs : Vars) (k : α → Store → Rs) (_ : Lk k := Unit.unit) : Rs := match r with
  | .bad => .bad
  | .ok a st => k a st
  | .exc e st => .exc e vs st
def onS (d : D) (t f : Rs) : Rs := match d with
  | .bl true => t
  | .bl false => f
  | _ => .bad
def sNil : SM := fun vs st => .nx vs st
def Rs.seq (r : Rs) (b : SM) (_ : Lk b := Unit.unit) : Rs := match r with
  | .nx vs st => b vs st
  | r => r
def sSeq (a b : SM) : SM := fun vs st => (a vs st).seq b
def sExpr (m : EM) : SM := fun vs st => (m vs st).thn vs fun _ st => .nx vs st
def sRet (m : EM) : SM := fun vs st => (m vs st).thn vs fun d st => .ret d st
def sRetN : SM := fun _ st => .ret .non st
def sBrk : SM := fun vs st => .brk vs st
def sCt : SM := fun vs st => .ct vs st
def sIf (c : EM) (a b : SM) : SM := fun vs st => (c vs st).thn vs fun x st => onS x (a vs st) (b vs st)
/-- targets -/
abbrev TM := D → Vars → Option Vars
def gN (i : Nat) : TM := fun d vs => some (vs.set i (some d))
def gAll : List TM → List D → Vars → Option Vars
  | [], [], vs => some vs
  | t :: ts, d :: ds, vs => (t d vs).bind fun vs => gAll ts ds vs
  | _, _, _ => none
def gT (ts : List TM) : TM := fun d vs => match d with
  | .tup ds => gAll ts ds vs
  | _ => none
def sAsg (g : TM) (m : EM) : SM := fun vs st => (m vs st).thn vs fun d st => match g d vs with
  | some vs => .nx vs st
  | none => .bad
def sAug (i : Nat) (f : D → D → Store → Re D) (m : EM) : SM := fun vs st => match getV vs i with
  | some x => (m vs st).thn vs fun y st => (f x y st).thn vs fun z st => .nx (vs.set i (some z)) st
  | none => .bad
/-- names forgotten -/
def drp (l : List Nat) (vs : Vars) : Vars := l.foldl (fun vs i => vs.set i none) vs

section
variable (K : PySem.W.Frag) (mg : Str → Option Value) (W : WX)
def DoneS (μ : List Addr) (G F : Hp) (r : Rs) (D : Ends) : Prop := match r with
  | .bad => False
  | .nx vs st => ∀ μ' G' H' σ', Fut μ G μ' G' → Kn K mg μ' G' F st H' → RepE K μ' G' vs σ' → D.nx σ' H'
  | .brk vs st => ∀ μ' G' H' σ', Fut μ G μ' G' → Kn K mg μ' G' F st H' → RepE K μ' G' vs σ' → D.bk σ' H'
  | .ct vs st => ∀ μ' G' H' σ', Fut μ G μ' G' → Kn K mg μ' G' F st H' → RepE K μ' G' vs σ' → D.ct σ' H'
  | .ret d st => ∀ μ' G' H' v, Fut μ G μ' G' → Kn K mg μ' G' F st H' → Rep K μ' G' d v → D.rt v H'
  | .exc e vs st => ∀ μ' G' H' σ' cls dd, Fut μ G μ' G' → Kn K mg μ' G' F st H' → RepE K μ' G' vs σ' → RepX K mg μ' G' e cls dd → W cls dd σ' H'
def tS (m : SM) : TS := fun D σ H => ∃ vs st μ G F, RepE K μ G vs σ ∧ Kn K mg μ G F st H ∧ DoneS K mg W μ G F (m vs st) D
/-- σ' is σ but at some slots -/
def But (sl : List Nat) (σ σ' : L2.St) : Prop := σ'.length = σ.length ∧ ∀ j, j ∉ sl → σ'[j]? = σ[j]?
def gM (sl : List Nat) (t : TM) : TG := fun v σ H Q => ∃ d vs vs' μ G, Rep K μ G d v ∧ Ex G H ∧ RepE K μ G vs σ ∧ t d vs = some vs' ∧ ∀ σ', RepE K μ G vs' σ' → But sl σ σ' → Q σ' H
def gsM (sl : List Nat) (ts : List TM) : TGs := fun ws σ H Q => ∃ ds vs vs' μ G, Reps K μ G ds ws ∧ Ex G H ∧ RepE K μ G vs σ ∧ gAll ts ds vs = some vs' ∧ ∀ σ', RepE K μ G vs' σ' → But sl σ σ' → Q σ' H
end
abbrev MS (X : Cx) (W : WX) (s : Stmt) (m : SM) : Prop := PS X s (tS X.K X.mg W m)
abbrev MSs (X : Cx) (W : WX) (s : List Stmt) (m : SM) : Prop := PSs X s (tS X.K X.mg W m)
abbrev MG (X : Cx) (e : Expr) (sl : List Nat) (t : TM) : Prop := PG X e (gM X.K sl t)
abbrev MGs (X : Cx) (es : List Expr) (sl : List Nat) (ts : List TM) : Prop := PGs X es (gsM X.K sl ts)
theorem But.refl (sl : List Nat) (σ : L2.St) : But sl σ σ := ⟨rfl, fun _ _ => rfl⟩
theorem But.trans {sl sl' : List Nat} {σ σ1 σ2 : L2.St} (a : But sl σ σ1) (b : But sl' σ1 σ2) : But (sl ++ sl') σ σ2 :=
  ⟨b.1.trans a.1, fun j h => (b.2 j fun z => h (List.mem_append_right _ z)).trans (a.2 j fun z => h (List.mem_append_left _ z))⟩

section
variable {K : PySem.W.Frag} {mg : Str → Option Value} {W : WX} {μ μ' : List Addr} {G G' F : Hp}
theorem DoneS.fut {r : Rs} {D : Ends} (f : Fut μ G μ' G') (h : DoneS K mg W μ G F r D) : DoneS K mg W μ' G' F r D := by
  cases r with
  | bad => exact h
  | nx vs st => exact fun a b c d e => h a b c d (f.trans e)
  | brk vs st => exact fun a b c d e => h a b c d (f.trans e)
  | ct vs st => exact fun a b c d e => h a b c d (f.trans e)
  | ret d st => exact fun a b c d e => h a b c d (f.trans e)
  | exc e vs st => exact fun a b c d e g i => h a b c d e g (f.trans i)
theorem DoneS.mono {r : Rs} {D D' : Ends} (h : DoneS K mg W μ G F r D) (h1 : ∀ σ H, D.nx σ H → D'.nx σ H) (h2 : ∀ v H, D.rt v H → D'.rt v H) (h3 : ∀ σ H, D.bk σ H → D'.bk σ H) (h4 : ∀ σ H, D.ct σ H → D'.ct σ H) : DoneS K mg W μ G F r D' := by
  cases r with
  | bad => exact h
  | nx vs st => exact fun a b c d e f g => h1 _ _ (h a b c d e f g)
  | brk vs st => exact fun a b c d e f g => h3 _ _ (h a b c d e f g)
  | ct vs st => exact fun a b c d e f g => h4 _ _ (h a b c d e f g)
  | ret d st => exact fun a b c d e f g => h2 _ _ (h a b c d e f g)
  | exc e vs st => exact h
/-- an expression ahead of a statement's answer -/
theorem DoneS.thn {α : Type} {r : Re α} {vs : Vars} {σ : L2.St} {k : α → Store → Rs} {D : Ends} (re : RepE K μ G vs σ) (h : DoneS K mg W μ G F (r.thn vs k) D) :
    Done K mg W σ μ G F r fun μ' G' a st _ => DoneS K mg W μ' G' F (k a st) D := by
  cases r with
  | bad => exact h
  | ok a st => exact fun μ' G' H' f kn => DoneS.fut f h
  | exc e st => exact fun μ' G' H' cls dd f kn x => h μ' G' H' σ cls dd f kn (re.fut f) x
theorem onS_done {d : D} {r s : Rs} {E : Ends} (h : DoneS K mg W μ G F (onS d r s) E) : ∃ k, d = .bl k ∧ DoneS K mg W μ G F (if k = true then r else s) E := by
  cases d with
  | bl k =>
    refine ⟨k, rfl, ?_⟩
    cases k <;> exact h
  | _ => exact h.elim
end
section
variable {X : Cx} {W : WX} {e a b c : Expr} {es : List Expr} {m ma mb mc : EM} {s : Stmt} {rest body orelse : List Stmt} {n n' : SM} {pos : Pos}
theorem ms_nil : MSs X W [] sNil := pss_nil.of fun D σ H h => by
  obtain ⟨vs, st, μ, G, F, re, k, h⟩ := h
  exact h μ G H σ (.refl μ G) k re
theorem ms_cons (h1 : MS X W s n) (h2 : MSs X W rest n') : MSs X W (s :: rest) (sSeq n n') := (pss_cons h1 h2).of fun D σ H h => by
  obtain ⟨vs, st, μ, G, F, re, k, h⟩ := h
  refine ⟨vs, st, μ, G, F, re, k, ?_⟩
  unfold sSeq at h
  cases hr : n vs st with
  | nx vs1 st1 =>
    rw [hr] at h
    exact fun μ1 G1 H1 σ1 f1 k1 re1 => ⟨vs1, st1, μ1, G1, F, re1, k1, DoneS.fut f1 h⟩
  | bad => rw [hr] at h; exact h
  | brk vs1 st1 => rw [hr] at h; exact h
  | ct vs1 st1 => rw [hr] at h; exact h
  | ret d st1 => rw [hr] at h; exact h
  | exc ex vs1 st1 => rw [hr] at h; exact h
theorem ms_one (h1 : MS X W s n) : MSs X W [s] n := pss_one h1
theorem st_pass : MS X W (.Pass pos) sNil := ps_pass.of fun D σ H h => by
  obtain ⟨vs, st, μ, G, F, re, k, h⟩ := h
  exact h μ G H σ (.refl μ G) k re
theorem st_brk : MS X W (.Break pos) sBrk := ps_break.of fun D σ H h => by
  obtain ⟨vs, st, μ, G, F, re, k, h⟩ := h
  exact h μ G H σ (.refl μ G) k re
theorem st_ct : MS X W (.Continue pos) sCt := ps_continue.of fun D σ H h => by
  obtain ⟨vs, st, μ, G, F, re, k, h⟩ := h
  exact h μ G H σ (.refl μ G) k re
theorem st_expr (he : ME X W e m) (hs : swapsWith e none pos.line X.env = pure false := by rfl) : MS X W (.Expr e pos) (sExpr m) := (ps_expr he hs).of fun D σ H h => by
  obtain ⟨vs, st, μ, G, F, re, k, h⟩ := h
  exact ⟨vs, st, μ, G, F, re, k, (DoneS.thn re h).mono fun μ1 G1 x st1 H1 f1 k1 h1 v rv => h1 μ1 G1 H1 σ (.refl _ _) k1 (re.fut f1)⟩
theorem st_ret (he : ME X W e m) : MS X W (.Return (some e) pos) (sRet m) := (ps_ret he).of fun D σ H h => by
  obtain ⟨vs, st, μ, G, F, re, k, h⟩ := h
  exact ⟨vs, st, μ, G, F, re, k, (DoneS.thn re h).mono fun μ1 G1 x st1 H1 f1 k1 h1 v rv => h1 μ1 G1 H1 v (.refl _ _) k1 rv⟩
theorem st_retN : MS X W (.Return none pos) sRetN := ps_retN.of fun D σ H h => by
  obtain ⟨vs, st, μ, G, F, re, k, h⟩ := h
  exact h μ G H .non (.refl _ _) k .non
theorem st_if (hc : MT X W c mc) (ha : MSs X W body n) (hb : MSs X W orelse n') : MS X W (.If c body orelse pos) (sIf mc n n') := (ps_if hc ha hb).of fun D σ H h => by
  obtain ⟨vs, st, μ, G, F, re, k, h⟩ := h
  refine ⟨vs, st, μ, G, F, re, k, (DoneS.thn re h).mono fun μ1 G1 x st1 H1 f1 k1 h1 => ?_⟩
  obtain ⟨kk, rfl, h1⟩ := onS_done h1
  refine ⟨kk, rfl, ?_⟩
  cases kk with
  | true => exact ⟨vs, st1, μ1, G1, F, re.fut f1, k1, h1⟩
  | false => exact ⟨vs, st1, μ1, G1, F, re.fut f1, k1, h1⟩
/-! targets -/
theorem PG_of {t t' : TG} (h : PG X e t) (k : ∀ v σ H Q, t' v σ H Q → t v σ H Q) : PG X e t' := ⟨fun pins s σ H v u Q I r q => h.run pins s σ H v u Q I r (k v σ H Q q)⟩
theorem PGs_of {t t' : TGs} (h : PGs X es t) (k : ∀ v σ H Q, t' v σ H Q → t v σ H Q) : PGs X es t' := ⟨fun pins s σ H v u Q I r q => h.run pins s σ H v u Q I r (k v σ H Q q)⟩
theorem g_name (i : Nat) {x : Str} (hN : X.N.Nodup) (hi : X.N[i]? = some x := by rfl) (hx : Loc X.env.scope x := by first | exact Or.inl rfl | exact Or.inr rfl) (hf : X.fn x = true ∨ X.env.scope.names.lookup x = some .local := by first | exact .inl rfl | exact .inr rfl | assumption) : MG X (.Name x pos) [i] (gN i) :=
  PG_of (pg_name hN hi hx hf) fun v σ H Q h => by
    obtain ⟨d, vs, vs', μ, G, r, ex, re, e, q⟩ := h
    injection e with e
    subst e
    refine q _ (re.set r i) ⟨List.length_set, fun j hj => ?_⟩
    exact List.getElem?_set_ne fun z => hj (by simp [z])
theorem g_nil : MGs X [] [] [] := PGs_of pgs_nil fun ws σ H Q h => by
  obtain ⟨ds, vs, vs', μ, G, r, ex, re, e, q⟩ := h
  cases ds with
  | nil =>
    injection e with e
    subst e
    exact ⟨reps_nil r, q σ re (.refl _ _)⟩
  | cons d ds => cases e
theorem g_cons {t : TM} {ts : List TM} {sl sl' : List Nat} (h1 : MG X e sl t) (h2 : MGs X es sl' ts) (hs : (assignEach (e :: es) X.env).map (·.2) = assign e X.env :: (assignEach es X.env).map (·.2) := by rfl) : MGs X (e :: es) (sl ++ sl') (t :: ts) :=
  PGs_of (pgs_cons h1 h2 hs) fun ws σ H Q h => by
    obtain ⟨ds, vs, vs', μ, G, r, ex, re, e, q⟩ := h
    cases ds with
    | nil => cases e
    | cons d ds =>
      obtain ⟨v, ws', rfl, rv, rws⟩ := reps_cons r
      have e' : (t d vs).bind (fun vs => gAll ts ds vs) = some vs' := e
      cases ht : t d vs with
      | none => rw [ht] at e'; cases e'
      | some vs1 =>
        rw [ht] at e'
        exact ⟨v, ws', rfl, d, vs, vs1, μ, G, rv, ex, re, ht, fun σ1 re1 b1 => ⟨ds, vs1, vs', μ, G, rws, ex, re1, e', fun σ2 re2 b2 => q σ2 re2 (b1.trans b2)⟩⟩
theorem gAll_len : ∀ {ts : List TM} {ds : List D} {vs vs' : Vars}, gAll ts ds vs = some vs' → ds.length = ts.length
  | [], [], _, _, _ => rfl
  | [], _ :: _, _, _, h => by cases h
  | _ :: _, [], _, _, h => by cases h
  | t :: ts, d :: ds, vs, vs', h => by
    have h' : (t d vs).bind (fun vs => gAll ts ds vs) = some vs' := h
    cases ht : t d vs with
    | none => rw [ht] at h'; cases h'
    | some vs1 =>
      rw [ht] at h'
      rw [List.length_cons, List.length_cons, gAll_len h']
theorem g_tup {ts : List TM} {sl : List Nat} {j : Nat} (h : MGs X es sl ts) (hc : X.calm = true := by rfl) (hn : (assignEach es X.env).length = ts.length := by rfl) (hst : (assignEach es X.env).findIdx? (·.1) = none := by rfl) : MG X (.Tuple es j pos) sl (gT ts) :=
  PG_of (pg_tup hc h hn hst) fun v σ H Q h => by
    obtain ⟨d, vs, vs', μ, G, r, ex, re, e, q⟩ := h
    cases d with
    | tup ds =>
      obtain ⟨p, ws, rfl, hs, rs⟩ := rep_tup r
      exact ⟨p, ws, rfl, ex.sqt hs, by rw [rs.length]; exact gAll_len e, ds, vs, vs', μ, G, rs, ex, re, e, q⟩
    | _ => cases e
theorem asg_of {te : EM} {t : TM} {sl : List Nat} {tg : Expr} (D : Ends) (σ : L2.St) (H : Hp) (h : tS X.K X.mg W (sAsg t te) D σ H) : tAsg (tE X.K X.mg W te) (gM X.K sl t) D σ H := by
  obtain ⟨vs, st, μ, G, F, re, k, h⟩ := h
  refine ⟨vs, st, μ, G, F, re, k, (DoneS.thn re h).mono fun μ1 G1 x st1 H1 f1 k1 h1 v rv => ?_⟩
  split at h1
  · rename_i vs' e
    exact ⟨x, vs, vs', μ1, G1, rv, k1.ex, re.fut f1, e, fun σ' re' _ => h1 μ1 G1 H1 σ' (.refl _ _) k1 re'⟩
  · exact h1.elim
theorem st_asg {tg : Expr} {t : TM} {sl : List Nat} (he : ME X W e m) (hg : MG X tg sl t) (hs : swapsWithSole [tg] e pos.line X.env = pure false := by rfl) (hw : swappedStores [tg] e X.env = pure none := by rfl) (h1 : (assignEach [tg] X.env).map (·.2) = [assign tg X.env] := by rfl) :
    MS X W (.Assign [tg] e pos) (sAsg t m) := (ps_asg he hg hs hw h1).of fun D σ H h => asg_of (tg := tg) D σ H h
theorem st_set (i : Nat) {x : Str} {pos' : Pos} (hN : X.N.Nodup) (he : ME X W e m) (hi : X.N[i]? = some x := by rfl) (hx : Loc X.env.scope x := by first | exact Or.inl rfl | exact Or.inr rfl) (hs : swapsWith e (some (.Name x pos')) pos.line X.env = pure false := by rfl) (hf : X.fn x = true ∨ X.env.scope.names.lookup x = some .local := by first | exact .inl rfl | exact .inr rfl | assumption) :
    MS X W (.Assign [.Name x pos'] e pos) (sAsg (gN i) m) := (ps_set hN hi hx he hs hf).of fun D σ H h => by
  obtain ⟨vs, st, μ, G, F, re, k, h⟩ := h
  exact ⟨vs, st, μ, G, F, re, k, (DoneS.thn re h).mono fun μ1 G1 x st1 H1 f1 k1 h1 v rv => h1 μ1 G1 H1 _ (.refl _ _) k1 ((re.fut f1).set rv i)⟩
theorem st_aug (i : Nat) {x : Str} {op : Operator} {r : R2} {f : D → D → Store → Re D} {pos' : Pos} (hN : X.N.Nodup) (ho : OpR X (inplaceOp op) r) (hsf : S2 X.K X.mg f r) (he : ME X W e m) (hi : X.N[i]? = some x := by rfl) (hx : Loc X.env.scope x := by first | exact Or.inl rfl | exact Or.inr rfl) (hf : X.fn x = true ∨ X.env.scope.names.lookup x = some .local := by first | exact .inl rfl | exact .inr rfl | assumption) :
    MS X W (.AugAssign (.Name x pos') op e pos) (sAug i f m) := (ps_aug (ti := r) hN hi hx he (fun pins s σ H x y v u Q I rx ry h => ho pins s σ H x y v u Q I rx ry h) hf).of fun D σ H h => by
  obtain ⟨vs, st, μ, G, F, re, k, h⟩ := h
  unfold sAug getV at h
  cases hv : vs[i]? with
  | none => rw [hv] at h; exact h.elim
  | some o =>
    cases o with
    | none => rw [hv] at h; exact h.elim
    | some d =>
      rw [hv] at h
      obtain ⟨v, e, rd⟩ := re.get i d hv
      refine ⟨v, e, vs, st, μ, G, F, re, k, (DoneS.thn re h).mono fun μ1 G1 y st1 H1 f1 k1 h1 w rw' => ?_⟩
      refine hsf W σ μ1 G1 F st1 H1 d y v w _ k1 (rd.fut f1) rw' ((DoneS.thn (re.fut f1) h1).mono fun μ2 G2 z st2 H2 f2 k2 h2 u ru => ?_)
      exact h2 μ2 G2 H2 _ (.refl _ _) k2 (((re.fut f1).fut f2).set ru i)

/-! ### while -/
def wGo (c : EM) (b : SM) : Nat → Vars → Store → Option Rs
  | 0, _, _ => none
  | n + 1, vs, st => match c vs st with
    | .bad => some .bad
    | .exc e st => some (.exc e vs st)
    | .ok d st => match d with
      | .bl true => match b vs st with
        | .nx vs st => wGo c b n vs st
        | .ct vs st => wGo c b n vs st
        | .brk vs st => some (.nx vs st)
        | r => some r
      | .bl false => some (.nx vs st)
      | _ => some .bad
theorem wGo_succ {c : EM} {b : SM} : ∀ {n : Nat} {vs : Vars} {st : Store} {r : Rs}, wGo c b n vs st = some r → wGo c b (n + 1) vs st = some r
  | 0, _, _, _, h => by cases h
  | n + 1, vs, st, r, h => by
    unfold wGo at h ⊢
    cases hc : c vs st with
    | bad => rw [hc] at h; exact h
    | exc e st1 => rw [hc] at h; exact h
    | ok d st1 =>
      rw [hc] at h
      cases d with
      | bl k =>
        cases k with
        | false => exact h
        | true =>
          cases hb : b vs st1 with
          | nx vs2 st2 =>
            simp only [hb] at h ⊢
            exact wGo_succ h
          | ct vs2 st2 =>
            simp only [hb] at h ⊢
            exact wGo_succ h
          | bad => simp only [hb] at h ⊢; exact h
          | ret d st2 => simp only [hb] at h ⊢; exact h
          | brk vs2 st2 => simp only [hb] at h ⊢; exact h
          | exc e vs2 st2 => simp only [hb] at h ⊢; exact h
      | _ => exact h
theorem wGo_le {c : EM} {b : SM} {n k : Nat} {vs : Vars} {st : Store} {r : Rs} (h : wGo c b n vs st = some r) : wGo c b (n + k) vs st = some r := by
  induction k with
  | zero => exact h
  | succ k ih => exact wGo_succ ih
theorem wGo_det {c : EM} {b : SM} {n k : Nat} {vs : Vars} {st : Store} {r r' : Rs} (h : wGo c b n vs st = some r) (h' : wGo c b k vs st = some r') : r = r' := by
  have h1 := wGo_le (k := k) h
  have h2 := wGo_le (k := n) h'
  rw [Nat.add_comm k n] at h2
  rw [h1] at h2
  exact Option.some.inj h2
open Classical in
noncomputable def sWhile (c : EM) (b : SM) : SM := fun vs st => if h : ∃ r n, wGo c b n vs st = some r then h.choose else .bad
theorem sWhile_eq {c : EM} {b : SM} {n : Nat} {vs : Vars} {st : Store} {r : Rs} (h : wGo c b n vs st = some r) : sWhile c b vs st = r := by
  unfold sWhile
  have h' : ∃ r n, wGo c b n vs st = some r := ⟨r, n, h⟩
  rw [dif_pos h']
  obtain ⟨k, hk⟩ := h'.choose_spec
  exact wGo_det hk h
theorem sWhile_some {c : EM} {b : SM} {vs : Vars} {st : Store} (h : sWhile c b vs st ≠ .bad) : ∃ n, wGo c b n vs st = some (sWhile c b vs st) := by
  by_cases h' : ∃ r n, wGo c b n vs st = some r
  · obtain ⟨r, n, e⟩ := h'
    exact ⟨n, by rw [sWhile_eq e]; exact e⟩
  · exfalso
    apply h
    unfold sWhile
    rw [dif_neg h']
/-- one turn -/
theorem sWhile_turn {c : EM} {b : SM} {vs vs1 : Vars} {st st1 st2 : Store} (hc : c vs st = .ok (.bl true) st1) (hb : b vs st1 = .nx vs1 st2) : sWhile c b vs st = sWhile c b vs1 st2 := by
  by_cases h' : ∃ r n, wGo c b n vs1 st2 = some r
  · obtain ⟨r, n, e⟩ := h'
    rw [sWhile_eq e]
    refine sWhile_eq (n := n + 1) ?_
    unfold wGo
    rw [hc]
    simp only [hb]
    exact e
  · have e1 : sWhile c b vs1 st2 = .bad := by
      unfold sWhile
      rw [dif_neg h']
    rw [e1]
    unfold sWhile
    rw [dif_neg]
    rintro ⟨r, n, e⟩
    cases n with
    | zero => cases e
    | succ n =>
      unfold wGo at e
      rw [hc] at e
      simp only [hb] at e
      exact h' ⟨r, n, e⟩
theorem sWhile_end {c : EM} {b : SM} {vs : Vars} {st st1 : Store} (hc : c vs st = .ok (.bl false) st1) : sWhile c b vs st = .nx vs st1 := by
  refine sWhile_eq (n := 1) ?_
  unfold wGo
  rw [hc]
theorem st_while (hp : PassesOwn (model X.prog X.w) X.A X.env X.xe) (hc : MT X W c mc) (hb : MSs X W body n) : MS X W (.While c body [] pos) (sWhile mc n) := (ps_while hp hc hb).of fun D σ H h => by
  obtain ⟨vs, st, μ, G, F, re, k, h⟩ := h
  have hne : sWhile mc n vs st ≠ .bad := fun e => by rw [e] at h; exact h
  obtain ⟨n0, e0⟩ := sWhile_some hne
  refine ⟨fun m σ H => ∃ vs st μ G F r, RepE X.K μ G vs σ ∧ Kn X.K X.mg μ G F st H ∧ wGo mc n m vs st = some r ∧ DoneS X.K X.mg W μ G F r D, ⟨n0, vs, st, μ, G, F, _, re, k, e0, h⟩, ?_⟩
  rintro m σ H ⟨vs, st, μ, G, F, r, re, k, e, h⟩
  cases m with
  | zero => cases e
  | succ m =>
    unfold wGo at e
    refine ⟨vs, st, μ, G, F, re, k, ?_⟩
    cases hc : mc vs st with
    | bad =>
      rw [hc] at e
      injection e with e
      subst e
      exact h
    | exc ex st1 =>
      rw [hc] at e
      injection e with e
      subst e
      exact fun μ' G' H' cls dd f kn x => h μ' G' H' σ cls dd f kn (re.fut f) x
    | ok d st1 =>
      rw [hc] at e
      intro μ1 G1 H1 f1 k1
      cases d with
      | bl kk =>
        refine ⟨kk, rfl, ?_⟩
        cases kk with
        | false =>
          injection e with e
          subst e
          rw [if_neg Bool.false_ne_true]
          exact h μ1 G1 H1 σ f1 k1 (re.fut f1)
        | true =>
          rw [if_pos rfl]
          refine ⟨fun σ' H' => ∃ vs st μ G F r, RepE X.K μ G vs σ' ∧ Kn X.K X.mg μ G F st H' ∧ wGo mc n m vs st = some r ∧ DoneS X.K X.mg W μ G F r D, fun σ' H' ⟨vs, st, μ, G, F, r, q⟩ => ⟨m, Nat.lt_succ_self m, vs, st, μ, G, F, r, q⟩, vs, st1, μ1, G1, F, re.fut f1, k1, ?_⟩
          have h1 := DoneS.fut f1 h
          cases hb : n vs st1 with
          | nx vs2 st2 =>
            simp only [hb] at e
            exact fun μ2 G2 H2 σ2 f2 k2 re2 => ⟨vs2, st2, μ2, G2, F, r, re2, k2, e, DoneS.fut f2 h1⟩
          | ct vs2 st2 =>
            simp only [hb] at e
            exact fun μ2 G2 H2 σ2 f2 k2 re2 => ⟨vs2, st2, μ2, G2, F, r, re2, k2, e, DoneS.fut f2 h1⟩
          | bad => simp only [hb] at e; injection e with e; subst e; exact h1
          | ret d st2 => simp only [hb] at e; injection e with e; subst e; exact h1
          | brk vs2 st2 => simp only [hb] at e; injection e with e; subst e; exact h1
          | exc ex vs2 st2 => simp only [hb] at e; injection e with e; subst e; exact h1
      | _ =>
        injection e with e
        subst e
        exact h.elim
end
end Dn
namespace Dn
open PySem PySem.Spec PyProof.Rows L2

/-! ### what is guarded for a while -/
section
variable {K : PySem.W.Frag} {mg : Str → Option Value} {μ : List Addr} {G F : Hp} {st : Store} {H : Hp} {p : Addr} {o o' : HO} {ob : Ob}
theorem Kn.guard (k : Kn K mg μ G F st H) (hp : H p = none) : Kn K mg μ G (upd F p o) st (upd H p o) := by
  have gp : G p = none := k.ex.free hp
  have fp : F p = none := k.fr.free hp
  have hm : ∀ a ∈ μ, a ≠ p := fun a ha z => k.there a ha (by rw [z]; exact hp)
  refine ⟨k.ex.mut gp, fun a u e => ?_, fun a u e => ?_, k.len, k.inj, fun n ob e => ?_, fun a ha => ?_, fun a ha => ?_⟩
  · by_cases h : a = p
    · subst h; rw [upd_same] at e ⊢; exact e
    · rw [upd_ne h] at e ⊢; exact k.fr a u e
  · by_cases h : a = p
    · subst h; exact gp
    · rw [upd_ne h] at e; exact k.sep a u e
  · obtain ⟨a, u, h1, h2, h3, h4, h5⟩ := k.cell n ob e
    have ha := hm a (List.mem_of_getElem? h1)
    exact ⟨a, u, h1, h2, by rw [upd_ne ha]; exact h3, by rw [upd_ne ha]; exact h4, h5⟩
  · rw [upd_ne (hm a ha)]; exact k.there a ha
  · rw [upd_ne (hm a ha)]; exact k.out a ha
theorem Kn.notin (k : Kn K mg μ G (upd F p o) st H) : ∀ a ∈ μ, a ≠ p := fun a ha z => by
  have := k.out a ha
  rw [z, upd_same] at this
  cases this
theorem Kn.gfree (k : Kn K mg μ G (upd F p o) st H) : G p = none := k.sep p o upd_same
theorem Kn.gat (k : Kn K mg μ G (upd F p o) st H) : H p = some o := k.fr p o upd_same
theorem Kn.reguard (k : Kn K mg μ G (upd F p o) st H) : Kn K mg μ G (upd F p o') st (upd H p o') := by
  have hm := k.notin
  refine ⟨k.ex.mut k.gfree, fun a u e => ?_, fun a u e => ?_, k.len, k.inj, fun n ob e => ?_, fun a ha => ?_, fun a ha => ?_⟩
  · by_cases h : a = p
    · subst h; rw [upd_same] at e ⊢; exact e
    · rw [upd_ne h] at e ⊢; exact k.fr a u (by rw [upd_ne h]; exact e)
  · by_cases h : a = p
    · subst h; exact k.gfree
    · rw [upd_ne h] at e; exact k.sep a u (by rw [upd_ne h]; exact e)
  · obtain ⟨a, u, h1, h2, h3, h4, h5⟩ := k.cell n ob e
    have ha := hm a (List.mem_of_getElem? h1)
    exact ⟨a, u, h1, h2, by rw [upd_ne ha] at h3 ⊢; exact h3, by rw [upd_ne ha]; exact h4, h5⟩
  · rw [upd_ne (hm a ha)]; exact k.there a ha
  · have := k.out a ha
    rw [upd_ne (hm a ha)] at this ⊢
    exact this
/-- F itself has nothing there -/
theorem Kn.unguard (k : Kn K mg μ G (upd F p o) st H) (hf : F p = none) : Kn K mg μ G F st H := by
  have hm := k.notin
  refine ⟨k.ex, fun a u e => k.fr a u (by rw [upd_ne (ne_of_none e hf)]; exact e), fun a u e => k.sep a u (by rw [upd_ne (ne_of_none e hf)]; exact e), k.len, k.inj, fun n ob e => ?_, k.there, fun a ha => ?_⟩
  · obtain ⟨a, u, h1, h2, h3, h4, h5⟩ := k.cell n ob e
    have ha := hm a (List.mem_of_getElem? h1)
    exact ⟨a, u, h1, h2, by rw [upd_ne ha] at h3; exact h3, h4, h5⟩
  · have := k.out a ha
    rw [upd_ne (hm a ha)] at this
    exact this
/-- what was guarded is known for ever -/
theorem Kn.release (k : Kn K mg μ G (upd F p o) st H) (hf : F p = none) : Kn K mg μ (upd G p o) F st H := by
  have k' := k.unguard hf
  have hm := k.notin
  have f : Fut μ G μ (upd G p o) := .know (.new k.gfree)
  refine ⟨fun a u e => ?_, k'.fr, fun a u e => ?_, k.len, k.inj, fun n ob e => ?_, k.there, k'.out⟩
  · by_cases h : a = p
    · subst h; rw [upd_same] at e; rw [← e]; exact k.gat
    · rw [upd_ne h] at e; exact k.ex a u e
  · have h : a ≠ p := ne_of_none e hf
    rw [upd_ne h]
    exact k'.sep a u e
  · obtain ⟨a, u, h1, h2, h3, h4, h5⟩ := k'.cell n ob e
    have ha := hm a (List.mem_of_getElem? h1)
    exact ⟨a, u, h1, by rw [upd_ne ha]; exact h2, h3, h4, h5.fut f⟩
/-- .. is a place of the store -/
theorem Kn.place (k : Kn K mg μ G (upd F p o) st H) (hf : F p = none) (r : RepO K mg μ G ob o) : Kn K mg (μ ++ [p]) G F (st ++ [some ob]) H := by
  have k' := k.unguard hf
  have hm := k.notin
  have f : Fut μ G (μ ++ [p]) G := ⟨⟨[p], rfl⟩, .refl G⟩
  refine ⟨k'.ex, k'.fr, k'.sep, by simp [k.len], List.nodup_append.mpr ⟨k.inj, by simp, fun a ha b hb => ?_⟩, fun n ob' e => ?_, fun a ha => ?_, fun a ha => ?_⟩
  · have : b = p := by simpa using hb
    rw [this]
    exact hm a ha
  · by_cases hn : n < st.length
    · rw [List.getElem?_append_left hn] at e
      obtain ⟨a, u, h1, h2, h3, h4, h5⟩ := k'.cell n ob' e
      exact ⟨a, u, f.at h1, h2, h3, h4, h5.fut f⟩
    · have hn' : n = st.length := by
        have := (List.getElem?_eq_some_iff.mp e).1
        rw [List.length_append] at this
        simp at this
        omega
      subst hn'
      rw [List.getElem?_append_right (Nat.le_refl _), Nat.sub_self] at e
      have e' : ob = ob' := by simpa using e
      subst e'
      exact ⟨p, o, by rw [← k.len, List.getElem?_append_right (Nat.le_refl _), Nat.sub_self]; rfl, k.gfree, hf, k.gat, r.fut f⟩
  · rcases List.mem_append.mp ha with h1 | h1
    · exact k.there a h1
    · have : a = p := by simpa using h1
      rw [this, k.gat]
      intro z
      cases z
  · rcases List.mem_append.mp ha with h1 | h1
    · exact k'.out a h1
    · have : a = p := by simpa using h1
      rw [this]
      exact hf
end

/-! ### what is walked -/
/-- the items, and the place of the list that must stay as it is meanwhile -/
abbrev Its := List D × List (Nat × Ob)
def grdL (st : Store) : List (Nat × Ob) → Prop
  | [] => True
  | p :: r => cell st p.1 = some p.2 ∧ grdL st r
abbrev IM := Vars → Store → Re Its
abbrev grd (it : Its) (st : Store) : Prop := grdL st it.2
section
variable (K : PySem.W.Frag) (mg : Str → Option Value) (W : WX)
def Wk (μ : List Addr) (G : Hp) (J : It) (it : Its) : Prop := ∀ μ' G' F st H, Fut μ G μ' G' → Kn K mg μ' G' F st H → grd it st →
  J.stop it.1.length H ∧ ∀ (i : Nat) (d : D), it.1[i]? = some d → J.go i H ∧ ∀ x H', J.yld i H x H' → ∃ G'', Fut μ' G' μ' G'' ∧ Kn K mg μ' G'' F st H' ∧ Rep K μ' G'' d x
def tI (m : IM) : TI := fun σ H R => ∃ vs st μ G F, RepE K μ G vs σ ∧ Kn K mg μ G F st H ∧ Done K mg W σ μ G F (m vs st) fun μ' G' it st' H' => grd it st' ∧ ∀ J, Wk K mg μ' G' J it → R J H'
end
abbrev MI (X : Cx) (W : WX) (tg iter : Expr) (m : IM) : Prop := PI X tg iter (tI X.K X.mg W m)
theorem _root_.L2.PI.of {X : Cx} {tg iter : Expr} {t t' : TI} (h : PI X tg iter t) (k : ∀ σ H R, t' σ H R → t σ H R) : PI X tg iter t' := ⟨fun pins s σ H R I q => h.run pins s σ H R I (k σ H R q)⟩
section
variable {X : Cx} {W : WX} {tg l a b c : Expr} {tl : TE} {ml ma mb : EM} {ms : EMs} {pos p : Pos}
/-- a list or a tuple -/
def iSq (K : PySem.W.Frag) (tl : TE) : TI := fun σ H R => tl σ H fun x H1 => ∃ a, x = .ref a ∧ ((∃ xs, SqL K H1 a xs) ∧ R (Itl K a) H1 ∨ (∃ xs, SqT K H1 a xs) ∧ R (Itt K a) H1)
theorem pi_sq (hl : PE X l tl) : PI X tg l (iSq X.K tl) := by
  refine ⟨fun pins s σ H R I h => ?_⟩
  refine thn (hl.run pins s σ H _ I h) fun v s1 ⟨x, H1, I1, r1, q1⟩ => ?_
  obtain ⟨a, e, q⟩ := q1
  subst e
  cases r1
  rcases q with ⟨⟨xs, hq⟩, q⟩ | ⟨⟨xs, hq⟩, q⟩
  · obtain ⟨its, rv, p, hz⟩ := I1.list hq
    refine wpAny_pyIter_list p.isList ?_
    refine ⟨s1.heap.objs.size, [s1.heap.objs.size], _, _, H1, rfl, I1.kept (t' := s1.toks) fun b o e => Heap.get?_push_of_some _ e, turn_list a _, ⟨_, Heap.get?_push_size _ rfl, rfl, rfl⟩, fun b hb => ?_, q⟩
    have e : b = s1.heap.objs.size := by simpa using hb
    subst e
    exact I1.fpOk (Nat.le_refl _) (I1.hok.fresh (Nat.le_refl _))
  · obtain ⟨its, rv, p, hz⟩ := I1.tuple hq
    refine wpAny_pyIter_tuple (show s1.heap.IsTuple a its.toArray from p) ?_
    refine ⟨s1.heap.objs.size, [s1.heap.objs.size], _, _, H1, rfl, I1.kept (t' := s1.toks) fun b o e => Heap.get?_push_of_some _ e, turn_tuple a _, ⟨_, Heap.get?_push_size _ rfl, rfl, rfl⟩, fun b hb => ?_, q⟩
    have e : b = s1.heap.objs.size := by simpa using hb
    subst e
    exact I1.fpOk (Nat.le_refl _) (I1.hok.fresh (Nat.le_refl _))
/-- the items of a list or a tuple -/
def itsOf (st : Store) : D → Option Its
  | .tup ds => some (ds, [])
  | .lst ds => some (ds, [])
  | .frz ds => some (ds, [])
  | .loc n => match lstAt st n with
    | some ds => some (ds, [(n, .lst ds)])
    | none => none
  | _ => none
theorem lstAt_of {st : Store} {n : Nat} {ds : List D} (h : cell st n = some (.lst ds)) : lstAt st n = some ds := by
  unfold lstAt
  rw [h]
def iE (m : EM) : IM := fun vs st => (m vs st).bind fun x st => match itsOf st x with
  | some it => .ok it st
  | none => .bad
theorem i_sq (hl : ME X W l ml) : MI X W tg l (iE ml) := (pi_sq hl).of fun σ H R h => by
  obtain ⟨vs, st, μ, G, F, re, k, h⟩ := h
  refine ⟨vs, st, μ, G, F, re, k, (Done.bind h).mono fun μ1 G1 x st1 H1 f1 k1 h1 v rv => ?_⟩
  split at h1
  · rename_i it e
    obtain ⟨g, q⟩ := Done.here k1 h1
    cases x with
    | tup ds =>
      injection e with e
      subst e
      obtain ⟨a, vs', rfl, hs, rs⟩ := rep_tup rv
      refine ⟨a, rfl, .inr ⟨⟨vs', k1.ex.sqt hs⟩, q _ fun μ2 G2 F2 st2 H2 f2 k2 _ => ?_⟩⟩
      have hs2 : SqT X.K H2 a vs' := k2.ex.sqt (f2.ex.sqt hs)
      refine ⟨⟨vs', hs2, by rw [rs.length]; exact Nat.le_refl _⟩, fun i d hd => ?_⟩
      obtain ⟨w, hw, rw'⟩ := rs.get hd
      refine ⟨⟨vs', w, hs2, hw⟩, fun y H3 hy => ?_⟩
      obtain ⟨rfl, hy⟩ := hy
      have := hy vs' hs2
      rw [hw] at this
      cases this
      exact ⟨G2, .refl _ _, k2, rw'.fut f2⟩
    | lst ds =>
      injection e with e
      subst e
      obtain ⟨a, vs', rfl, hs, rs⟩ := rep_lst rv
      refine ⟨a, rfl, .inl ⟨⟨vs', .of (k1.ex _ _ hs)⟩, q _ fun μ2 G2 F2 st2 H2 f2 k2 _ => ?_⟩⟩
      have hs2 : SqL X.K H2 a vs' := .of (k2.ex _ _ (f2.ex _ _ hs))
      refine ⟨⟨vs', hs2, by rw [rs.length]; exact Nat.le_refl _⟩, fun i d hd => ?_⟩
      obtain ⟨w, hw, rw'⟩ := rs.get hd
      refine ⟨⟨vs', w, hs2, hw⟩, fun y H3 hy => ?_⟩
      obtain ⟨rfl, hy⟩ := hy
      have := hy vs' hs2
      rw [hw] at this
      cases this
      exact ⟨G2, .refl _ _, k2, rw'.fut f2⟩
    | frz ds =>
      injection e with e
      subst e
      obtain ⟨a, vs', rfl, hs, rs⟩ := rep_frz rv
      refine ⟨a, rfl, .inl ⟨⟨vs', k1.ex.sql hs⟩, q _ fun μ2 G2 F2 st2 H2 f2 k2 _ => ?_⟩⟩
      have hs2 : SqL X.K H2 a vs' := k2.ex.sql (f2.ex.sql hs)
      refine ⟨⟨vs', hs2, by rw [rs.length]; exact Nat.le_refl _⟩, fun i d hd => ?_⟩
      obtain ⟨w, hw, rw'⟩ := rs.get hd
      refine ⟨⟨vs', w, hs2, hw⟩, fun y H3 hy => ?_⟩
      obtain ⟨rfl, hy⟩ := hy
      have := hy vs' hs2
      rw [hw] at this
      cases this
      exact ⟨G2, .refl _ _, k2, rw'.fut f2⟩
    | loc n =>
      unfold itsOf at e
      cases hc : lstAt st1 n with
      | none => simp only [hc] at e; cases e
      | some ds =>
        simp only [hc] at e
        injection e with e
        subst e
        obtain ⟨a, rfl, ha⟩ := rep_loc rv
        obtain ⟨a', vs', e', hs, rs⟩ := lstOf_rep (ds := ds) k1 rv hc
        cases e'
        refine ⟨a, rfl, .inl ⟨⟨vs', .of hs⟩, q _ fun μ2 G2 F2 st2 H2 f2 k2 g2 => ?_⟩⟩
        obtain ⟨a2, vs2, e2, hs2, rs2⟩ := lstOf_rep (d := .loc n) (ds := ds) k2 (.loc (f2.at ha)) (lstAt_of g2.1)
        cases e2
        have hs2 : SqL X.K H2 a vs2 := .of hs2
        refine ⟨⟨vs2, hs2, by rw [rs2.length]; exact Nat.le_refl _⟩, fun i d hd => ?_⟩
        obtain ⟨w, hw, rw'⟩ := rs2.get hd
        refine ⟨⟨vs2, w, hs2, hw⟩, fun y H3 hy => ?_⟩
        obtain ⟨rfl, hy⟩ := hy
        have := hy vs2 hs2
        rw [hw] at this
        cases this
        exact ⟨G2, .refl _ _, k2, rw'⟩
    | _ => cases e
  · exact h1.elim
/-- lo, lo + 1, .. -/
def rng (lo : Int) (n : Nat) : List D := (List.range n).map fun (i : Nat) => D.int (lo + (i : Int))
theorem wk_rng {K : PySem.W.Frag} {mg : Str → Option Value} {μ : List Addr} {G : Hp} {lo : Int} {n : Nat} : Wk K mg μ G (Itr lo n) (rng lo n, []) := by
  intro μ2 G2 F2 st2 H2 f2 k2 _
  have hl : (rng lo n).length = n := by simp [rng]
  refine ⟨by rw [hl]; exact Nat.le_refl _, fun i d hd => ?_⟩
  have hi : i < n := by
    have := (List.getElem?_eq_some_iff.mp hd).1
    rw [hl] at this
    exact this
  refine ⟨hi, fun y H3 hy => ?_⟩
  obtain ⟨rfl, rfl⟩ := hy
  have e : d = .int (lo + i) := by
    unfold rng at hd
    rw [List.getElem?_map, List.getElem?_range hi] at hd
    exact (Option.some.inj hd).symm
  subst e
  exact ⟨G2, .refl _ _, k2, .int⟩
def fitR (i : Int) : Prop := -(2 ^ 62) ≤ i ∧ i < 2 ^ 62
instance (i : Int) : Decidable (fitR i) := by unfold fitR; infer_instance
def iR (ms : EMs) : IM := fun vs st => (ms vs st).bind fun xs st => match xs with
  | [.int j] => if fitR j then .ok (rng 0 j.toNat, []) st else .bad
  | [.int i, .int j] => if fitR i ∧ fitR j then .ok (rng i (j - i).toNat, []) st else .bad
  | _ => .bad
theorem reps_one {K : PySem.W.Frag} {μ : List Addr} {G : Hp} {d : D} {ws : List V} (h : Reps K μ G [d] ws) : ∃ v, ws = [v] ∧ Rep K μ G d v := by
  obtain ⟨v, r, rfl, hv, ht⟩ := reps_cons h
  rw [reps_nil ht]
  exact ⟨v, rfl, hv⟩
theorem reps_two {K : PySem.W.Frag} {μ : List Addr} {G : Hp} {d e : D} {ws : List V} (h : Reps K μ G [d, e] ws) : ∃ v w, ws = [v, w] ∧ Rep K μ G d v ∧ Rep K μ G e w := by
  obtain ⟨v, r, rfl, hv, ht⟩ := reps_cons h
  obtain ⟨w, rfl, hw⟩ := reps_one ht
  exact ⟨v, w, rfl, hv, hw⟩
theorem ite_done' {α : Type} {c : Prop} [Decidable c] {r : Re α} {K : PySem.W.Frag} {mg : Str → Option Value} {W : WX} {σ : L2.St} {μ : List Addr} {G F : Hp} {P : List Addr → Hp → α → Store → Hp → Prop} (h : Done K mg W σ μ G F (if c then r else .bad) P) : c ∧ Done K mg W σ μ G F r P := by
  by_cases hc : c
  · rw [if_pos hc] at h; exact ⟨hc, h⟩
  · rw [if_neg hc] at h; exact h.elim
theorem i_rng1 (hm : X.mg "range" = none) (ha : MA X W [a] ms) (hms : ALen ms 1 := by repeat constructor) (hg : Gl X "range" := by rfl) (hs : starEach [a] X.env = [(false, eval a X.env)] := by rfl) : MI X W tg (.Call (.Name "range" p) [a] [] pos) (iR ms) :=
  (pi_range1 hg hm ha hs).of fun σ H R h => by
    obtain ⟨vs, st, μ, G, F, re, k, h⟩ := h
    unfold iR at h
    cases hd : ms vs st with
    | bad => rw [hd] at h; exact h.elim
    | exc ex st1 => rw [hd] at h; exact ⟨vs, st, μ, G, F, re, k, by rw [hd]; exact h⟩
    | ok ds st1 =>
      rw [hd] at h
      refine ⟨vs, st, μ, G, F, re, k, ?_⟩
      rw [hd]
      intro μ1 G1 H1 f1 k1 ws rws
      have hl := hms.len hd
      have h1 := Done.fut f1 h
      obtain ⟨d, rfl⟩ : ∃ d, ds = [d] := by
        match ds, hl with
        | [d], _ => exact ⟨d, rfl⟩
      obtain ⟨v, rfl, rv⟩ := reps_one rws
      cases d with
      | int j =>
        obtain ⟨hc, h1⟩ := ite_done' (α := Its) h1
        obtain ⟨_, q⟩ := Done.here k1 h1
        rw [rep_int rv]
        exact ⟨j, rfl, hc.1, hc.2, q _ wk_rng⟩
      | _ => exact h1.elim
theorem i_rng2 (hm : X.mg "range" = none) (ha : MA X W [a, b] ms) (hms : ALen ms 2 := by repeat constructor) (hg : Gl X "range" := by rfl) (hs : starEach [a, b] X.env = [(false, eval a X.env), (false, eval b X.env)] := by rfl) (hs2 : starEach [b] X.env = [(false, eval b X.env)] := by rfl) :
    MI X W tg (.Call (.Name "range" p) [a, b] [] pos) (iR ms) :=
  (pi_range2 hg hm ha hs hs2).of fun σ H R h => by
    obtain ⟨vs, st, μ, G, F, re, k, h⟩ := h
    unfold iR at h
    cases hd : ms vs st with
    | bad => rw [hd] at h; exact h.elim
    | exc ex st1 => rw [hd] at h; exact ⟨vs, st, μ, G, F, re, k, by rw [hd]; exact h⟩
    | ok ds st1 =>
      rw [hd] at h
      refine ⟨vs, st, μ, G, F, re, k, ?_⟩
      rw [hd]
      intro μ1 G1 H1 f1 k1 ws rws
      have hl := hms.len hd
      have h1 := Done.fut f1 h
      obtain ⟨d, e, rfl⟩ : ∃ d e, ds = [d, e] := by
        match ds, hl with
        | [d, e], _ => exact ⟨d, e, rfl⟩
      obtain ⟨v, w, rfl, rv, rw'⟩ := reps_two rws
      cases d with
      | int i =>
        cases e with
        | int j =>
          obtain ⟨⟨hc, hc'⟩, h1⟩ := ite_done' (α := Its) h1
          obtain ⟨_, q⟩ := Done.here k1 h1
          rw [rep_int rv, rep_int rw']
          exact ⟨i, j, rfl, ⟨hc.1, hc.2, hc'.1, hc'.2⟩, q _ wk_rng⟩
        | _ => exact h1.elim
      | _ => exact h1.elim
end

/-! ### for -/
open Classical in
noncomputable def forGo (g : TM) (b : SM) (fg : List Nat) (gd : Store → Prop) : List D → SM
  | [], vs, st => if gd st then .nx vs st else .bad
  | d :: ds, vs, st => if gd st then (match g d vs with
      | none => .bad
      | some vs1 => match b vs1 st with
        | .nx vs2 st2 => forGo g b fg gd ds (drp fg vs2) st2
        | .ct vs2 st2 => forGo g b fg gd ds (drp fg vs2) st2
        | .brk vs2 st2 => .nx (drp fg vs2) st2
        | r => r) else .bad
noncomputable def sFor (im : IM) (g : TM) (b : SM) (fg : List Nat) : SM := fun vs st => (im vs st).thn vs fun it st => forGo g b fg (grd it) it.1 (drp fg vs) st
theorem RepE.drp {K : PySem.W.Frag} {μ : List Addr} {G : Hp} {vs : Vars} {σ : L2.St} (h : RepE K μ G vs σ) : ∀ l : List Nat, RepE K μ G (drp l vs) σ
  | [] => h
  | i :: l => RepE.drp (h.drop i) l
section
variable {X : Cx} {W : WX} {tg iter : Expr} {body : List Stmt} {im : IM} {g : TM} {sl : List Nat} {b : SM} {pos : Pos}
theorem st_for (fg : List Nat) (hp : PassesOwn (model X.prog X.w) X.A X.env X.xe) (hi : MI X W tg iter im) (hg : MG X tg sl g) (hb : MSs X W body b) (hc : X.calm = true := by rfl)
    (hs : ∀ x, foldedSetIterable iter X.env x = pure x := by intro _; rfl) : MS X W (.For tg iter body [] pos) (sFor im g b fg) := (ps_for hp hc hi hg hb hs).of fun D σ H h => by
  obtain ⟨vs, st, μ, G, F, re, k, h⟩ := h
  refine ⟨vs, st, μ, G, F, re, k, (DoneS.thn re h).mono fun μ1 G1 it st1 H1 f1 k1 h1 => ?_⟩
  have h0 : grd it st1 := by
    cases e : it.1 with
    | nil =>
      rw [e] at h1
      unfold forGo at h1
      by_cases hq : grd it st1
      · exact hq
      · rw [if_neg hq] at h1; exact h1.elim
    | cons d ds =>
      rw [e] at h1
      unfold forGo at h1
      by_cases hq : grd it st1
      · exact hq
      · rw [if_neg hq] at h1; exact h1.elim
  refine ⟨h0, fun J hJ => ?_⟩
  refine ⟨fun i m σ H => m = it.1.length - i ∧ i ≤ it.1.length ∧ ∃ vs st μ' G', Fut μ1 G1 μ' G' ∧ RepE X.K μ' G' vs σ ∧ Kn X.K X.mg μ' G' F st H ∧ DoneS X.K X.mg W μ' G' F (forGo g b fg (grd it) (it.1.drop i) vs st) D,
    ⟨it.1.length, by simp, Nat.zero_le _, _, st1, μ1, G1, .refl _ _, (re.fut f1).drp fg, k1, h1⟩, ?_⟩
  rintro i m σ H ⟨rfl, hi, vs, st, μ2, G2, f2, re2, k2, h2⟩
  by_cases hlt : i < it.1.length
  · have hd : it.1.drop i = it.1[i] :: it.1.drop (i + 1) := List.drop_eq_getElem_cons hlt
    rw [hd] at h2
    unfold forGo at h2
    by_cases hq : grd it st
    · rw [if_pos hq] at h2
      obtain ⟨_, hgo⟩ := hJ μ2 G2 F st H f2 k2 hq
      obtain ⟨go, yl⟩ := hgo i _ (List.getElem?_eq_getElem hlt)
      refine .inr ⟨go, fun σ' H' => ∃ vs st μ' G', Fut μ1 G1 μ' G' ∧ RepE X.K μ' G' vs σ' ∧ Kn X.K X.mg μ' G' F st H' ∧ DoneS X.K X.mg W μ' G' F (forGo g b fg (grd it) (it.1.drop (i + 1)) vs st) D,
        fun σ' H' q => ⟨it.1.length - (i + 1), by omega, rfl, hlt, q⟩, fun x H' hy => ?_⟩
      obtain ⟨G3, f3, k3, r3⟩ := yl x H' hy
      cases hgd : g it.1[i] vs with
      | none => simp only [hgd] at h2; exact h2.elim
      | some vs1 =>
        simp only [hgd] at h2
        refine ⟨it.1[i], vs, vs1, μ2, G3, r3, k3.ex, re2.fut f3, hgd, fun σ4 re4 _ => ⟨vs1, st, μ2, G3, F, re4, k3, ?_⟩⟩
        have h3 := DoneS.fut f3 h2
        cases hb : b vs1 st with
        | nx vs5 st5 =>
          simp only [hb] at h3
          exact fun μ5 G5 H5 σ5 f5 k5 re5 => ⟨_, st5, μ5, G5, (f2.trans f3).trans f5, re5.drp fg, k5, DoneS.fut f5 h3⟩
        | ct vs5 st5 =>
          simp only [hb] at h3
          exact fun μ5 G5 H5 σ5 f5 k5 re5 => ⟨_, st5, μ5, G5, (f2.trans f3).trans f5, re5.drp fg, k5, DoneS.fut f5 h3⟩
        | brk vs5 st5 =>
          simp only [hb] at h3
          exact fun μ5 G5 H5 σ5 f5 k5 re5 => h3 μ5 G5 H5 σ5 f5 k5 (re5.drp fg)
        | bad => simp only [hb] at h3; exact h3
        | ret d st5 => simp only [hb] at h3; exact h3
        | exc e vs5 st5 => simp only [hb] at h3; exact h3
    · rw [if_neg hq] at h2; exact h2.elim
  · have e : i = it.1.length := by omega
    subst e
    rw [List.drop_length] at h2
    unfold forGo at h2
    by_cases hq : grd it st
    · rw [if_pos hq] at h2
      obtain ⟨hst, _⟩ := hJ μ2 G2 F st H f2 k2 hq
      exact .inl ⟨hst, h2 μ2 G2 H σ (.refl _ _) k2 re2⟩
    · rw [if_neg hq] at h2; exact h2.elim
end

/-! ### comprehensions -/
def Re.okk {α β : Type} (r : Re α) (k : α → Store → Re β) (_ : Lk k := Unit.unit) : Re β := match r with
  | .ok a st => k a st
  | _ => .bad
open Classical in
noncomputable def compGo (g : TM) (t e : EM) (gd : Store → Prop) (vs : Vars) : List D → Store → Re (List D)
  | [], st => if gd st then .ok [] st else .bad
  | d :: ds, st => if gd st then (match g d vs with
      | none => .bad
      | some vs1 => (t vs1 st).okk fun x st1 => match x with
        | .bl true => (e vs1 st1).okk fun y st2 => (compGo g t e gd vs ds st2).okk fun ys st3 => .ok (y :: ys) st3
        | .bl false => compGo g t e gd vs ds st1
        | _ => .bad) else .bad
noncomputable def eComp (n : Bool) (im : IM) (g : TM) (t e : EM) (own : List Nat) : EM := fun vs st => (im vs st).bind fun it st => if room it.1.length then (compGo g t e (grd it) (drp own vs) it.1 st).okk fun ys st => mkNew n ys st else .bad
abbrev W0 : WX := fun _ _ _ _ => False
abbrev MTs (X : Cx) (W : WX) (ifs : List Expr) (m : EM) : Prop := PTs X ifs (tT X.K X.mg W m)
section
variable {X : Cx} {W : WX} {c : Expr} {m : EM}
theorem ts_nil : MTs X W [] (eC (.bl true)) := ⟨fun pins s σ H Q I h => pts_nil.run pins s σ H Q I (by
  obtain ⟨vs, st, μ, G, F, re, k, h⟩ := h
  obtain ⟨b, e, q⟩ := Done.here k h
  cases e
  exact q)⟩
theorem ts_one (h : MT X W c m) : MTs X W [c] m := pts_one h
end
theorem wipe_get {σ : L2.St} : ∀ {l : List Nat} {j : Nat}, j ∉ l → (wipe σ l)[j]? = σ[j]?
  | [], _, _ => rfl
  | v :: l, j, h => by
    unfold wipe
    rw [List.getElem?_set_ne (fun z => h (by simp [z])), wipe_get (fun z => h (List.mem_cons_of_mem _ z))]
theorem wipe_at {σ : L2.St} : ∀ {l : List Nat} {j : Nat}, j ∈ l → (wipe σ l)[j]? = if j < σ.length then some none else none
  | v :: l, j, h => by
    unfold wipe
    by_cases e : v = j
    · subst e
      by_cases hl : v < σ.length
      · rw [List.getElem?_set_self (by rw [wipe_length]; exact hl), if_pos hl]
      · rw [List.getElem?_eq_none (by rw [List.length_set, wipe_length]; omega), if_neg hl]
    · rw [List.getElem?_set_ne e]
      exact wipe_at (by
        rcases List.mem_cons.mp h with z | z
        · exact absurd z.symm e
        · exact z)
theorem wipe_but {σ σ2 : L2.St} {l sl : List Nat} (h : But sl (wipe σ l) σ2) (hs : ∀ j ∈ sl, j ∈ l) : wipe σ2 l = wipe σ l := by
  have hl : σ2.length = σ.length := by rw [h.1, wipe_length]
  refine List.ext_getElem? fun j => ?_
  by_cases hj : j ∈ l
  · rw [wipe_at hj, wipe_at hj, hl]
  · rw [wipe_get hj, h.2 j fun z => hj (hs j z)]
theorem drp_get {vs : Vars} : ∀ {l : List Nat} {j : Nat} {d : D}, (drp l vs)[j]? = some (some d) → j ∉ l ∧ vs[j]? = some (some d)
  | [], _, _, h => ⟨by simp, h⟩
  | i :: l, j, d, h => by
    have h' : (drp l (vs.set i none))[j]? = some (some d) := h
    obtain ⟨h1, h2⟩ := drp_get h'
    by_cases e : i = j
    · subst e
      by_cases hl : i < vs.length
      · rw [List.getElem?_set_self hl] at h2; cases h2
      · rw [List.getElem?_eq_none (by simpa using hl)] at h2; cases h2
    · rw [List.getElem?_set_ne e] at h2
      exact ⟨by simp only [List.mem_cons, not_or]; exact ⟨fun z => e z.symm, h1⟩, h2⟩
theorem drp_length {vs : Vars} : ∀ {l : List Nat}, (drp l vs).length = vs.length
  | [] => rfl
  | i :: l => by
    have : (drp l (vs.set i none)).length = (vs.set i none).length := drp_length
    rw [List.length_set] at this
    exact this
theorem RepE.wipe {K : PySem.W.Frag} {μ : List Addr} {G : Hp} {vs : Vars} {σ : L2.St} (h : RepE K μ G vs σ) (l : List Nat) : RepE K μ G (Dn.drp l vs) (L2.wipe σ l) := by
  refine ⟨by rw [drp_length, wipe_length, h.len], fun i d e => ?_⟩
  obtain ⟨h1, h2⟩ := drp_get e
  rw [wipe_get h1]
  exact h.get i d h2
section
variable {X : Cx} {W : WX} {tg iter elt : Expr} {ifs : List Expr} {scope : Scope} {own : List (Str × Nat)} {im : IM} {g : TM} {sl : List Nat} {mt me : EM} {pos : Pos}
theorem comp_of (n : Bool) (hsl : ∀ j ∈ sl, j ∈ own.map (·.2)) (σ : L2.St) (H : Hp) (Q : VK) (h : tE X.K X.mg W (eComp n im g mt me (own.map (·.2))) σ H Q) :
    tLc (tI X.K X.mg W im) (gM X.K sl g) (tT X.K X.mg W0 mt) (tE X.K X.mg W0 me) (own.map (·.2)) σ H Q := by
  obtain ⟨vs, st, μ, G, F, re, k, h⟩ := h
  generalize hown : own.map (·.2) = ow at hsl h ⊢
  refine ⟨vs, st, μ, G, F, re, k, (Done.bind h).mono fun μ1 G1 it st1 H1 f1 k1 h1 => ?_⟩
  obtain ⟨hr, h1⟩ := ite_done h1
  have h0 : grd it st1 := by
    by_cases hq : grd it st1
    · exact hq
    · exfalso
      cases e : it.1 with
      | nil =>
        rw [e] at h1
        unfold compGo at h1
        rw [if_neg hq] at h1
        exact h1
      | cons d ds =>
        rw [e] at h1
        unfold compGo at h1
        rw [if_neg hq] at h1
        exact h1
  refine ⟨h0, fun J hJ D hD => ?_⟩
  have fD : F D = none := k1.fr.free hD
  refine ⟨fun i m H => m = it.1.length - i ∧ i ≤ it.1.length ∧ ∃ acc av st μ' G', Fut μ1 G1 μ' G' ∧ Kn X.K X.mg μ' G' (upd F D (.lst av)) st H ∧ Reps X.K μ' G' acc av ∧ acc.length ≤ i ∧
      Done X.K X.mg W σ μ' G' F ((compGo g mt me (grd it) (drp ow vs) (it.1.drop i) st).okk fun ys st => mkNew n (acc ++ ys) st) (Fin X.K Q),
    ⟨it.1.length, by simp, Nat.zero_le _, [], [], st1, μ1, G1, .refl _ _, k1.guard hD, .nil, Nat.le_refl _, h1⟩, ?_⟩
  rintro i m H2 ⟨rfl, hi, acc, av, st2, μ2, G2, f2, k2, ra, hla, h2⟩
  by_cases hlt : i < it.1.length
  · have hd : it.1.drop i = it.1[i] :: it.1.drop (i + 1) := List.drop_eq_getElem_cons hlt
    rw [hd] at h2
    unfold compGo at h2
    by_cases hq : grd it st2
    · rw [if_pos hq] at h2
      obtain ⟨_, hgo⟩ := hJ μ2 G2 _ st2 H2 f2 k2 hq
      obtain ⟨go, yl⟩ := hgo i _ (List.getElem?_eq_getElem hlt)
      refine .inr ⟨go, fun H => ∃ acc av st μ' G', Fut μ1 G1 μ' G' ∧ Kn X.K X.mg μ' G' (upd F D (.lst av)) st H ∧ Reps X.K μ' G' acc av ∧ acc.length ≤ i + 1 ∧
          Done X.K X.mg W σ μ' G' F ((compGo g mt me (grd it) (drp ow vs) (it.1.drop (i + 1)) st).okk fun ys st => mkNew n (acc ++ ys) st) (Fin X.K Q),
        fun H' q => ⟨it.1.length - (i + 1), by omega, rfl, hlt, q⟩, fun x H' hy => ?_⟩
      obtain ⟨G3, f3, k3, r3⟩ := yl x H' hy
      cases hgd : g it.1[i] (drp ow vs) with
      | none => simp only [hgd] at h2; exact h2.elim
      | some vs1 =>
        simp only [hgd] at h2
        have re3 : RepE X.K μ2 G3 (drp ow vs) (wipe σ ow) := ((re.fut ((f1.trans f2).trans f3))).wipe ow
        refine ⟨it.1[i], drp ow vs, vs1, μ2, G3, r3, k3.ex, re3, hgd, fun σ4 re4 b4 => ⟨wipe_but b4 hsl, vs1, st2, μ2, G3, _, re4, k3, ?_⟩⟩
        have h3 := Done.fut f3 h2
        cases hmt : mt vs1 st2 with
        | bad => rw [hmt] at h3; exact h3
        | exc e st4 => rw [hmt] at h3; exact h3.elim
        | ok z st4 =>
          rw [hmt] at h3
          intro μ4 G4 H4 f4 k4
          have f14 : Fut μ1 G1 μ4 G4 := (f2.trans f3).trans f4
          cases z with
          | bl kk =>
            refine ⟨kk, rfl, ?_⟩
            cases kk with
            | false =>
              rw [if_neg Bool.false_ne_true]
              exact ⟨acc, av, st4, μ4, G4, f14, k4, ra.fut (f3.trans f4), Nat.le_succ_of_le hla, Done.fut f4 h3⟩
            | true =>
              rw [if_pos rfl]
              refine ⟨vs1, st4, μ4, G4, _, re4.fut f4, k4, ?_⟩
              have h4 := Done.fut f4 h3
              cases hme : me vs1 st4 with
              | bad =>
                have h4' : Done X.K X.mg W σ μ4 G4 F (((me vs1 st4).okk fun y st2 => (compGo g mt me (grd it) (drp ow vs) (it.1.drop (i + 1)) st2).okk fun ys st3 => .ok (y :: ys) st3).okk fun ys st => mkNew n (acc ++ ys) st) (Fin X.K Q) := h4
                rw [hme] at h4'
                exact h4'
              | exc e st5 =>
                have h4' : Done X.K X.mg W σ μ4 G4 F (((me vs1 st4).okk fun y st2 => (compGo g mt me (grd it) (drp ow vs) (it.1.drop (i + 1)) st2).okk fun ys st3 => .ok (y :: ys) st3).okk fun ys st => mkNew n (acc ++ ys) st) (Fin X.K Q) := h4
                rw [hme] at h4'
                exact h4'.elim
              | ok y st5 =>
                have h4' : Done X.K X.mg W σ μ4 G4 F (((me vs1 st4).okk fun y st2 => (compGo g mt me (grd it) (drp ow vs) (it.1.drop (i + 1)) st2).okk fun ys st3 => .ok (y :: ys) st3).okk fun ys st => mkNew n (acc ++ ys) st) (Fin X.K Q) := h4
                rw [hme] at h4'
                intro μ5 G5 H5 f5 k5 yv ry
                refine ⟨av, k5.gat, ?_, acc ++ [y], av ++ [yv], st5, μ5, G5, f14.trans f5, k5.reguard, ((ra.fut (f3.trans f4)).fut f5).append (.cons ry .nil), by simp; omega, ?_⟩
                · rw [ra.length]
                  exact room_lt (Nat.le_trans (by omega) hr)
                · have h5 := Done.fut f5 h4'
                  cases hc : compGo g mt me (grd it) (drp ow vs) (it.1.drop (i + 1)) st5 with
                  | bad =>
                    have h5' : Done X.K X.mg W σ μ5 G5 F (((compGo g mt me (grd it) (drp ow vs) (it.1.drop (i + 1)) st5).okk fun ys st3 => .ok (y :: ys) st3).okk fun ys st => mkNew n (acc ++ ys) st) (Fin X.K Q) := h5
                    rw [hc] at h5'
                    exact h5'
                  | exc e st6 =>
                    have h5' : Done X.K X.mg W σ μ5 G5 F (((compGo g mt me (grd it) (drp ow vs) (it.1.drop (i + 1)) st5).okk fun ys st3 => .ok (y :: ys) st3).okk fun ys st => mkNew n (acc ++ ys) st) (Fin X.K Q) := h5
                    rw [hc] at h5'
                    exact h5'
                  | ok ys st6 =>
                    have h5' : Done X.K X.mg W σ μ5 G5 F (((compGo g mt me (grd it) (drp ow vs) (it.1.drop (i + 1)) st5).okk fun ys st3 => .ok (y :: ys) st3).okk fun ys st => mkNew n (acc ++ ys) st) (Fin X.K Q) := h5
                    rw [hc] at h5'
                    have h6 : Done X.K X.mg W σ μ5 G5 F (mkNew n (acc ++ y :: ys) st6) (Fin X.K Q) := h5'
                    show Done X.K X.mg W σ μ5 G5 F (mkNew n (acc ++ [y] ++ ys) st6) (Fin X.K Q)
                    rw [List.append_assoc]
                    exact h6
          | _ => exact h3.elim
    · rw [if_neg hq] at h2; exact h2.elim
  · have e : i = it.1.length := by omega
    subst e
    rw [List.drop_length] at h2
    unfold compGo at h2
    by_cases hq : grd it st2
    · rw [if_pos hq] at h2
      obtain ⟨hst, _⟩ := hJ μ2 G2 _ st2 H2 f2 k2 hq
      refine .inl ⟨hst, ?_⟩
      have h3 : Done X.K X.mg W σ μ2 G2 F (mkNew n (acc ++ []) st2) (Fin X.K Q) := h2
      rw [List.append_nil] at h3
      cases n with
      | true =>
        refine h3 (μ2 ++ [D]) G2 H2 ⟨⟨[D], rfl⟩, .refl G2⟩ (k2.place fD ⟨av, rfl, ra⟩) _ (.loc ?_)
        rw [← k2.len, List.getElem?_append_right (Nat.le_refl _), Nat.sub_self]
        rfl
      | false =>
        have f : Fut μ2 G2 μ2 (upd G2 D (.lst av)) := .know (.new k2.gfree)
        exact h3 μ2 _ H2 f (k2.release fD) _ (.lst upd_same (ra.fut f))
    · rw [if_neg hq] at h2; exact h2.elim
theorem m_comp (n : Bool) (own : List (Str × Nat)) (hN : X.N.Nodup) (hi : MI X W tg iter im) (ok : BlkOk X.N X.env.scope scope own)
    (hg : ∀ (s : Shared) (H : Hp) (C : Addr) (cl : List (Str × Addr)) (fp : List Addr), MG (X.blk s H scope (compEnvC scope cl C X.env) fp) tg sl g)
    (ht : ∀ (s : Shared) (H : Hp) (C : Addr) (cl : List (Str × Addr)) (fp : List Addr), MTs (X.blk s H scope (compEnvC scope cl C X.env) fp) W0 ifs mt)
    (he : ∀ (s : Shared) (H : Hp) (C : Addr) (cl : List (Str × Addr)) (fp : List Addr), ME (X.blk s H scope (compEnvC scope cl C X.env) fp) W0 elt me)
    (hsl : ∀ j ∈ sl, j ∈ own.map (·.2) := by decide) (hc : X.calm = true := by rfl) (hs : ∀ x, foldedSetIterable iter X.env x = pure x := by intro _; rfl) : ME X W (.ListComp elt [⟨tg, iter, ifs, 0⟩] scope pos) (eComp n im g mt me (own.map (·.2))) :=
  (pe_lc hc hN hi ok hg ht he hs).of (comp_of n hsl)
theorem st_setLc (n : Bool) (i : Nat) {y : Str} {py spos : Pos} (own : List (Str × Nat)) (hN : X.N.Nodup) (hi : MI X W tg iter im) (ok : BlkOk X.N X.env.scope scope own)
    (hg : ∀ (s : Shared) (H : Hp) (C : Addr) (cl : List (Str × Addr)) (fp : List Addr), MG (X.blk s H scope (compEnvC scope cl C X.env) fp) tg sl g)
    (ht : ∀ (s : Shared) (H : Hp) (C : Addr) (cl : List (Str × Addr)) (fp : List Addr), MTs (X.blk s H scope (compEnvC scope cl C X.env) fp) W0 ifs mt)
    (he : ∀ (s : Shared) (H : Hp) (C : Addr) (cl : List (Str × Addr)) (fp : List Addr), ME (X.blk s H scope (compEnvC scope cl C X.env) fp) W0 elt me)
    (hsw : swapsWith (.ListComp elt [⟨tg, iter, ifs, 0⟩] scope pos) (some (.Name y py)) spos.line X.env = pure true)
    (hy : X.N[i]? = some y := by rfl) (hyl : X.env.scope.names.lookup y = some .local := by rfl) (hsl : ∀ j ∈ sl, j ∈ own.map (·.2) := by decide) (hc : X.calm = true := by rfl) (hs : ∀ x, foldedSetIterable iter X.env x = pure x := by intro _; rfl) :
    MS X W (.Assign [.Name y py] (.ListComp elt [⟨tg, iter, ifs, 0⟩] scope pos) spos) (sAsg (gN i) (eComp n im g mt me (own.map (·.2)))) :=
  (ps_setLc hc hN hy hyl hsw hi ok hg ht he hs).of fun D σ H h => by
    obtain ⟨vs, st, μ, G, F, re, k, h⟩ := h
    refine comp_of n hsl σ H _ ⟨vs, st, μ, G, F, re, k, (DoneS.thn re h).mono fun μ1 G1 x st1 H1 f1 k1 h1 v rv => ?_⟩
    exact h1 μ1 G1 H1 _ (.refl _ _) k1 ((re.fut f1).set rv i)
end
end Dn
namespace Dn
open PySem PySem.Spec PyProof.Rows L2

/-! ### a def's end: its own places are left -/
mutual
/-- all places are below n -/
def locsLt (n : Nat) : D → Bool
  | .loc m => decide (m < n)
  | .tup ds => locsLts n ds
  | .lst ds => locsLts n ds
  | .frz ds => locsLts n ds
  | .exn _ _ ds => locsLts n ds
  | _ => true
def locsLts (n : Nat) : List D → Bool
  | [] => true
  | d :: ds => locsLt n d && locsLts n ds
end
def obLt (n : Nat) : Ob → Bool
  | .lst ds => locsLts n ds
  | .dct kvs => kvs.all fun p => locsLt n p.2
  | .dtt kvs => kvs.all fun p => locsLt n p.2
  | .ins _ fs => fs.all fun p => locsLt n p.2
/-- a value without the places from n0 on: its lists by value -/
def reify (n0 : Nat) (st : Store) : Nat → D → Option D
  | 0, d => if locsLt n0 d then some d else none
  | k + 1, d => if locsLt n0 d then some d else match d with
    | .loc m => match lstAt st m with
      | some ds => (ds.mapM (reify n0 st k)).map .lst
      | none => none
    | .tup ds => (ds.mapM (reify n0 st k)).map .tup
    | .lst ds => (ds.mapM (reify n0 st k)).map .lst
    | .frz _ => none
    | .exn _ _ _ => none
    | d => some d
def keepOk (st0 st : Store) : Prop := ∀ i, i < st0.length → st[i]? = st0[i]? ∨ ∃ o, st[i]? = some o ∧ ∀ ob, o = some ob → obLt st0.length ob = true
open Classical in
noncomputable def gcRet (st0 : Store) (d : D) (st : Store) : Re D := if keepOk st0 st then (match reify st0.length st 4 d with
  | some d => .ok d (st.take st0.length)
  | none => .bad) else .bad
open Classical in
noncomputable def gcExc (st0 : Store) (e : Exn) (st : Store) : Re D := if keepOk st0 st ∧ (e.fs.all fun p => locsLt st0.length p.2) = true then .exc e (st.take st0.length) else .bad
def vars (n : Nat) (ds : List D) : Vars := ds.map some ++ List.replicate (n - ds.length) none
noncomputable def fnD (n : Nat) (b : SM) : FnD := fun ds st => match b (vars n ds) st with
  | .ret d st' => gcRet st d st'
  | .nx _ st' => gcRet st .non st'
  | .exc e _ st' => gcExc st e st'
  | _ => .bad
/-- .. its places are kept -/
def fnK (n : Nat) (b : SM) : FnD := fun ds st => match b (vars n ds) st with
  | .ret d st' => .ok d st'
  | .nx _ st' => .ok .non st'
  | .exc e _ st' => .exc e st'
  | _ => .bad
section
variable {K : PySem.W.Frag} {mg : Str → Option Value} {μ μ0 : List Addr} {G G' F : Hp} {st : Store} {H : Hp}
mutual
theorem rep_lt : ∀ {d : D} {v : V}, Rep K μ G d v → locsLt μ.length d = true
  | .non, _, _ => rfl
  | .bl _, _, _ => rfl
  | .int _, _, _ => rfl
  | .str _, _, _ => rfl
  | .tup ds, v, h => by
    obtain ⟨_, _, _, _, r⟩ := rep_tup h
    exact reps_lt r
  | .lst ds, v, h => by
    obtain ⟨_, _, _, _, r⟩ := rep_lst h
    exact reps_lt r
  | .frz ds, v, h => by
    obtain ⟨_, _, _, _, r⟩ := rep_frz h
    exact reps_lt r
  | .exn _ _ _, v, h => by
    obtain ⟨_, _, _, r⟩ := rep_exn h
    exact reps_lt r
  | .loc n, v, h => by
    obtain ⟨a, _, e⟩ := rep_loc h
    exact decide_eq_true (List.getElem?_eq_some_iff.mp e).1
theorem reps_lt : ∀ {ds : List D} {vs : List V}, Reps K μ G ds vs → locsLts μ.length ds = true
  | [], _, _ => rfl
  | d :: ds, vs, h => by
    obtain ⟨v, r, _, h1, h2⟩ := reps_cons h
    have e1 := rep_lt h1
    have e2 := reps_lt h2
    show (locsLt μ.length d && locsLts μ.length ds) = true
    rw [e1, e2]
    rfl
end
mutual
theorem rep_cut (l : List Addr) : ∀ {d : D} {v : V}, locsLt μ0.length d = true → Rep K (μ0 ++ l) G d v → Rep K μ0 G d v
  | .non, _, _, h => by rw [rep_non h]; exact .non
  | .bl _, _, _, h => by rw [rep_bl h]; exact .bl
  | .int _, _, _, h => by rw [rep_int h]; exact .int
  | .str _, _, _, h => by rw [rep_str h]; exact .str
  | .tup ds, v, e, h => by
    obtain ⟨_, _, rfl, s, r⟩ := rep_tup h
    exact .tup s (reps_cut l e r)
  | .lst ds, v, e, h => by
    obtain ⟨_, _, rfl, s, r⟩ := rep_lst h
    exact .lst s (reps_cut l e r)
  | .frz ds, v, e, h => by
    obtain ⟨_, _, rfl, s, r⟩ := rep_frz h
    exact .frz s (reps_cut l e r)
  | .exn _ _ _, v, e, h => by
    obtain ⟨_, rfl, s, r⟩ := rep_exn h
    exact .exn s (reps_cut l e r)
  | .loc n, v, e, h => by
    obtain ⟨a, rfl, s⟩ := rep_loc h
    have hn : n < μ0.length := of_decide_eq_true e
    rw [List.getElem?_append_left hn] at s
    exact .loc s
theorem reps_cut (l : List Addr) : ∀ {ds : List D} {vs : List V}, locsLts μ0.length ds = true → Reps K (μ0 ++ l) G ds vs → Reps K μ0 G ds vs
  | [], vs, _, h => by rw [reps_nil h]; exact .nil
  | d :: ds, vs, e, h => by
    obtain ⟨v, r, rfl, h1, h2⟩ := reps_cons h
    have e' : (locsLt μ0.length d && locsLts μ0.length ds) = true := e
    rw [Bool.and_eq_true] at e'
    exact .cons (rep_cut l e'.1 h1) (reps_cut l e'.2 h2)
end
theorem repKV_lt {κ : Type} : ∀ {kvs : List (κ × D)} {ps : List (κ × V)}, RepKV K μ G kvs ps → (kvs.all fun p => locsLt μ.length p.2) = true
  | [], _, _ => rfl
  | (k, d) :: r, ps, h => by
    obtain ⟨v, s, _, hv, t⟩ := h
    rw [List.all_cons, rep_lt hv, repKV_lt t]
    rfl
theorem repKV_cut {κ : Type} (l : List Addr) : ∀ {kvs : List (κ × D)} {ps : List (κ × V)}, (kvs.all fun p => locsLt μ0.length p.2) = true → RepKV K (μ0 ++ l) G kvs ps → RepKV K μ0 G kvs ps
  | [], _, _, h => h
  | (k, d) :: r, ps, e, h => by
    obtain ⟨v, s, e1, hv, t⟩ := h
    rw [List.all_cons, Bool.and_eq_true] at e
    exact ⟨v, s, e1, rep_cut l e.1 hv, repKV_cut l e.2 t⟩
theorem repF_lt : ∀ {kvs : List (Str × D)} {ps : List (Str × V)}, RepF K μ G kvs ps → (kvs.all fun p => locsLt μ.length p.2) = true
  | [], _, _ => rfl
  | (k, d) :: r, ps, h => by
    obtain ⟨v, s, _, hv, t⟩ := h
    rw [List.all_cons, rep_lt hv, repF_lt t]
    rfl
theorem repF_cut (l : List Addr) : ∀ {kvs : List (Str × D)} {ps : List (Str × V)}, (kvs.all fun p => locsLt μ0.length p.2) = true → RepF K (μ0 ++ l) G kvs ps → RepF K μ0 G kvs ps
  | [], _, _, h => h
  | (k, d) :: r, ps, e, h => by
    obtain ⟨v, s, e1, hv, t⟩ := h
    rw [List.all_cons, Bool.and_eq_true] at e
    exact ⟨v, s, e1, rep_cut l e.1 hv, repF_cut l e.2 t⟩
theorem repO_lt {ob : Ob} {o : HO} (h : RepO K mg μ G ob o) : obLt μ.length ob = true := by
  cases ob with
  | lst ds => obtain ⟨vs, _, r⟩ := h; exact reps_lt r
  | dct kvs => obtain ⟨vs, _, r⟩ := h; exact repKV_lt r
  | dtt kvs => obtain ⟨vs, _, r⟩ := h; exact repKV_lt r
  | ins c fs => obtain ⟨C, dx, gs, _, _, r⟩ := h; exact repF_lt r
theorem repO_cut (l : List Addr) {ob : Ob} {o : HO} (e : obLt μ0.length ob = true) (h : RepO K mg (μ0 ++ l) G ob o) : RepO K mg μ0 G ob o := by
  cases ob with
  | lst ds => obtain ⟨vs, e1, r⟩ := h; exact ⟨vs, e1, reps_cut l e r⟩
  | dct kvs => obtain ⟨vs, e1, r⟩ := h; exact ⟨vs, e1, repKV_cut l e r⟩
  | dtt kvs => obtain ⟨vs, e1, r⟩ := h; exact ⟨vs, e1, repKV_cut l e r⟩
  | ins c fs => obtain ⟨C, dx, gs, e1, e2, r⟩ := h; exact ⟨C, dx, gs, e1, e2, repF_cut l e r⟩
/-- the places from n0 on are left -/
theorem Kn.cut {l : List Addr} {st0 : Store} {G0 H0 : Hp} (k0 : Kn K mg μ0 G0 F st0 H0) (k : Kn K mg (μ0 ++ l) G F st H) (ok : keepOk st0 st) : Kn K mg μ0 G F (st.take st0.length) H := by
  have hl : st0.length ≤ st.length := by rw [← k.len, List.length_append, k0.len]; omega
  refine ⟨k.ex, k.fr, k.sep, by rw [List.length_take, k0.len]; omega, (List.nodup_append.mp k.inj).1, fun n ob e => ?_, fun a ha => k.there a (List.mem_append_left _ ha), fun a ha => k.out a (List.mem_append_left _ ha)⟩
  have hn : n < st0.length := by
    have := (List.getElem?_eq_some_iff.mp e).1
    rw [List.length_take] at this
    omega
  rw [List.getElem?_take_of_lt hn] at e
  obtain ⟨a, o, h1, h2, h3, h4, h5⟩ := k.cell n ob e
  rw [List.getElem?_append_left (by rw [k0.len]; exact hn)] at h1
  refine ⟨a, o, h1, h2, h3, h4, repO_cut l ?_ h5⟩
  rcases ok n hn with z | ⟨o', z1, z2⟩
  · rw [e] at z
    obtain ⟨_, _, _, _, _, _, g5⟩ := k0.cell n ob z.symm
    exact repO_lt g5
  · rw [e] at z1
    injection z1 with z1
    rw [k0.len]
    exact z2 ob z1.symm
/-- the lists at places that are left are known for ever -/
theorem reify_rep {n0 : Nat} {st : Store} {l : List Addr} {H : Hp} (hμ : μ0.length = n0) (cl : ∀ (n : Nat) (ds : List D), n0 ≤ n → lstAt st n = some ds → ∃ a vs, (μ0 ++ l)[n]? = some a ∧ G a = some (.lst vs) ∧ Reps K (μ0 ++ l) G ds vs) :
    ∀ (k : Nat) (d d' : D) (v : V), reify n0 st k d = some d' → Rep K (μ0 ++ l) G d v → Rep K μ0 G d' v := by
  have all : ∀ (f : D → Option D), (∀ (d d' : D) (v : V), f d = some d' → Rep K (μ0 ++ l) G d v → Rep K μ0 G d' v) → ∀ (ds ds' : List D) (vs : List V), ds.mapM f = some ds' → Reps K (μ0 ++ l) G ds vs → Reps K μ0 G ds' vs := by
    intro f ih ds
    induction ds with
    | nil =>
      intro ds' vs e r
      have : ds' = [] := by simpa using e.symm
      rw [this, reps_nil r]
      exact .nil
    | cons d ds ih2 =>
      intro ds' vs e r
      obtain ⟨v, t, rfl, hv, ht⟩ := reps_cons r
      rw [List.mapM_cons] at e
      cases e1 : f d with
      | none => rw [e1] at e; cases e
      | some d' =>
        rw [e1] at e
        cases e2 : ds.mapM f with
        | none => rw [e2] at e; cases e
        | some ds2 =>
          rw [e2] at e
          injection e with e
          subst e
          exact .cons (ih d d' v e1 hv) (ih2 ds2 t e2 ht)
  intro k
  induction k with
  | zero =>
    intro d d' v e r
    unfold reify at e
    split at e
    · rename_i hc
      injection e with e
      subst e
      exact rep_cut l (by rw [hμ]; exact hc) r
    · cases e
  | succ k ih =>
    intro d d' v e r
    unfold reify at e
    split at e
    · rename_i hc
      injection e with e
      subst e
      exact rep_cut l (by rw [hμ]; exact hc) r
    · rename_i hc
      cases d with
      | loc m =>
        cases hm : lstAt st m with
        | none => simp only [hm] at e; cases e
        | some ds =>
          simp only [hm] at e
          have hge : n0 ≤ m := by
            have : ¬ (decide (m < n0) = true) := hc
            simp at this
            exact this
          obtain ⟨a, vs, h1, h2, h3⟩ := cl m ds hge hm
          obtain ⟨a', rfl, h1'⟩ := rep_loc r
          rw [h1] at h1'
          cases h1'
          cases hq : ds.mapM (reify n0 st k) with
          | none => rw [hq] at e; cases e
          | some ds' =>
            rw [hq] at e
            injection e with e
            subst e
            exact .lst h2 (all _ ih ds ds' vs hq h3)
      | tup ds =>
        obtain ⟨a, vs, rfl, s, rs⟩ := rep_tup r
        have e' : (ds.mapM (reify n0 st k)).map D.tup = some d' := e
        cases hq : ds.mapM (reify n0 st k) with
        | none => rw [hq] at e'; cases e'
        | some ds' =>
          rw [hq] at e'
          injection e' with e'
          subst e'
          exact .tup s (all _ ih ds ds' vs hq rs)
      | lst ds =>
        obtain ⟨a, vs, rfl, s, rs⟩ := rep_lst r
        have e' : (ds.mapM (reify n0 st k)).map D.lst = some d' := e
        cases hq : ds.mapM (reify n0 st k) with
        | none => rw [hq] at e'; cases e'
        | some ds' =>
          rw [hq] at e'
          injection e' with e'
          subst e'
          exact .lst s (all _ ih ds ds' vs hq rs)
      | frz ds => cases e
      | exn _ _ _ => cases e
      | non => exact absurd rfl hc
      | bl _ => exact absurd rfl hc
      | int _ => exact absurd rfl hc
      | str _ => exact absurd rfl hc
end
open Classical in
/-- what is known, and the lists at the places from n0 on -/
noncomputable def knowL (G : Hp) (μ : List Addr) (st : Store) (n0 : Nat) (H : Hp) : Hp := fun a => match G a with
  | some o => some o
  | none => if ∃ (n : Nat) (ds : List D), n0 ≤ n ∧ μ[n]? = some a ∧ lstAt st n = some ds then H a else none
section
variable {K : PySem.W.Frag} {mg : Str → Option Value} {μ μ0 : List Addr} {G G0 F : Hp} {st st0 : Store} {H H0 : Hp}
theorem knowL_ex {n0 : Nat} : Ex G (knowL G μ st n0 H) := fun a o e => by
  unfold knowL
  rw [e]
theorem knowL_some {n0 : Nat} {a : Addr} {o : HO} (k : Kn K mg μ G F st H) (e : knowL G μ st n0 H a = some o) : H a = some o ∧ (G a = some o ∨ ∃ n, n0 ≤ n ∧ μ[n]? = some a) := by
  unfold knowL at e
  cases g : G a with
  | some u =>
    rw [g] at e
    have e' : u = o := by simpa using e
    subst e'
    exact ⟨k.ex a _ g, .inl rfl⟩
  | none =>
    simp only [g] at e
    by_cases hc : ∃ (n : Nat) (ds : List D), n0 ≤ n ∧ μ[n]? = some a ∧ lstAt st n = some ds
    · have e' : H a = some o := by rw [if_pos hc] at e; exact e
      obtain ⟨n, ds, h1, h2, _⟩ := hc
      exact ⟨e', .inr ⟨n, h1, h2⟩⟩
    · have e' : (none : Option HO) = some o := by rw [if_neg hc] at e; exact e
      cases e'
theorem Kn.left {l : List Addr} (k0 : Kn K mg μ0 G0 F st0 H0) (k : Kn K mg (μ0 ++ l) G F st H) (ok : keepOk st0 st) : Kn K mg μ0 (knowL G (μ0 ++ l) st st0.length H) F (st.take st0.length) H := by
  have c := k0.cut k ok
  have f : Fut μ0 G μ0 (knowL G (μ0 ++ l) st st0.length H) := .know knowL_ex
  refine ⟨fun a o e => (knowL_some k e).1, c.fr, fun a o e => ?_, c.len, c.inj, fun n ob e => ?_, c.there, c.out⟩
  · cases q : knowL G (μ0 ++ l) st st0.length H a with
    | none => rfl
    | some u =>
      rcases (knowL_some k q).2 with z | ⟨n, _, z⟩
      · rw [k.sep a o e] at z
        cases z
      · have := k.out a (List.mem_of_getElem? z)
        rw [e] at this
        cases this
  · obtain ⟨a, o, h1, h2, h3, h4, h5⟩ := c.cell n ob e
    refine ⟨a, o, h1, ?_, h3, h4, h5.fut f⟩
    cases q : knowL G (μ0 ++ l) st st0.length H a with
    | none => rfl
    | some u =>
      rcases (knowL_some k q).2 with z | ⟨m, hm, z⟩
      · rw [h2] at z
        cases z
      · have hn : n < μ0.length := (List.getElem?_eq_some_iff.mp h1).1
        have h1' : (μ0 ++ l)[n]? = some a := by rw [List.getElem?_append_left hn]; exact h1
        have e2 := L2.nd_ix k.inj h1' z
        rw [k0.len] at hn
        omega
theorem gc_done {W : WX} {σ : L2.St} {μ1 : List Addr} {G1 : Hp} {st1 : Store} {H1 : Hp} {d : D} {v : V} {Q : VK} (k0 : Kn K mg μ0 G0 F st0 H0) (f : Fut μ0 G0 μ1 G1) (k1 : Kn K mg μ1 G1 F st1 H1) (r : Rep K μ1 G1 d v)
    (h : Done K mg W σ μ0 G0 F (gcRet st0 d st1) (Fin K Q)) : Q v H1 := by
  obtain ⟨⟨l, rfl⟩, ex⟩ := f
  unfold gcRet at h
  by_cases ok : keepOk st0 st1
  · rw [if_pos ok] at h
    cases hq : reify st0.length st1 4 d with
    | none => rw [hq] at h; exact h.elim
    | some d' =>
      rw [hq] at h
      have kl := k0.left k1 ok
      have ex1 : Ex G1 (knowL G1 (μ0 ++ l) st1 st0.length H1) := knowL_ex
      refine h μ0 _ H1 (.know (ex.trans ex1)) kl v ?_
      refine reify_rep (l := l) (H := H1) k0.len (fun n ds hn hl => ?_) 4 d d' v hq (r.fut (.know ex1))
      obtain ⟨a, o, h1, h2, h3, h4, vs, rfl, h5⟩ := k1.cell n _ (cell_some (lstAt_cell hl))
      refine ⟨a, vs, h1, ?_, h5.fut (.know ex1)⟩
      unfold knowL
      rw [h2]
      have hc : ∃ (n : Nat) (ds : List D), st0.length ≤ n ∧ (μ0 ++ l)[n]? = some a ∧ lstAt st1 n = some ds := ⟨n, ds, hn, h1, hl⟩
      simp only [hc, if_true]
      exact h4
  · rw [if_neg ok] at h
    exact h.elim
theorem repX_cut {l : List Addr} {e : Exn} {cls : Value} {dd : Option Addr} (hl : (e.fs.all fun p => locsLt μ0.length p.2) = true) (h : RepX K mg (μ0 ++ l) G e cls dd) : RepX K mg μ0 G e cls dd := by
  obtain ⟨C, e1, e2, h⟩ := h
  refine ⟨C, e1, e2, ?_⟩
  cases dd with
  | none => exact h
  | some d =>
    obtain ⟨gs, g, r⟩ := h
    exact ⟨gs, g, repF_cut l hl r⟩
theorem gc_exc {W : WX} {σ : L2.St} {μ1 : List Addr} {G1 : Hp} {st1 : Store} {H1 : Hp} {e : Exn} {cls : Value} {dd : Option Addr} {P : List Addr → Hp → D → Store → Hp → Prop} (k0 : Kn K mg μ0 G0 F st0 H0) (f : Fut μ0 G0 μ1 G1) (k1 : Kn K mg μ1 G1 F st1 H1) (r : RepX K mg μ1 G1 e cls dd)
    (h : Done K mg W σ μ0 G0 F (gcExc st0 e st1) P) : W cls dd σ H1 := by
  obtain ⟨⟨l, rfl⟩, ex⟩ := f
  unfold gcExc at h
  by_cases ok : keepOk st0 st1 ∧ (e.fs.all fun p => locsLt st0.length p.2) = true
  · rw [if_pos ok] at h
    exact h μ0 G1 H1 cls dd (.know ex) (k0.cut k1 ok.1) (repX_cut (by rw [k0.len]; exact ok.2) r)
  · rw [if_neg ok] at h
    exact h.elim
theorem repE_start {N : List Str} {ds : List D} {vs : List V} (r : Reps K μ G ds vs) : RepE K μ G (vars N.length ds) (start N vs) := by
  have hl := r.length
  refine ⟨by simp [vars, L2.start, hl], fun i d e => ?_⟩
  unfold vars at e
  by_cases hi : i < ds.length
  · rw [List.getElem?_append_left (by simpa using hi), List.getElem?_map] at e
    cases hd : ds[i]? with
    | none => rw [hd] at e; cases e
    | some d' =>
      rw [hd] at e
      have : d' = d := by simpa using e
      subst this
      obtain ⟨v, hv, rv⟩ := r.get hd
      refine ⟨v, ?_, rv⟩
      unfold L2.start
      rw [List.getElem?_append_left (by rw [List.length_map, hl]; exact hi), List.getElem?_map, hv]
      rfl
  · rw [List.getElem?_append_right (by simpa using hi), List.getElem?_replicate] at e
    split at e <;> cases e
section
variable {P : Program} {w : World} {base : Heap} {x qual : Str} {s : Stmt} {fa : Addr} {fd : FuncData} {N ps : List Str} {k : Nat} {mb : SM}
theorem fn_D (Fk : Fun K x qual s fa fd) (S : FnScope N ps (defScope s))
    (hbody : ∀ (cdv : Value) (A : Around) (outer : List Env) (s' : Shared) (H : Hp) (E : XK), Room k (A.deeper (envOfC qual (defScope s) s'.heap.objs.size fa cdv)) →
      MSs (cxOf (L2.CX P w) P w K mg base N qual (defScope s) fa cdv A outer s' H E) (fun cls d _ H => E cls d H) (defBody s) mb) : FnM P w K mg base (k + 1) fa fd ps (fnD N.length mb) := by
  refine Fk.okX S (fun vs H Q E h => h.1) fun cdv A outer s' H vs Q E hr h => ⟨_, hbody cdv A outer s' H E hr, ?_⟩
  obtain ⟨_, ds, st, μ, G, F, rs, k0, h⟩ := h
  refine ⟨vars N.length ds, st, μ, G, F, repE_start rs, k0, ?_⟩
  unfold fnD at h
  cases hb : mb (vars N.length ds) st with
  | bad => rw [hb] at h; exact h
  | brk _ _ => rw [hb] at h; exact h.elim
  | ct _ _ => rw [hb] at h; exact h.elim
  | ret d st1 =>
    rw [hb] at h
    exact fun μ1 G1 H1 v f1 k1 r1 => gc_done k0 f1 k1 r1 h
  | nx vs1 st1 =>
    rw [hb] at h
    exact fun μ1 G1 H1 σ1 f1 k1 r1 => gc_done k0 f1 k1 .non h
  | exc e vs1 st1 =>
    rw [hb] at h
    exact fun μ1 G1 H1 σ1 cls dd f1 k1 r1 x1 => gc_exc k0 f1 k1 x1 h
theorem fn_K (Fk : Fun K x qual s fa fd) (S : FnScope N ps (defScope s))
    (hbody : ∀ (cdv : Value) (A : Around) (outer : List Env) (s' : Shared) (H : Hp) (E : XK), Room k (A.deeper (envOfC qual (defScope s) s'.heap.objs.size fa cdv)) →
      MSs (cxOf (L2.CX P w) P w K mg base N qual (defScope s) fa cdv A outer s' H E) (fun cls d _ H => E cls d H) (defBody s) mb) : FnM P w K mg base (k + 1) fa fd ps (fnK N.length mb) := by
  refine Fk.okX S (fun vs H Q E h => h.1) fun cdv A outer s' H vs Q E hr h => ⟨_, hbody cdv A outer s' H E hr, ?_⟩
  obtain ⟨_, ds, st, μ, G, F, rs, k0, h⟩ := h
  refine ⟨vars N.length ds, st, μ, G, F, repE_start rs, k0, ?_⟩
  unfold fnK at h
  cases hb : mb (vars N.length ds) st with
  | bad => rw [hb] at h; exact h
  | brk _ _ => rw [hb] at h; exact h.elim
  | ct _ _ => rw [hb] at h; exact h.elim
  | ret d st1 =>
    rw [hb] at h
    exact fun μ1 G1 H1 v f1 k1 r1 => h μ1 G1 H1 f1 k1 v r1
  | nx vs1 st1 =>
    rw [hb] at h
    exact fun μ1 G1 H1 σ1 f1 k1 r1 => h μ1 G1 H1 f1 k1 .non .non
  | exc e vs1 st1 =>
    rw [hb] at h
    exact fun μ1 G1 H1 σ1 cls dd f1 k1 r1 x1 => h μ1 G1 H1 cls dd f1 k1 x1
end
end
end Dn
namespace Dn
open PySem PySem.Spec PyProof.Rows L2

/-! ### built-in functions on data -/
def opt {α : Type} (o : Option α) (k : α → Re D) : Re D := match o with
  | some a => k a
  | none => .bad
def one (f : D → Store → Re D) (xs : List D) (st : Store) : Re D := match xs with
  | [x] => f x st
  | _ => .bad
def two (f : D → D → Store → Re D) (xs : List D) (st : Store) : Re D := match xs with
  | [x, y] => f x y st
  | _ => .bad
def lenB (st : Store) : D → Option Nat
  | .str z => if room z.length then some z.length else none
  | .tup ds => some ds.length
  | .lst ds => some ds.length
  | .frz ds => some ds.length
  | .loc n => match cell st n with
    | some (.lst ds) => some ds.length
    | some (.dct kvs) => some kvs.length
    | _ => none
  | _ => none
def lenD : List D → Store → Re D := one fun x st => opt (lenB st x) fun n => .ok (.int n) st
def tupleD : List D → Store → Re D := one fun x st => opt (seqOf st x) fun ds => .ok (.tup ds) st
def listD (b : Bool) : List D → Store → Re D := one fun x st => opt (seqOf st x) fun ds => mkNew b ds st
def absD : List D → Store → Re D := one fun x st => match x with
  | .int i => .ok (.int (if i < 0 then -i else i)) st
  | _ => .bad
def intD : List D → Store → Re D := one fun x st => match x with
  | .int i => .ok (.int i) st
  | .bl k => .ok (.int (if k then 1 else 0)) st
  | _ => .bad
def strD : List D → Store → Re D := one fun x st => match x with
  | .int i => if i.natAbs.log2 < 1920 then .ok (.str (toString i)) st else .bad
  | _ => .bad
/-- data that are ints -/
def intsOf : List D → Option (List Int)
  | [] => some []
  | .int i :: r => (intsOf r).map (i :: ·)
  | _ :: _ => none
def blsOf : List D → Option (List Bool)
  | [] => some []
  | .bl i :: r => (blsOf r).map (i :: ·)
  | _ :: _ => none
def maxI : List Int → Int
  | [] => 0
  | [i] => i
  | i :: r => max i (maxI r)
def minI : List Int → Int
  | [] => 0
  | [i] => i
  | i :: r => min i (minI r)
def max2 (x y : D) (st : Store) : Re D := match x, y with
  | .int i, .int j => .ok (.int (if j > i then j else i)) st
  | _, _ => .bad
def max1 (x : D) (st : Store) : Re D := opt ((lstOf st x).bind intsOf) fun ns => if ns.isEmpty then .bad else .ok (.int (maxI ns)) st
def maxD (xs : List D) (st : Store) : Re D := match xs with
  | [x, y] => max2 x y st
  | [x] => max1 x st
  | _ => .bad
def min2 (x y : D) (st : Store) : Re D := match x, y with
  | .int i, .int j => .ok (.int (if j < i then j else i)) st
  | _, _ => .bad
def min1 (x : D) (st : Store) : Re D := opt ((lstOf st x).bind intsOf) fun ns => if ns.isEmpty then .bad else .ok (.int (minI ns)) st
def minD (xs : List D) (st : Store) : Re D := match xs with
  | [x, y] => min2 x y st
  | [x] => min1 x st
  | _ => .bad
def sumD : List D → Store → Re D := one fun x st => opt ((lstOf st x).bind intsOf) fun ns => .ok (.int ns.sum) st
def allD : List D → Store → Re D := one fun x st => opt ((lstOf st x).bind blsOf) fun bs => .ok (.bl (bs.all id)) st
def anyD : List D → Store → Re D := one fun x st => opt ((lstOf st x).bind blsOf) fun bs => .ok (.bl (bs.any id)) st
theorem intsOf_map : ∀ {ds : List D} {ns : List Int}, intsOf ds = some ns → ds = ns.map D.int
  | [], ns, h => by injection h with h; subst h; rfl
  | d :: ds, ns, h => by
    cases d with
    | int i =>
      have h' : (intsOf ds).map (i :: ·) = some ns := h
      cases e : intsOf ds with
      | none => rw [e] at h'; cases h'
      | some r =>
        rw [e] at h'
        injection h' with h'
        subst h'
        rw [intsOf_map e]
        rfl
    | _ => cases h
theorem blsOf_map : ∀ {ds : List D} {ns : List Bool}, blsOf ds = some ns → ds = ns.map D.bl
  | [], ns, h => by injection h with h; subst h; rfl
  | d :: ds, ns, h => by
    cases d with
    | bl i =>
      have h' : (blsOf ds).map (i :: ·) = some ns := h
      cases e : blsOf ds with
      | none => rw [e] at h'; cases h'
      | some r =>
        rw [e] at h'
        injection h' with h'
        subst h'
        rw [blsOf_map e]
        rfl
    | _ => cases h
theorem maxI_is : ∀ {i : Int} {r : List Int}, maxI (i :: r) ∈ i :: r ∧ ∀ y ∈ i :: r, y ≤ maxI (i :: r)
  | i, [] => ⟨by simp [maxI], by simp [maxI]⟩
  | i, j :: r => by
    obtain ⟨h1, h2⟩ := maxI_is (i := j) (r := r)
    have e : maxI (i :: j :: r) = max i (maxI (j :: r)) := rfl
    rw [e]
    refine ⟨?_, fun y hy => ?_⟩
    · rcases Int.le_total i (maxI (j :: r)) with h | h
      · rw [Int.max_eq_right h]; exact List.mem_cons_of_mem _ h1
      · rw [Int.max_eq_left h]; exact List.mem_cons_self
    · rcases List.mem_cons.mp hy with z | z
      · rw [z]; exact Int.le_max_left _ _
      · exact Int.le_trans (h2 y z) (Int.le_max_right _ _)
theorem minI_is : ∀ {i : Int} {r : List Int}, minI (i :: r) ∈ i :: r ∧ ∀ y ∈ i :: r, minI (i :: r) ≤ y
  | i, [] => ⟨by simp [minI], by simp [minI]⟩
  | i, j :: r => by
    obtain ⟨h1, h2⟩ := minI_is (i := j) (r := r)
    have e : minI (i :: j :: r) = min i (minI (j :: r)) := rfl
    rw [e]
    refine ⟨?_, fun y hy => ?_⟩
    · rcases Int.le_total i (minI (j :: r)) with h | h
      · rw [Int.min_eq_left h]; exact List.mem_cons_self
      · rw [Int.min_eq_right h]; exact List.mem_cons_of_mem _ h1
    · rcases List.mem_cons.mp hy with z | z
      · rw [z]; exact Int.min_le_left _ _
      · exact Int.le_trans (Int.min_le_right _ _) (h2 y z)
section
variable {X : Cx} {K : PySem.W.Frag} {mg : Str → Option Value}
abbrev rLenA (K : PySem.W.Frag) : List V → Hp → VK → Prop := fun xs H Q => (∃ p ys, xs = [.ref p] ∧ (SqL K H p ys ∨ SqT K H p ys) ∧ Q (.int ys.length) H) ∨ ((∃ z, xs = [.str z] ∧ z.length ≤ sizeLine ∧ Q (.int z.length) H) ∨ (∃ a kvs, xs = [V.ref a] ∧ H a = some (.dK kvs) ∧ Q (.int kvs.length) H))
theorem or_len : CallR X (.builtin "len") (rLenA X.K) := call_len_seq.or (call_len_str.or call_lenD)
theorem repKV_length {μ : List Addr} {G : Hp} {κ : Type} : ∀ {kvs : List (κ × D)} {ps : List (κ × V)}, RepKV K μ G kvs ps → ps.length = kvs.length
  | [], ps, h => by
    have : ps = [] := h
    rw [this]
    rfl
  | (k, d) :: r, ps, h => by
    obtain ⟨v, s, rfl, _, t⟩ := h
    rw [List.length_cons, List.length_cons, repKV_length t]
theorem dct_rep {μ : List Addr} {G F : Hp} {st : Store} {H : Hp} {n : Nat} {v : V} {kvs : List (Key × D)} (k : Kn K mg μ G F st H) (r : Rep K μ G (.loc n) v) (e : cell st n = some (.dct kvs)) : ∃ a ps, v = .ref a ∧ μ[n]? = some a ∧ H a = some (.dK ps) ∧ RepKV K μ G kvs ps := by
  obtain ⟨a, rfl, ha⟩ := rep_loc r
  obtain ⟨a', o, h1, _, _, h4, ps, rfl, q⟩ := k.cell n _ (cell_some e)
  rw [ha] at h1
  cases h1
  exact ⟨a, ps, rfl, ha, h4, q⟩
theorem opt_done {α : Type} {o : Option α} {k : α → Re D} {W : WX} {σ : L2.St} {μ : List Addr} {G F : Hp} {P : List Addr → Hp → D → Store → Hp → Prop} (h : Done K mg W σ μ G F (opt o k) P) : ∃ a, o = some a ∧ Done K mg W σ μ G F (k a) P := by
  cases o with
  | none => exact h.elim
  | some a => exact ⟨a, rfl, h⟩
theorem sn_one {f : D → Store → Re D} {r : List V → Hp → VK → Prop} (hf : ∀ (W : WX) (σ : L2.St) (μ : List Addr) (G F : Hp) (st : Store) (H : Hp) (x : D) (v : V) (Q : VK), Kn K mg μ G F st H → Rep K μ G x v → Done K mg W σ μ G F (f x st) (Fin K Q) → r [v] H Q) : SN K mg (one f) r := by
  intro W σ μ G F st H xs vs Q k rs h
  match xs, rs, h with
  | [x], rs, h =>
    obtain ⟨v, rfl, rv⟩ := reps_one rs
    exact hf W σ μ G F st H x v Q k rv h
  | [], _, h => exact h.elim
  | _ :: _ :: _, _, h => exact h.elim
theorem sn_two {f : D → D → Store → Re D} {r : List V → Hp → VK → Prop} (hf : ∀ (W : WX) (σ : L2.St) (μ : List Addr) (G F : Hp) (st : Store) (H : Hp) (x y : D) (v w : V) (Q : VK), Kn K mg μ G F st H → Rep K μ G x v → Rep K μ G y w → Done K mg W σ μ G F (f x y st) (Fin K Q) → r [v, w] H Q) : SN K mg (two f) r := by
  intro W σ μ G F st H xs vs Q k rs h
  match xs, rs, h with
  | [x, y], rs, h =>
    obtain ⟨v, w, rfl, rv, rw'⟩ := reps_two rs
    exact hf W σ μ G F st H x y v w Q k rv rw' h
  | [], _, h => exact h.elim
  | [_], _, h => exact h.elim
  | _ :: _ :: _ :: _, _, h => exact h.elim
theorem s_len : SN K mg lenD (rLenA K) := sn_one fun W σ μ G F st H x v Q k rv h => by
  obtain ⟨n, e, h⟩ := opt_done h
  cases x with
  | str z =>
    rw [rep_str rv]
    simp only [lenB] at e
    split at e
    · rename_i hr
      injection e with e
      subst e
      exact .inr (.inl ⟨z, rfl, room_line hr, fin_here k h .int⟩)
    · cases e
  | tup ds =>
    obtain ⟨a, ws, rfl, hs, rw'⟩ := rep_tup rv
    injection e with e
    subst e
    refine .inl ⟨a, ws, rfl, .inr (k.ex.sqt hs), ?_⟩
    rw [rw'.length]
    exact fin_here k h .int
  | lst ds =>
    obtain ⟨a, ws, rfl, hs, rw'⟩ := rep_lst rv
    injection e with e
    subst e
    refine .inl ⟨a, ws, rfl, .inl (.of (k.ex _ _ hs)), ?_⟩
    rw [rw'.length]
    exact fin_here k h .int
  | frz ds =>
    obtain ⟨a, ws, rfl, hs, rw'⟩ := rep_frz rv
    injection e with e
    subst e
    refine .inl ⟨a, ws, rfl, .inl (k.ex.sql hs), ?_⟩
    rw [rw'.length]
    exact fin_here k h .int
  | loc m =>
    simp only [lenB] at e
    split at e
    · rename_i ds hc
      injection e with e
      subst e
      obtain ⟨a, ws, rfl, hs, rw'⟩ := lstOf_rep (ds := ds) k rv (by show lstAt st m = some ds; unfold lstAt; rw [hc])
      refine .inl ⟨a, ws, rfl, .inl (.of hs), ?_⟩
      rw [rw'.length]
      exact fin_here k h .int
    · rename_i kvs hc
      injection e with e
      subst e
      obtain ⟨a, ps, rfl, _, hs, rp⟩ := dct_rep k rv hc
      refine .inr (.inr ⟨a, ps, rfl, hs, ?_⟩)
      rw [repKV_length rp]
      exact fin_here k h .int
    · cases e
  | non => cases e
  | bl _ => cases e
  | int _ => cases e
  | exn _ _ _ => cases e
abbrev rTupA (K : PySem.W.Frag) : List V → Hp → VK → Prop := fun xs H Q => ∃ p ys, xs = [.ref p] ∧ ((SqL K H p ys ∧ ∀ l, H l = none → Q (.ref l) (upd H l (.tup ys))) ∨ (SqT K H p ys ∧ Q (.ref p) H))
theorem s_tuple : SN K mg tupleD (rTupA K) := sn_one fun W σ μ G F st H x v Q k rv h => by
  obtain ⟨ds, e, h'⟩ := opt_done h
  clear h
  cases x with
  | tup xs =>
    injection e with e
    subst e
    obtain ⟨a, ws, rfl, hs, rw'⟩ := rep_tup rv
    exact ⟨a, ws, rfl, .inr ⟨k.ex.sqt hs, fin_here k h' rv⟩⟩
  | lst xs =>
    obtain ⟨a, ws, rfl, hs, rw'⟩ := lstOf_rep (ds := ds) k rv e
    exact ⟨a, ws, rfl, .inl ⟨.of hs, new_tup k rw' h'⟩⟩
  | frz xs =>
    injection e with e
    subst e
    obtain ⟨a, ws, rfl, hs, rw'⟩ := rep_frz rv
    exact ⟨a, ws, rfl, .inl ⟨k.ex.sql hs, new_tup k rw' h'⟩⟩
  | loc n =>
    obtain ⟨a, ws, rfl, hs, rw'⟩ := lstOf_rep (ds := ds) k rv e
    exact ⟨a, ws, rfl, .inl ⟨.of hs, new_tup k rw' h'⟩⟩
  | non => cases e
  | exn _ _ _ => cases e
  | bl _ => cases e
  | int _ => cases e
  | str _ => cases e
abbrev rListA (K : PySem.W.Frag) : List V → Hp → VK → Prop := fun xs H Q => ∃ p ys, xs = [.ref p] ∧ (SqL K H p ys ∨ SqT K H p ys) ∧ ∀ l, H l = none → Q (.ref l) (upd H l (.lst ys))
theorem s_list (b : Bool) : SN K mg (listD b) (rListA K) := sn_one fun W σ μ G F st H x v Q k rv h => by
  obtain ⟨ds, e, h⟩ := opt_done h
  obtain ⟨a, ws, rfl, hs, rw'⟩ := seqOf_rep k rv e
  exact ⟨a, ws, rfl, hs, new_list k rw' h⟩
theorem s_abs : SN K mg absD (fun xs H Q => ∃ i, xs = [.int i] ∧ Q (.int (if i < 0 then -i else i)) H) := sn_one fun W σ μ G F st H x v Q k rv h => by
  cases x with
  | int i => rw [rep_int rv]; exact ⟨i, rfl, fin_here k h .int⟩
  | _ => exact h.elim
theorem s_intF : SN K mg intD (fun xs H Q => (∃ i, xs = [.int i] ∧ Q (.int i) H) ∨ ∃ k, xs = [.bl k] ∧ Q (.int (if k then 1 else 0)) H) := sn_one fun W σ μ G F st H x v Q k rv h => by
  cases x with
  | int i => rw [rep_int rv]; exact .inl ⟨i, rfl, fin_here k h .int⟩
  | bl i => rw [rep_bl rv]; exact .inr ⟨i, rfl, fin_here k h .int⟩
  | _ => exact h.elim
theorem s_strF : SN K mg strD (fun xs H Q => ∃ i : Int, xs = [.int i] ∧ i.natAbs.log2 < 1920 ∧ Q (.str (toString i)) H) := sn_one fun W σ μ G F st H x v Q k rv h => by
  cases x with
  | int i =>
    obtain ⟨hr, h⟩ := ite_done h
    rw [rep_int rv]
    exact ⟨i, rfl, hr, fin_here k h .str⟩
  | _ => exact h.elim
theorem lst_ints {μ : List Addr} {G F : Hp} {st : Store} {H : Hp} {x : D} {v : V} {ns : List Int} (k : Kn K mg μ G F st H) (rv : Rep K μ G x v) (e : (lstOf st x).bind intsOf = some ns) : ∃ a, v = .ref a ∧ SqL K H a (ns.map V.int) := by
  cases e1 : lstOf st x with
  | none => rw [e1] at e; cases e
  | some ds =>
    rw [e1] at e
    obtain ⟨a, ws, rfl, hs, rs⟩ := lstOf_rep k rv e1
    have e2 := intsOf_map e
    subst e2
    rw [reps_ints rs] at hs
    exact ⟨a, rfl, .of hs⟩
theorem lst_bls {μ : List Addr} {G F : Hp} {st : Store} {H : Hp} {x : D} {v : V} {ns : List Bool} (k : Kn K mg μ G F st H) (rv : Rep K μ G x v) (e : (lstOf st x).bind blsOf = some ns) : ∃ a, v = .ref a ∧ SqL K H a (ns.map V.bl) := by
  cases e1 : lstOf st x with
  | none => rw [e1] at e; cases e
  | some ds =>
    rw [e1] at e
    obtain ⟨a, ws, rfl, hs, rs⟩ := lstOf_rep k rv e1
    have e2 := blsOf_map e
    subst e2
    rw [reps_bls rs] at hs
    exact ⟨a, rfl, .of hs⟩
theorem s_sum : SN K mg sumD (rSum K) := sn_one fun W σ μ G F st H x v Q k rv h => by
  obtain ⟨ns, e, h⟩ := opt_done h
  obtain ⟨a, rfl, hs⟩ := lst_ints k rv e
  exact ⟨a, ns, rfl, hs, fin_here k h .int⟩
theorem s_all : SN K mg allD (rAll K) := sn_one fun W σ μ G F st H x v Q k rv h => by
  obtain ⟨ns, e, h⟩ := opt_done h
  obtain ⟨a, rfl, hs⟩ := lst_bls k rv e
  exact ⟨a, ns, rfl, hs, fin_here k h .bl⟩
theorem s_any : SN K mg anyD (rAny K) := sn_one fun W σ μ G F st H x v Q k rv h => by
  obtain ⟨ns, e, h⟩ := opt_done h
  obtain ⟨a, rfl, hs⟩ := lst_bls k rv e
  exact ⟨a, ns, rfl, hs, fin_here k h .bl⟩
abbrev rMaxA (K : PySem.W.Frag) : List V → Hp → VK → Prop := fun xs H Q => (∃ i j, xs = [.int i, .int j] ∧ Q (.int (if j > i then j else i)) H) ∨ rMax K xs H Q
abbrev rMinA (K : PySem.W.Frag) : List V → Hp → VK → Prop := fun xs H Q => (∃ i j, xs = [.int i, .int j] ∧ Q (.int (if j < i then j else i)) H) ∨ rMin K xs H Q
theorem or_max (hc : X.calm = true) : CallR X (.builtin "max") (rMaxA X.K) := (call_max2 hc).or (cr_max hc)
theorem or_min (hc : X.calm = true) : CallR X (.builtin "min") (rMinA X.K) := (call_min2 hc).or (cr_min hc)
theorem max_uniq {ns : List Int} {m : Int} (hm : m ∈ ns) (h : ∀ y ∈ ns, y ≤ m) : m = maxI ns := by
  cases ns with
  | nil => cases hm
  | cons i r =>
    obtain ⟨h1, h2⟩ := maxI_is (i := i) (r := r)
    exact Int.le_antisymm (h2 m hm) (h _ h1)
theorem min_uniq {ns : List Int} {m : Int} (hm : m ∈ ns) (h : ∀ y ∈ ns, m ≤ y) : m = minI ns := by
  cases ns with
  | nil => cases hm
  | cons i r =>
    obtain ⟨h1, h2⟩ := minI_is (i := i) (r := r)
    exact Int.le_antisymm (h _ h1) (h2 m hm)
theorem s_max : SN K mg maxD (rMaxA K) := by
  intro W σ μ G F st H xs vs Q k rs h
  match xs, rs, h with
  | [x, y], rs, h =>
    obtain ⟨v, w, rfl, rv, rw'⟩ := reps_two rs
    have h : Done K mg W σ μ G F (max2 x y st) (Fin K Q) := h
    unfold max2 at h
    split at h
    · rw [rep_int rv, rep_int rw']
      exact .inl ⟨_, _, rfl, fin_here k h .int⟩
    · exact h.elim
  | [x], rs, h =>
    obtain ⟨v, rfl, rv⟩ := reps_one rs
    obtain ⟨ns, e, h⟩ := opt_done (show Done K mg W σ μ G F (opt ((lstOf st x).bind intsOf) fun ns => if ns.isEmpty then .bad else .ok (.int (maxI ns)) st) (Fin K Q) from h)
    obtain ⟨a, rfl, hs⟩ := lst_ints k rv e
    by_cases hn : ns.isEmpty = true
    · rw [if_pos hn] at h; exact h.elim
    · rw [if_neg hn] at h
      refine .inr ⟨a, ns, rfl, hs, ?_, fun m hm hle => ?_⟩
      · cases ns with
        | nil => exact absurd rfl hn
        | cons _ _ => exact Nat.succ_pos _
      · rw [max_uniq hm hle]
        exact fin_here k h .int
  | [], _, h => exact h.elim
  | _ :: _ :: _ :: _, _, h => exact h.elim
theorem s_min : SN K mg minD (rMinA K) := by
  intro W σ μ G F st H xs vs Q k rs h
  match xs, rs, h with
  | [x, y], rs, h =>
    obtain ⟨v, w, rfl, rv, rw'⟩ := reps_two rs
    have h : Done K mg W σ μ G F (min2 x y st) (Fin K Q) := h
    unfold min2 at h
    split at h
    · rw [rep_int rv, rep_int rw']
      exact .inl ⟨_, _, rfl, fin_here k h .int⟩
    · exact h.elim
  | [x], rs, h =>
    obtain ⟨v, rfl, rv⟩ := reps_one rs
    obtain ⟨ns, e, h⟩ := opt_done (show Done K mg W σ μ G F (opt ((lstOf st x).bind intsOf) fun ns => if ns.isEmpty then .bad else .ok (.int (minI ns)) st) (Fin K Q) from h)
    obtain ⟨a, rfl, hs⟩ := lst_ints k rv e
    by_cases hn : ns.isEmpty = true
    · rw [if_pos hn] at h; exact h.elim
    · rw [if_neg hn] at h
      refine .inr ⟨a, ns, rfl, hs, ?_, fun m hm hle => ?_⟩
      · cases ns with
        | nil => exact absurd rfl hn
        | cons _ _ => exact Nat.succ_pos _
      · rw [min_uniq hm hle]
        exact fin_here k h .int
  | [], _, h => exact h.elim
  | _ :: _ :: _ :: _, _, h => exact h.elim

/-! ### methods of lists -/
/-- o.m(..): the type's name, then what the method does -/
def tyD (T : String) (st : Store) (x : D) : Bool := match x with
  | .str _ => T == "str"
  | .lst _ => T == "list"
  | .loc n => T == "list" && (lstAt st n).isSome
  | _ => false
def eM (T : String) (f : D → List D → Store → Re D) (o : EM) (as : EMs) : EM := fun vs st => (o vs st).bind fun x st => if tyD T st x = true then (as vs st).bind fun xs st => f x xs st else .bad
def SM2 (K : PySem.W.Frag) (mg : Str → Option Value) (f : D → List D → Store → Re D) (r : V → List V → Hp → VK → Prop) : Prop := ∀ (W : WX) (σ : L2.St) (μ : List Addr) (G F : Hp) (st : Store) (H : Hp) (x : D) (v : V) (xs : List D) (vs : List V) (Q : VK), Kn K mg μ G F st H → Rep K μ G x v → Reps K μ G xs vs →
  Done K mg W σ μ G F (f x xs st) (Fin K Q) → r v vs H Q
theorem tyD_rep {μ : List Addr} {G F : Hp} {st : Store} {H : Hp} {x : D} {v : V} {T : String} (k : Kn K mg μ G F st H) (rv : Rep K μ G x v) (e : tyD T st x = true) : tyV K T v H := by
  cases x with
  | str z => rw [rep_str rv]; exact beq_iff_eq.mp e
  | lst ds =>
    obtain ⟨a, ws, rfl, hs, _⟩ := rep_lst rv
    exact .inl ⟨beq_iff_eq.mp e, ws, .of (k.ex _ _ hs)⟩
  | loc n =>
    have e' : (T == "list" && (lstAt st n).isSome) = true := e
    rw [Bool.and_eq_true] at e'
    cases hl : lstAt st n with
    | none => rw [hl] at e'; exact absurd e'.2 Bool.false_ne_true
    | some ds =>
      obtain ⟨a, ws, rfl, hs, _⟩ := lstOf_rep (ds := ds) k rv hl
      exact .inl ⟨beq_iff_eq.mp e'.1, ws, .of hs⟩
  | non => exact absurd e Bool.false_ne_true
  | exn _ _ _ => exact absurd e Bool.false_ne_true
  | bl _ => exact absurd e Bool.false_ne_true
  | int _ => exact absurd e Bool.false_ne_true
  | frz _ => exact absurd e Bool.false_ne_true
  | tup _ => exact absurd e Bool.false_ne_true
section
variable {W : WX} {o e : Expr} {es : List Expr} {mo : EM} {ms : EMs} {name : Str} {apos cpos : Pos} {T id : String} {f : D → List D → Store → Re D} {r : V → List V → Hp → VK → Prop}
theorem meth_of {t : TA} (hs : SM2 X.K X.mg f r) (ho : ME X W o mo) (ha : MA X W es ms) (σ : L2.St) (H : Hp) (Q : VK) (h : tE X.K X.mg W (eM T f mo ms) σ H Q) : tBM X.K T r (tE X.K X.mg W mo) (tA X.K X.mg W ms) σ H Q := by
  obtain ⟨vs, st, μ, G, F, re, k, h⟩ := h
  refine ⟨vs, st, μ, G, F, re, k, (Done.bind h).mono fun μ1 G1 x st1 H1 f1 k1 h1 v rv => ?_⟩
  obtain ⟨ht, h1⟩ := ite_done h1
  refine ⟨tyD_rep k1 rv ht, vs, st1, μ1, G1, F, re.fut f1, k1, (Done.bind h1).mono fun μ2 G2 xs st2 H2 f2 k2 h2 ws rws => ?_⟩
  exact hs W σ μ2 G2 F st2 H2 x v xs ws Q k2 (rv.fut f2) rws h2
theorem m_meth (pa : PlainAttrs T) (slot : Slot T name id) (hty : typeOf (.builtin id) = pure (.type "method_descriptor")) (hm : MtR X id r) (hs : SM2 X.K X.mg f r) (ho : ME X W o mo) (ha : MA X W (e :: es) ms)
    (hbase : attributeBase o name X.env (eval o X.env) = eval o X.env := by rfl)
    (hfew : ((backTo cpos (starEach (e :: es) X.env)).all (fun x => !x.1) && (backToKw cpos (keywordEach [] X.env)).all (fun x => x.1.isSome)
      && decide ((e :: es).length + ([] : List Keyword).length + (if ([] : List Keyword).isEmpty then 0 else 1) < 30)) = true := by rfl)
    (hline : (apos.endLine == cpos.line) = true := by rfl) (hst : starEach (e :: es) X.env = (false, eval e X.env) :: starEach es X.env := by rfl) (hplain : (backTo cpos (starEach es X.env)).any (·.1) = false := by rfl) :
    ME X W (.Call (.Attribute o name apos) (e :: es) [] cpos) (eM T f mo ms) := (pe_bm pa slot hty hm ho ha hbase hfew hline hst hplain).of (meth_of (t := tA X.K X.mg W ms) hs ho ha)
theorem m_meth0 (pa : PlainAttrs T) (slot : Slot T name id) (hty : typeOf (.builtin id) = pure (.type "method_descriptor")) (hm : MtR X id r) (hs : SM2 X.K X.mg f r) (ho : ME X W o mo)
    (hbase : attributeBase o name X.env (eval o X.env) = eval o X.env := by rfl) (hline : (apos.endLine == cpos.line) = true := by rfl) : ME X W (.Call (.Attribute o name apos) [] [] cpos) (eM T f mo aNil) := (pe_bm0 pa slot hty hm ho hbase hline).of fun σ H Q h => by
  obtain ⟨vs, st, μ, G, F, re, k, h⟩ := h
  refine ⟨vs, st, μ, G, F, re, k, (Done.bind h).mono fun μ1 G1 x st1 H1 f1 k1 h1 v rv => ?_⟩
  obtain ⟨ht, h1⟩ := ite_done h1
  refine ⟨tyD_rep k1 rv ht, ?_⟩
  exact hs W σ μ1 G1 F st1 H1 x v [] [] Q k1 rv .nil h1
end
def appendD (x : D) (xs : List D) (st : Store) : Re D := match x, xs with
  | .loc n, [y] => opt (lstAt st n) fun ds => if room (ds.length + 1) then .ok .non (st.set n (some (.lst (ds ++ [y])))) else .bad
  | _, _ => .bad
theorem s_append : SM2 K mg appendD rAppend := by
  intro W σ μ G F st H x v xs vs Q k rv rs h
  unfold appendD at h
  split at h
  · rename_i n y
    obtain ⟨ds, e, h⟩ := opt_done h
    obtain ⟨hr, h⟩ := ite_done h
    obtain ⟨w, rfl, rw'⟩ := reps_one rs
    obtain ⟨a, rfl, ha⟩ := rep_loc rv
    obtain ⟨a', ws, e', hs, rws⟩ := lstOf_rep (ds := ds) k rv e
    cases e'
    refine ⟨a, ws, w, rfl, rfl, hs, by rw [rws.length]; exact room_lt (by omega), ?_⟩
    exact h μ G _ (.refl _ _) (k.write (cell_some (lstAt_cell e)) ha ⟨_, rfl, rws.append (.cons rw' .nil)⟩) _ .non
  · exact h.elim
def extendD (x : D) (xs : List D) (st : Store) : Re D := match x, xs with
  | .loc n, [y] => opt (lstAt st n) fun ds => opt (lstOf st y) fun es => if room (ds.length + es.length) then .ok .non (st.set n (some (.lst (ds ++ es)))) else .bad
  | _, _ => .bad
theorem s_extend : SM2 K mg extendD rExtend := by
  intro W σ μ G F st H x v xs vs Q k rv rs h
  unfold extendD at h
  split at h
  · rename_i n y
    obtain ⟨ds, e, h⟩ := opt_done h
    obtain ⟨es, e2, h⟩ := opt_done h
    obtain ⟨hr, h⟩ := ite_done h
    obtain ⟨w, rfl, rw'⟩ := reps_one rs
    obtain ⟨a, rfl, ha⟩ := rep_loc rv
    obtain ⟨a', ws, e', hs, rws⟩ := lstOf_rep (ds := ds) k rv e
    cases e'
    obtain ⟨b, zs, rfl, hb, rzs⟩ := lstOf_rep k rw' e2
    refine ⟨a, b, ws, zs, rfl, rfl, hs, hb, by rw [rws.length, rzs.length]; exact room_line hr, ?_⟩
    exact h μ G _ (.refl _ _) (k.write (cell_some (lstAt_cell e)) ha ⟨_, rfl, rws.append rzs⟩) _ .non
  · exact h.elim
def popD (x : D) (xs : List D) (st : Store) : Re D := match x, xs with
  | .loc n, [] => opt (lstAt st n) fun ds => opt ds[ds.length - 1]? fun y => .ok y (st.set n (some (.lst ds.dropLast)))
  | .loc n, [.int i] => opt (lstAt st n) fun ds => opt (ixN ds.length i) fun j => opt ds[j]? fun y => if ds.length ≤ 1000000 then .ok y (st.set n (some (.lst (ds.eraseIdx j)))) else .bad
  | _, _ => .bad
abbrev rPopA : V → List V → Hp → VK → Prop := fun x xs H Q => rPop x xs H Q ∨ rPopAt x xs H Q
theorem or_pop : MtR X "list.pop" rPopA := MtR.or (r := rPop) (r' := rPopAt) mt_pop mt_popAt
theorem s_pop : SM2 K mg popD rPopA := by
  intro W σ μ G F st H x v xs vs Q k rv rs h
  unfold popD at h
  split at h
  · rename_i n
    obtain ⟨ds, e, h⟩ := opt_done h
    obtain ⟨y, e2, h⟩ := opt_done h
    rw [reps_nil rs]
    obtain ⟨a, rfl, ha⟩ := rep_loc rv
    obtain ⟨a', ws, e', hs, rws⟩ := lstOf_rep (ds := ds) k rv e
    cases e'
    obtain ⟨w, hw, rw'⟩ := rws.get e2
    refine .inl ⟨a, ws, w, rfl, rfl, hs, by rw [rws.length]; exact hw, ?_⟩
    exact h μ G _ (.refl _ _) (k.write (cell_some (lstAt_cell e)) ha ⟨_, rfl, rws.dropLast⟩) _ rw'
  · rename_i n i
    obtain ⟨ds, e, h⟩ := opt_done h
    obtain ⟨j, e1, h⟩ := opt_done h
    obtain ⟨y, e2, h⟩ := opt_done h
    obtain ⟨hr, h⟩ := ite_done h
    obtain ⟨w, rfl, rw'⟩ := reps_one rs
    rw [rep_int rw']
    obtain ⟨a, rfl, ha⟩ := rep_loc rv
    obtain ⟨a', ws, e', hs, rws⟩ := lstOf_rep (ds := ds) k rv e
    cases e'
    obtain ⟨z, hz, rz⟩ := rws.get e2
    obtain ⟨g1, g2, g3, g4⟩ := ixN_seq e1
    refine .inr ⟨a, ws, i, j, z, rfl, rfl, hs, by omega, by omega, by rw [rws.length]; exact g1, hz, ?_⟩
    exact h μ G _ (.refl _ _) (k.write (cell_some (lstAt_cell e)) ha ⟨_, rfl, rws.eraseIdx j⟩) _ rz
  · exact h.elim

/-! ### a[i] = v -/
/-- what a store to o[i] does -/
abbrev SD := D → D → D → Store → Option Store
def setD : SD := fun o i v st => match o, i with
  | .loc n, .int k => (lstAt st n).bind fun ds => (ixN ds.length k).bind fun j => some (st.set n (some (.lst (ds.set j v))))
  | _, _ => none
def sSub (f : SD) (o i m : EM) : SM := fun vs st => (m vs st).thn vs fun v st => (o vs st).thn vs fun x st => (i vs st).thn vs fun y st => match f x y v st with
  | some st => .nx vs st
  | none => .bad
def SSet (K : PySem.W.Frag) (mg : Str → Option Value) (f : SD) (r : TSet) : Prop := ∀ (μ : List Addr) (G F : Hp) (st st' : Store) (H : Hp) (x y z : D) (v w u : V) (Q : Hp → Prop), Kn K mg μ G F st H → Rep K μ G x v → Rep K μ G y w → Rep K μ G z u → f x y z st = some st' →
  (∀ H', Kn K mg μ G F st' H' → Q H') → r v w u H Q
theorem s_setL : SSet K mg setD rSetL := by
  intro μ G F st st' H x y z v w u Q k rx ry rz e q
  unfold setD at e
  split at e
  · rename_i n i
    cases e1 : lstAt st n with
    | none => rw [e1] at e; cases e
    | some ds =>
      rw [e1] at e
      have e' : ((ixN ds.length i).bind fun j => some (st.set n (some (.lst (ds.set j z))))) = some st' := e
      cases e2 : ixN ds.length i with
      | none => rw [e2] at e'; cases e'
      | some j =>
        rw [e2] at e'
        injection e' with e3
        subst e3
        obtain ⟨a, rfl, ha⟩ := rep_loc rx
        obtain ⟨a', ws, ea, hs, rws⟩ := lstOf_rep (ds := ds) k rx e1
        cases ea
        rw [rep_int ry]
        refine ⟨a, ws, i, j, rfl, rfl, hs, by rw [rws.length]; exact e2, q _ (k.write (cell_some (lstAt_cell e1)) ha ⟨_, rfl, rws.set rz j⟩)⟩
  · cases e
section
variable {W : WX} {o i value : Expr} {mo mi mv : EM} {f : SD} {r : TSet} {tpos pos : Pos}
theorem sub_of (hs : SSet X.K X.mg f r) (D : Ends) (σ : L2.St) (H : Hp) (h : tS X.K X.mg W (sSub f mo mi mv) D σ H) : tAsg (tE X.K X.mg W mv) (gSub (tE X.K X.mg W mo) (tE X.K X.mg W mi) r) D σ H := by
  obtain ⟨vs, st, μ, G, F, re, k, h⟩ := h
  refine ⟨vs, st, μ, G, F, re, k, (DoneS.thn re h).mono fun μ1 G1 z st1 H1 f1 k1 h1 u ru => ?_⟩
  refine ⟨vs, st1, μ1, G1, F, re.fut f1, k1, (DoneS.thn (re.fut f1) h1).mono fun μ2 G2 x st2 H2 f2 k2 h2 v rv => ?_⟩
  refine ⟨vs, st2, μ2, G2, F, (re.fut f1).fut f2, k2, (DoneS.thn ((re.fut f1).fut f2) h2).mono fun μ3 G3 y st3 H3 f3 k3 h3 w rw' => ?_⟩
  split at h3
  · rename_i st4 e
    exact hs μ3 G3 F st3 st4 H3 x y z v w u _ k3 (rv.fut f3) rw' ((ru.fut f2).fut f3) e fun H' k4 => h3 μ3 G3 H' σ (.refl _ _) k4 (((re.fut f1).fut f2).fut f3)
  · exact h3.elim
theorem st_sub (hp : PSet X r) (hs : SSet X.K X.mg f r) (ho : ME X W o mo) (hi : ME X W i mi) (hv : ME X W value mv)
    (ha : ∀ v, assign (.Subscript o i tpos) X.env v = (do
      let ov ← holding [v] (eval o X.env)
      let iv ← holding [v, ov] (eval i X.env)
      standAt tpos
      holding [v, ov, iv] (setItem ov iv v)
      release [v, ov, iv] []) := by intro _; rfl)
    (h1 : swapsWithSole [.Subscript o i tpos] value pos.line X.env = pure false := by rfl) (hw : swappedStores [.Subscript o i tpos] value X.env = pure none := by rfl) (h2 : (assignEach [.Subscript o i tpos] X.env).map (·.2) = [assign (.Subscript o i tpos) X.env] := by rfl) :
    MS X W (.Assign [.Subscript o i tpos] value pos) (sSub f mo mi mv) := (ps_asg hv (pg_sub ho hi hp ha) h1 hw h2).of (sub_of hs)
end
end
end Dn
namespace Dn
open PySem PySem.Spec PyProof.Rows L2

/-! ### enumerate of a tuple -/
set_option maxHeartbeats 1000000 in
theorem meets_enum1 {v : Value} {o : Obj} {H : Heap → Prop} (B : Begins v o H) :
    Meets (Builtin.«enumerate.__new__» ⟨[.type "enumerate", v], []⟩) (fun _ R s => H s.heap ∧
      R (.ok (.ret (.ref (s.heap.push o).objs.size))) { s with heap := (s.heap.push o).push { cls := .type "enumerate", data := .fields #[.none, .bool false, .ref s.heap.objs.size, rawInt 0, .none, .none] } }) :=
  .of_wp fun prog w A R s h => by
    obtain ⟨hp, g, d, tk, os⟩ := s; obtain ⟨h1, h⟩ := h
    have hsub := sub_enumerate
    have q1 : ∀ {A' : Around} {E : Value → Shared → Prop} {Q : Value → Shared → Prop}, Q (.ref hp.objs.size) ⟨hp.push o, g, d, tk, os⟩ → wpAny (model prog w) A' (pyIter v) Q E ⟨hp, g, d, tk, os⟩ :=
      fun q => B.iter prog w _ _ ⟨hp, g, d, tk, os⟩ _ h1 q
    wp_walk using q1
    refine wpAny_stack_any fun st => wpAny_pure ?_
    split
    · rename_i c _ _ _ _ _
      cases (c == Value.type "enumerate")
      · wp_walk using q1
        exact ⟨_, rfl, h⟩
      · wp_walk using q1
        exact ⟨_, rfl, h⟩
    · wp_walk using q1
      exact ⟨_, rfl, h⟩
theorem call_enum1 {prog : Program} {w : World} {A : Around} {E : Value → Shared → Prop} {s : Shared} {v : Value} {o : Obj} {H : Heap → Prop} {Q : Value → Shared → Prop} (B : Begins v o H) (h1 : H s.heap)
    (h : ∀ h', IsEnum h' (s.heap.objs.size + 1) s.heap.objs.size 0 .none → h'.get? s.heap.objs.size = some o → h'.objs.size = s.heap.objs.size + 2 →
      (∀ b o, s.heap.get? b = some o → h'.get? b = some o) → Q (.ref (s.heap.objs.size + 1)) { s with heap := h' }) :
    wpAny (model prog w) A (call (.type "enumerate") [v]) Q E s := by
  refine callType_new F.called_enumerate (by decide) (F.typeCall_enumerate_1 _) (F.newCall_enumerate_1 _) (fun obj => F.args_object_init_2 obj _) F.entry_enumerate_new (meets_enum1 B) ⟨h1, ?_⟩
  have hz : (s.heap.push o).objs.size = s.heap.objs.size + 1 := Heap.size_push ..
  show _ ∧ _
  rw [hz]
  have he : IsEnum ((s.heap.push o).push { cls := .type "enumerate", data := .fields #[.none, .bool false, .ref s.heap.objs.size, rawInt 0, .none, .none] }) (s.heap.objs.size + 1) s.heap.objs.size 0 .none := by
    have := Heap.get?_push_size (s.heap.push o) (o := { cls := .type "enumerate", data := .fields #[.none, .bool false, .ref s.heap.objs.size, rawInt 0, .none, .none] }) rfl
    rw [hz] at this; exact this
  refine ⟨⟨_, he, rfl⟩, h _ he (Heap.get?_push_of_some _ (Heap.get?_push_size _ B.free)) (by rw [Heap.size_push, hz]) fun b o x => Heap.get?_push_of_some _ (Heap.get?_push_of_some _ x)⟩
/-- the tuple at a, each item in a new pair -/
def IteT (K : PySem.W.Frag) (a : Addr) : It :=
  ⟨fun i H => ∃ (xs : List V) (x : V), SqT K H a xs ∧ xs[i]? = some x, fun i H v H' => ∃ T x, v = .ref T ∧ H T = none ∧ H' = upd H T (.tup [.int (i : Nat), x]) ∧ ∀ xs, SqT K H a xs → xs[i]? = some x, fun i H => ∃ xs : List V, SqT K H a xs ∧ xs.length = i⟩
theorem turn_enumT {P : Program} {w : World} {K : PySem.W.Frag} {elts : List Expr} {kk : Nat} {tpos : Pos} (a e it : Addr) :
    Turn P w K (.Tuple elts kk tpos) (IteT K a) [e, it] e (fun i h => (∃ old, IsEnum h e it ((i : Nat) : Int) old) ∧ h.IsTupleIter it a i ∧ e ≠ it ∧ a ≠ it ∧ a ≠ e) where
  mem := by simp
  obj := fun i h st b hb => by
    obtain ⟨⟨old, he⟩, ⟨o, ho, hc, hd⟩, _⟩ := st
    have e' : b = e ∨ b = it := by simpa using hb
    rcases e' with z | z
    · rw [z]; exact ⟨_, he, fun v q => nomatch q⟩
    · rw [z]; exact ⟨o, ho, fun v q => by rw [hd] at q; cases q⟩
  keep := fun i h h' st k => let ⟨⟨old, he⟩, hi, hne⟩ := st; ⟨⟨old, k e (by simp) _ he⟩, hi.at fun o q => k it (by simp) o q, hne⟩
  item := by
    intro X hP hw hK hc i pins s σ H E I hf st hg
    subst hP hw hK
    obtain ⟨⟨old, he⟩, hit, hne, hai, hae⟩ := st
    obtain ⟨xs, x, hq, hx⟩ := hg
    obtain ⟨its, rv, p, hz⟩ := I.tuple hq
    have p : s.heap.IsTuple a its.toArray := p
    obtain ⟨u, hu, ru⟩ := rv.get hx
    have hel : e < s.heap.objs.size := Heap.lt_size he
    have hil : it < s.heap.objs.size := by obtain ⟨_, q, _⟩ := hit; exact Heap.lt_size q
    have hlt : i < its.toArray.size := by simpa using (List.getElem?_eq_some_iff.mp hu).1
    refine wpAny_pyNext_enum_itemD (Draws.tuple (prog := X.prog) (w := X.w) (A := X.A.in1) (by show X.A.handled = none; exact I.ok.hd hc) it a hai its.toArray) he ⟨hit, p⟩ hlt hne (by simp; exact ⟨hne, fun z => hae z.symm⟩) fun x' h' tk hPx ho hs' hT hsz hk => ?_
    have ex' : u = x' := by
      have h1 : its.toArray[i]? = some u := by simpa using hu
      rw [h1] at hPx
      exact Option.some.inj hPx
    subst ex'
    refine ⟨_, rfl, wpAny_letOwnedTupleGo_enum (s := { s with heap := h', toks := tk + 1 }) ho fun h'' he' sb => ?_⟩
    have hT2 : h''.get? s.heap.objs.size = some { cls := .type "tuple", data := .seq #[.int i tk, u] } := (sb.2 _ (Nat.ne_of_gt hel)).trans hT
    have new : ObjOk X.prog X.w (upd H s.heap.objs.size (.tup [.int (i : Nat), x])) h'' s.heap.objs.size (.tup [.int (i : Nat), x]) :=
      ⟨by show 2 ≤ sizeLine; decide, [.int i tk, u], .cons ⟨_, rfl⟩ (.cons ru .nil), ⟨_, hT2, rfl, _, rfl⟩⟩
    have I1 : Inv X pins σ (upd H s.heap.objs.size (.tup [.int (i : Nat), x])) { s with heap := h'', toks := tk + 1 } :=
      I.turnedNew (ch := [e, it]) (fun b ob hb q => (sb.2 b (fun z => hb (by simp [z]))).trans (hk b ob (fun z => hb (by simp [z])) (fun z => hb (by simp [z])) q)) hf (Nat.le_refl _) new
    refine ⟨.ref s.heap.objs.size, _, I1, rfl, ⟨_, x, rfl, I.hok.fresh (Nat.le_refl _), rfl, fun ys hy => by rw [I.tuple_inj hy hq]; exact hx⟩, ⟨⟨u, ?_⟩, hs'.1.at fun o q => (sb.2 it (Ne.symm hne)).trans q, hne, hai, hae⟩, fun b hb => ?_⟩
    · have e1 : ((i + 1 : Nat) : Int) = (i : Int) + 1 := by omega
      rw [e1]; exact he'
    · have hb' : b < s.heap.objs.size := by
        have e' : b = e ∨ b = it := by simpa using hb
        rcases e' with z | z
        · rw [z]; exact hel
        · rw [z]; exact hil
      rw [upd_ne (Nat.ne_of_lt hb')]
      exact (hf b hb).1
  done := by
    intro X hP hw hK hc i pins s σ H E I hf st hg
    subst hP hw hK
    obtain ⟨⟨old, he⟩, hit, hne, hai, hae⟩ := st
    obtain ⟨xs, hq, hx⟩ := hg
    obtain ⟨its, rv, p, hz⟩ := I.tuple hq
    have p : s.heap.IsTuple a its.toArray := p
    obtain ⟨f0, f1, f2, f3, f4, f5⟩ := hf it (by simp)
    have hl := rv.length
    have e : i = its.toArray.size := by simp; omega
    subst e
    exact wpAny_pyNext_enum_endD (Draws.tuple (prog := X.prog) (w := X.w) (A := X.A.in1) (by show X.A.handled = none; exact I.ok.hd hc) it a hai its.toArray) he ⟨hit, p⟩ fun h' eb => ⟨rfl, I.turned (t' := s.toks) (fun b o hb q => eb b o hb q) f0 f1 f3 f4 f5⟩
  self := fun A i s Q E st h => let ⟨⟨_, he⟩, _⟩ := st; wpAny_pyIter_enum he h
def iEnT (K : PySem.W.Frag) (ta : TA) : TI := fun σ H R => ta σ H fun vs H1 => ∃ a, vs = [.ref a] ∧ ((∃ xs, SqL K H1 a xs) ∧ R (Ite K a) H1 ∨ (∃ xs, SqT K H1 a xs) ∧ R (IteT K a) H1)
theorem pi_en {X : Cx} {e : Expr} {ta : TA} {p pos tpos : Pos} {elts : List Expr} {kk : Nat} (hg : Gl X "enumerate") (hm : X.mg "enumerate" = none) (ha : PA X [e] ta) (hs : starEach [e] X.env = [(false, eval e X.env)] := by rfl) :
    PI X (.Tuple elts kk tpos) (.Call (.Name "enumerate" p) [e] [] pos) (iEnT X.K ta) := by
  refine ⟨fun pins s σ H R I h => ?_⟩
  refine Call_ (ld_blt I hg hm boot_enumerate (PyProof.Rows.callWith_type1 (thn (ha.run pos pins s σ H _ I h) fun us s1 ⟨vs, H1, I1, r1, q1⟩ => ?_) hs rfl))
  obtain ⟨a, ex, q⟩ := q1
  subst ex
  cases r1 with
  | cons r rr =>
    cases rr
    cases r
    rcases q with ⟨⟨xs, hq⟩, q⟩ | ⟨⟨xs, hq⟩, q⟩
    · obtain ⟨its, rv, p', hz⟩ := I1.list hq
      refine call_enumerate_list p'.isList fun h' he hit hsz hk => wpAny_pyIter_enum he ?_
      have I2 : Inv X pins σ H1 { s1 with heap := h' } := I1.kept (t' := s1.toks) hk
      refine ⟨s1.heap.objs.size + 1, [s1.heap.objs.size + 1, s1.heap.objs.size], _, _, H1, rfl, I2, turn_enum a (s1.heap.objs.size + 1) s1.heap.objs.size, ⟨⟨.none, he⟩, hit, Nat.succ_ne_self _⟩, fun b hb => ?_, q⟩
      have e' : b = s1.heap.objs.size + 1 ∨ b = s1.heap.objs.size := by simpa using hb
      have hle : s1.heap.objs.size ≤ b := by
        rcases e' with z | z
        · rw [z]; exact Nat.le_add_right _ _
        · rw [z]; exact Nat.le_refl _
      exact I1.fpOk hle (I1.hok.fresh hle)
    · obtain ⟨its, rv, p', hz⟩ := I1.tuple hq
      have p2 : s1.heap.IsTuple a its.toArray := p'
      refine call_enum1 (begins_tuple a its.toArray) p2 fun h' he hit hsz hk => wpAny_pyIter_enum he ?_
      have I2 : Inv X pins σ H1 { s1 with heap := h' } := I1.kept (t' := s1.toks) hk
      have hla : a < s1.heap.objs.size := by obtain ⟨_, q, _⟩ := p2; exact Heap.lt_size q
      refine ⟨s1.heap.objs.size + 1, [s1.heap.objs.size + 1, s1.heap.objs.size], _, _, H1, rfl, I2, turn_enumT a (s1.heap.objs.size + 1) s1.heap.objs.size, ⟨⟨.none, he⟩, ⟨_, hit, rfl, rfl⟩, Nat.succ_ne_self _, Nat.ne_of_lt hla, Nat.ne_of_lt (Nat.lt_succ_of_lt hla)⟩, fun b hb => ?_, q⟩
      have e' : b = s1.heap.objs.size + 1 ∨ b = s1.heap.objs.size := by simpa using hb
      have hle : s1.heap.objs.size ≤ b := by
        rcases e' with z | z
        · rw [z]; exact Nat.le_add_right _ _
        · rw [z]; exact Nat.le_refl _
      exact I1.fpOk hle (I1.hok.fresh hle)
/-- the pairs of an enumeration -/
def enumP (ds : List D) : List D := ds.zipIdx.map fun p => D.tup [.int p.2, p.1]
theorem enumP_get {ds : List D} {i : Nat} {d : D} (h : (enumP ds)[i]? = some d) : ∃ x, ds[i]? = some x ∧ d = .tup [.int i, x] := by
  unfold enumP at h
  rw [List.getElem?_map, List.getElem?_zipIdx] at h
  cases e : ds[i]? with
  | none => rw [e] at h; cases h
  | some x =>
    rw [e] at h
    refine ⟨x, rfl, ?_⟩
    simpa using h.symm
theorem enumP_length {ds : List D} : (enumP ds).length = ds.length := by simp [enumP]
/-- items of a list or a tuple that stay while it is walked -/
theorem its_at {K : PySem.W.Frag} {mg : Str → Option Value} {μ1 : List Addr} {G1 F1 : Hp} {st1 : Store} {H1 : Hp} {x : D} {v : V} {it : Its} (k1 : Kn K mg μ1 G1 F1 st1 H1) (rv : Rep K μ1 G1 x v) (e : itsOf st1 x = some it) :
    ∃ a, v = .ref a ∧ (((∃ xs, SqL K H1 a xs) ∧ ∀ μ2 G2 F2 st2 H2, Fut μ1 G1 μ2 G2 → Kn K mg μ2 G2 F2 st2 H2 → grd it st2 → ∃ xs, SqL K H2 a xs ∧ Reps K μ2 G2 it.1 xs) ∨
      ((∃ xs, SqT K H1 a xs) ∧ ∀ μ2 G2 F2 st2 H2, Fut μ1 G1 μ2 G2 → Kn K mg μ2 G2 F2 st2 H2 → grd it st2 → ∃ xs, SqT K H2 a xs ∧ Reps K μ2 G2 it.1 xs)) := by
  cases x with
  | tup ds =>
    injection e with e
    subst e
    obtain ⟨a, vs', rfl, hs, rs⟩ := rep_tup rv
    exact ⟨a, rfl, .inr ⟨⟨vs', k1.ex.sqt hs⟩, fun μ2 G2 F2 st2 H2 f2 k2 _ => ⟨vs', k2.ex.sqt (f2.ex.sqt hs), rs.fut f2⟩⟩⟩
  | lst ds =>
    injection e with e
    subst e
    obtain ⟨a, vs', rfl, hs, rs⟩ := rep_lst rv
    exact ⟨a, rfl, .inl ⟨⟨vs', .of (k1.ex _ _ hs)⟩, fun μ2 G2 F2 st2 H2 f2 k2 _ => ⟨vs', .of (k2.ex _ _ (f2.ex _ _ hs)), rs.fut f2⟩⟩⟩
  | frz ds =>
    injection e with e
    subst e
    obtain ⟨a, vs', rfl, hs, rs⟩ := rep_frz rv
    exact ⟨a, rfl, .inl ⟨⟨vs', k1.ex.sql hs⟩, fun μ2 G2 F2 st2 H2 f2 k2 _ => ⟨vs', k2.ex.sql (f2.ex.sql hs), rs.fut f2⟩⟩⟩
  | loc n =>
    unfold itsOf at e
    cases hc : lstAt st1 n with
    | none => simp only [hc] at e; cases e
    | some ds =>
      simp only [hc] at e
      injection e with e
      subst e
      obtain ⟨a, rfl, ha⟩ := rep_loc rv
      obtain ⟨a', vs', e', hs, rs⟩ := lstOf_rep (ds := ds) k1 rv hc
      cases e'
      refine ⟨a, rfl, .inl ⟨⟨vs', .of hs⟩, fun μ2 G2 F2 st2 H2 f2 k2 g2 => ?_⟩⟩
      obtain ⟨a2, vs2, e2, hs2, rs2⟩ := lstOf_rep (d := .loc n) (ds := ds) k2 (.loc (f2.at ha)) (lstAt_of g2.1)
      cases e2
      exact ⟨vs2, .of hs2, rs2⟩
  | _ => cases e
def iEn (m : EMs) : IM := fun vs st => (m vs st).bind fun xs st => match xs with
  | [x] => (match itsOf st x with
    | some it => .ok (enumP it.1, it.2) st
    | none => .bad)
  | _ => .bad
theorem pair_new {K : PySem.W.Frag} {mg : Str → Option Value} {μ : List Addr} {G F : Hp} {st : Store} {H : Hp} {T : Addr} {ds : List D} {vs : List V} (k : Kn K mg μ G F st H) (hT : H T = none) (r : Reps K μ G ds vs) :
    ∃ G'', Fut μ G μ G'' ∧ Kn K mg μ G'' F st (upd H T (.tup vs)) ∧ Rep K μ G'' (.tup ds) (.ref T) := by
  have f : Fut μ G μ (upd G T (.tup vs)) := .know (.new (k.ex.free hT))
  exact ⟨_, f, k.learn hT, .tup (.of upd_same) (r.fut f)⟩
section
variable {X : Cx} {W : WX} {e : Expr} {elts : List Expr} {kk : Nat} {ms : EMs} {p pos tpos : Pos}
theorem i_en (hm : X.mg "enumerate" = none) (ha : MA X W [e] ms) (hms : ALen ms 1 := by repeat constructor) (hg : Gl X "enumerate" := by rfl) (hs : starEach [e] X.env = [(false, eval e X.env)] := by rfl) :
    MI X W (.Tuple elts kk tpos) (.Call (.Name "enumerate" p) [e] [] pos) (iEn ms) := (pi_en hg hm ha hs).of fun σ H R h => by
  obtain ⟨vs, st, μ, G, F, re, k, h⟩ := h
  unfold iEn at h
  cases hd : ms vs st with
  | bad => rw [hd] at h; exact h.elim
  | exc ex st1 => rw [hd] at h; exact ⟨vs, st, μ, G, F, re, k, by rw [hd]; exact h⟩
  | ok ds st1 =>
    rw [hd] at h
    refine ⟨vs, st, μ, G, F, re, k, ?_⟩
    rw [hd]
    intro μ1 G1 H1 f1 k1 ws rws
    have hl := hms.len hd
    have h1 := Done.fut f1 h
    obtain ⟨d, rfl⟩ : ∃ d, ds = [d] := by
      match ds, hl with
      | [d], _ => exact ⟨d, rfl⟩
    obtain ⟨v, rfl, rv⟩ := reps_one rws
    cases hi : itsOf st1 d with
    | none => simp only [Re.bind, hi] at h1; exact h1.elim
    | some it =>
      simp only [Re.bind, hi] at h1
      obtain ⟨g, q⟩ := Done.here k1 h1
      obtain ⟨a, rfl, hq⟩ := its_at k1 rv hi
      rcases hq with ⟨he, hq⟩ | ⟨he, hq⟩
      · refine ⟨a, rfl, .inl ⟨he, q _ fun μ2 G2 F2 st2 H2 f2 k2 g2 => ?_⟩⟩
        obtain ⟨xs, hx, rx⟩ := hq μ2 G2 F2 st2 H2 f2 k2 g2
        refine ⟨⟨xs, hx, by rw [rx.length]; exact Nat.le_of_eq enumP_length.symm⟩, fun i d hd => ?_⟩
        obtain ⟨y, hy, rfl⟩ := enumP_get hd
        obtain ⟨w, hw, rw'⟩ := rx.get hy
        refine ⟨⟨xs, w, hx, hw⟩, fun z H3 hz => ?_⟩
        obtain ⟨T, w', rfl, hT, rfl, hall⟩ := hz
        have := hall xs hx
        rw [hw] at this
        cases this
        exact pair_new k2 hT (.cons .int (.cons rw' .nil))
      · refine ⟨a, rfl, .inr ⟨he, q _ fun μ2 G2 F2 st2 H2 f2 k2 g2 => ?_⟩⟩
        obtain ⟨xs, hx, rx⟩ := hq μ2 G2 F2 st2 H2 f2 k2 g2
        refine ⟨⟨xs, hx, by rw [rx.length]; exact enumP_length.symm⟩, fun i d hd => ?_⟩
        obtain ⟨y, hy, rfl⟩ := enumP_get hd
        obtain ⟨w, hw, rw'⟩ := rx.get hy
        refine ⟨⟨xs, w, hx, hw⟩, fun z H3 hz => ?_⟩
        obtain ⟨T, w', rfl, hT, rfl, hall⟩ := hz
        have := hall xs hx
        rw [hw] at this
        cases this
        exact pair_new k2 hT (.cons .int (.cons rw' .nil))
end
end Dn
namespace Dn
open PySem PySem.Spec PyProof.Rows L2

/-! ### dicts whose keys are ints and texts -/
def keyK : D → Option Key
  | .int i => some (.inl i)
  | .str z => some (.inr z)
  | _ => none
section
variable {κ : Type} [DecidableEq κ]
def getK (kvs : List (κ × D)) (k : κ) : Option D := (kvs.find? fun p => decide (p.1 = k)).map (·.2)
def setK (kvs : List (κ × D)) (k : κ) (d : D) : List (κ × D) := if (kvs.any fun p => decide (p.1 = k)) = true then kvs.map (fun p => if p.1 = k then (p.1, d) else p) else kvs ++ [(k, d)]
end
theorem keyK_rep {K : PySem.W.Frag} {μ : List Addr} {G : Hp} {d : D} {v : V} {k : Key} (r : Rep K μ G d v) (e : keyK d = some k) : v = kV k := by
  cases d with
  | int i => injection e with e; subst e; exact rep_int r
  | str z => injection e with e; subst e; exact rep_str r
  | _ => cases e
def relO (K : PySem.W.Frag) (μ : List Addr) (G : Hp) : Option D → Option V → Prop
  | none, o => o = none
  | some d, o => ∃ v, o = some v ∧ Rep K μ G d v
section
variable {K : PySem.W.Frag} {mg : Str → Option Value} {μ : List Addr} {G F : Hp} {st : Store} {H : Hp} {κ : Type} [DecidableEq κ]
theorem repKV_get {k : κ} : ∀ {kvs : List (κ × D)} {ps : List (κ × V)}, RepKV K μ G kvs ps → relO K μ G (getK kvs k) (valV ps k)
  | [], ps, h => by
    have : ps = [] := h
    subst this
    rfl
  | (j, d) :: r, ps, h => by
    obtain ⟨v, s, rfl, hv, t⟩ := h
    by_cases e : j = k
    · subst e
      have h1 : getK ((j, d) :: r) j = some d := by simp [getK]
      have h2 : valV ((j, v) :: s) j = some v := by simp [valV]
      rw [h1, h2]
      exact ⟨v, rfl, hv⟩
    · have h1 : getK ((j, d) :: r) k = getK r k := by simp [getK, List.find?_cons, e]
      have h2 : valV ((j, v) :: s) k = valV s k := by simp [valV, List.find?_cons, e]
      rw [h1, h2]
      exact repKV_get t
theorem repKV_any {k : κ} : ∀ {kvs : List (κ × D)} {ps : List (κ × V)}, RepKV K μ G kvs ps → (kvs.any fun p => decide (p.1 = k)) = ps.any fun p => decide (p.1 = k)
  | [], ps, h => by
    have : ps = [] := h
    subst this
    rfl
  | (j, d) :: r, ps, h => by
    obtain ⟨v, s, rfl, hv, t⟩ := h
    rw [List.any_cons, List.any_cons, repKV_any t]
theorem repKV_append : ∀ {kvs kvs' : List (κ × D)} {ps ps' : List (κ × V)}, RepKV K μ G kvs ps → RepKV K μ G kvs' ps' → RepKV K μ G (kvs ++ kvs') (ps ++ ps')
  | [], _, ps, _, h, h' => by
    have : ps = [] := h
    subst this
    exact h'
  | (j, d) :: r, _, ps, _, h, h' => by
    obtain ⟨v, s, rfl, hv, t⟩ := h
    exact ⟨v, s ++ _, rfl, hv, repKV_append t h'⟩
theorem repKV_map {k : κ} {d : D} {v : V} (hd : Rep K μ G d v) : ∀ {kvs : List (κ × D)} {ps : List (κ × V)}, RepKV K μ G kvs ps → RepKV K μ G (kvs.map fun p => if p.1 = k then (p.1, d) else p) (ps.map fun p => if p.1 = k then (p.1, v) else p)
  | [], ps, h => by
    have : ps = [] := h
    subst this
    rfl
  | (j, e) :: r, ps, h => by
    obtain ⟨w, s, rfl, hw, t⟩ := h
    have ih := repKV_map (k := k) hd t
    by_cases e' : j = k
    · subst e'
      have h1 : (List.map (fun p => if p.1 = j then (p.1, d) else p) ((j, e) :: r)) = (j, d) :: r.map fun p => if p.1 = j then (p.1, d) else p := by simp
      have h2 : (List.map (fun p => if p.1 = j then (p.1, v) else p) ((j, w) :: s)) = (j, v) :: s.map fun p => if p.1 = j then (p.1, v) else p := by simp
      rw [h1, h2]
      exact ⟨v, _, rfl, hd, ih⟩
    · have h1 : (List.map (fun p => if p.1 = k then (p.1, d) else p) ((j, e) :: r)) = (j, e) :: r.map fun p => if p.1 = k then (p.1, d) else p := by simp [e']
      have h2 : (List.map (fun p => if p.1 = k then (p.1, v) else p) ((j, w) :: s)) = (j, w) :: s.map fun p => if p.1 = k then (p.1, v) else p := by simp [e']
      rw [h1, h2]
      exact ⟨w, _, rfl, hw, ih⟩
theorem repKV_put {k : κ} {d : D} {v : V} (hd : Rep K μ G d v) {kvs : List (κ × D)} {ps : List (κ × V)} (h : RepKV K μ G kvs ps) : RepKV K μ G (setK kvs k d) (putK ps k v) := by
  unfold setK putK
  rw [repKV_any h]
  split
  · exact repKV_map hd h
  · exact repKV_append h ⟨v, [], rfl, hd, rfl⟩
end
/-- what x holds at the key y, x a dict -/
def dGet (st : Store) (x y : D) : Option (Option D) := match x with
  | .loc n => match cell st n with
    | some (.dct kvs) => (keyK y).map fun k => getK kvs k
    | _ => none
  | _ => none
section
variable {X : Cx} {K : PySem.W.Frag} {mg : Str → Option Value} {μ : List Addr} {G F : Hp} {st : Store} {H : Hp} {x y : D} {v w : V} {o : Option D}
theorem dGet_rep (k : Kn K mg μ G F st H) (rx : Rep K μ G x v) (ry : Rep K μ G y w) (e : dGet st x y = some o) : ∃ a o', v = .ref a ∧ DGet H a w o' ∧ relO K μ G o o' := by
  unfold dGet at e
  split at e
  · rename_i n
    split at e
    · rename_i kvs hc
      obtain ⟨a, ps, rfl, _, hs, rp⟩ := dct_rep k rx hc
      cases hk : keyK y with
      | none => rw [hk] at e; cases e
      | some q =>
        rw [hk] at e
        injection e with e
        subst e
        rw [keyK_rep ry hk]
        exact ⟨a, _, rfl, .k hs, repKV_get rp⟩
    · cases e
  · cases e
end
/-- o[i] of a sequence or a dict -/
def ixA (x y : D) (st : Store) : Re D := match dGet st x y with
  | some (some d) => .ok d st
  | some none => .bad
  | none => ixD x y st
def rIxDct : R2 := fun x y H Q => ∃ a v, x = .ref a ∧ DGet H a y (some v) ∧ Q v H
abbrev rIxA (K : PySem.W.Frag) : R2 := fun x y H Q => rIxDct x y H Q ∨ rIx K x y H Q
section
variable {X : Cx} {K : PySem.W.Frag} {mg : Str → Option Value}
theorem ix_dct (hu : X.A.units + 1 < cLine) : IxR X rIxDct := by
  intro value slice pins s σ H x y v u Q I rx ry h hs
  obtain ⟨a, z, rfl, g, q⟩ := h
  obtain rfl : v = Value.ref a := rx
  exact PyProof.Rows.tail_any (dict_typeIs I g) PySem.F.slot_dict_getitem.lookup (d_getItem hu I g ry fun w' s3 I3 rw' => ⟨z, H, I3, rw', q⟩) hs
theorem ix_a (hu : X.A.units + 1 < cLine) : IxR X (rIxA X.K) := (ix_dct hu).or ix_seq
theorem s_ixA : S2 K mg ixA (rIxA K) := by
  intro W σ μ G F st H x y v w Q k rx ry h
  unfold ixA at h
  split at h
  · rename_i d e
    obtain ⟨a, o', rfl, g, ro⟩ := dGet_rep k rx ry e
    obtain ⟨z, rfl, rz⟩ := ro
    exact .inl ⟨a, z, rfl, g, fin_here k h rz⟩
  · exact h.elim
  · exact .inr (s_ix W σ μ G F st H x y v w Q k rx ry h)
end
section
variable {X : Cx} {W : WX} {a b c : Expr} {ma mb mc : EM} {pos : Pos}
theorem m_ixA (hu : X.A.units + 1 < cLine) (ha : ME X W a ma) (hb : ME X W b mb) (hs : PlainIx b := by exact fun _ _ => rfl) : ME X W (.Subscript a b pos) (e2 ixA ma mb) := (pe_ix (ix_a hu) ha hb hs).of (two_of s_ixA ha hb)
end
/-- y in x -/
def inA (neg : Bool) (f : D → D → Store → Re D) (y x : D) (st : Store) : Re D := match dGet st x y with
  | some o => .ok (.bl (if neg then !o.isSome else o.isSome)) st
  | none => f y x st
def rInDct (neg : Bool) : R2 := fun y x H Q => ∃ a o, x = .ref a ∧ DGet H a y o ∧ Q (.bl (if neg then !o.isSome else o.isSome)) H
section
variable {X : Cx} {K : PySem.W.Frag} {mg : Str → Option Value}
theorem op_inDct (hu : X.A.units + 1 < cLine) : OpR X (compareOp .In) (rInDct false) := by
  intro pins s σ H x y v u Q I rx ry h
  obtain ⟨a, o, rfl, g, q⟩ := h
  obtain rfl : u = Value.ref a := ry
  exact d_in hu I g rx fun s3 I3 => ⟨.bl o.isSome, H, I3, rfl, q⟩
theorem op_ninDct (hu : X.A.units + 1 < cLine) : OpR X (compareOp .NotIn) (rInDct true) := by
  intro pins s σ H x y v u Q I rx ry h
  obtain ⟨a, o, rfl, g, q⟩ := h
  obtain rfl : u = Value.ref a := ry
  exact d_notIn hu I g rx fun s3 I3 => ⟨.bl (!o.isSome), H, I3, rfl, q⟩
theorem units1 (hu : X.A.units + 65 < cLine) : X.A.units + 1 < cLine := by omega
theorem or_inA (hu : X.A.units + 65 < cLine) : OpR X (compareOp .In) (fun x y H Q => rInDct false x y H Q ∨ rInB X.K false x y H Q) := OpR.or (r := rInDct false) (op_inDct (units1 hu)) (or_in hu)
theorem or_ninA (hu : X.A.units + 65 < cLine) : OpR X (compareOp .NotIn) (fun x y H Q => rInDct true x y H Q ∨ rInB X.K true x y H Q) := OpR.or (r := rInDct true) (op_ninDct (units1 hu)) (or_nin hu)
theorem relO_isSome {μ : List Addr} {G : Hp} {o : Option D} {o' : Option V} (r : relO K μ G o o') : o'.isSome = o.isSome := by
  cases o with
  | none => have : o' = none := r; rw [this]; rfl
  | some d => obtain ⟨v, rfl, _⟩ := r; rfl
theorem s_inA {neg : Bool} {f : D → D → Store → Re D} {r : R2} (hf : S2 K mg f r) : S2 K mg (inA neg f) (fun x y H Q => rInDct neg x y H Q ∨ r x y H Q) := by
  intro W σ μ G F st H x y v w Q k rx ry h
  unfold inA at h
  split at h
  · rename_i o e
    obtain ⟨a, o', rfl, g, ro⟩ := dGet_rep k ry rx e
    refine .inl ⟨a, o', rfl, g, ?_⟩
    rw [relO_isSome ro]
    exact fin_here k h .bl
  · exact .inr (hf W σ μ G F st H x y v w Q k rx ry h)
end
/-! ### d[k] = v -/
def setA : SD := fun x y z st => match x with
  | .loc n => match cell st n with
    | some (.dct kvs) => (keyK y).bind fun k => if room (kvs.length + 1) then some (st.set n (some (.dct (setK kvs k z)))) else none
    | _ => setD x y z st
  | _ => setD x y z st
def rSetA : TSet := fun o i v H Q => rSetD o i v H Q ∨ rSetL o i v H Q
section
variable {X : Cx} {K : PySem.W.Frag} {mg : Str → Option Value}
theorem set_a (hu : X.A.units + 1 < cLine) : PSet X rSetA := by
  intro pins s σ H o i v ov iv u Q I ro ri rv h
  rcases h with h | h
  · exact set_dict hu pins s σ H o i v ov iv u Q I ro ri rv h
  · exact set_list pins s σ H o i v ov iv u Q I ro ri rv h
theorem s_setA : SSet K mg setA rSetA := by
  intro μ G F st st' H x y z v w u Q k rx ry rz e q
  unfold setA at e
  split at e
  · rename_i n
    split at e
    · rename_i kvs hc
      obtain ⟨a, ps, rfl, ha, hs, rp⟩ := dct_rep k rx hc
      cases hk : keyK y with
      | none => rw [hk] at e; cases e
      | some j =>
        rw [hk] at e
        have e' : (if room (kvs.length + 1) then some (st.set n (some (.dct (setK kvs j z)))) else none) = some st' := e
        split at e'
        · rename_i hr
          injection e' with e3
          subst e3
          rw [keyK_rep ry hk]
          refine .inl ⟨a, _, rfl, .k hs (by rw [repKV_length rp]; exact room_lt (by omega)), q _ (k.write (cell_some hc) ha ⟨_, rfl, repKV_put rz rp⟩)⟩
        · cases e'
    · exact .inr (s_setL μ G F st st' H _ y z v w u Q k rx ry rz e q)
  · exact .inr (s_setL μ G F st st' H _ y z v w u Q k rx ry rz e q)
end
/-! ### displays -/
abbrev EPs := Vars → Store → Re (List (D × D))
def pNil : EPs := fun _ st => .ok [] st
def pCons (k v : EM) (r : EPs) : EPs := fun vs st => (k vs st).bind fun x st => (v vs st).bind fun y st => (r vs st).bind fun ps st => .ok ((x, y) :: ps) st
def keysK : List (D × D) → Option (List (Key × D))
  | [] => some []
  | (k, d) :: r => (keyK k).bind fun k => (keysK r).map fun r => (k, d) :: r
def mergeD (kvs more : List (Key × D)) : List (Key × D) := more.foldl (fun acc kv => setK acc kv.1 kv.2) kvs
def eDsp (ps : EPs) : EM := fun vs st => (ps vs st).bind fun ps st => match keysK ps with
  | some kvs => .ok (.loc st.length) (st ++ [some (.dct (mergeD [] kvs))])
  | none => .bad
def RepPs (K : PySem.W.Frag) (μ : List Addr) (G : Hp) : List (D × D) → List (V × V) → Prop
  | [], ws => ws = []
  | (k, d) :: r, ws => ∃ x y t, ws = (x, y) :: t ∧ Rep K μ G k x ∧ Rep K μ G d y ∧ RepPs K μ G r t
theorem RepPs.fut {K : PySem.W.Frag} {μ μ' : List Addr} {G G' : Hp} (f : Fut μ G μ' G') : ∀ {l : List (D × D)} {ws : List (V × V)}, RepPs K μ G l ws → RepPs K μ' G' l ws
  | [], _, h => h
  | (k, d) :: r, ws, h => by
    obtain ⟨x, y, t, e, h1, h2, h3⟩ := h
    exact ⟨x, y, t, e, h1.fut f, h2.fut f, RepPs.fut f h3⟩
abbrev tPs (K : PySem.W.Frag) (mg : Str → Option Value) (W : WX) (m : EPs) : L2.St → Hp → (List (V × V) → Hp → Prop) → Prop := fun σ H Q => ∃ vs st μ G F, RepE K μ G vs σ ∧ Kn K mg μ G F st H ∧ Done K mg W σ μ G F (m vs st) fun μ' G' ps _ H' => ∀ ws, RepPs K μ' G' ps ws → Q ws H'
/-- the pairs of a display -/
structure MPs (X : Cx) (W : WX) (pos : Pos) (keys : List (Option Expr)) (values : List Expr) (m : EPs) : Prop where
  ex : ∃ trs, PPs X pos keys values trs ∧ ∀ σ H Q, tPs X.K X.mg W m σ H Q → tPairs trs σ H Q
section
variable {X : Cx} {W : WX} {pos : Pos} {k v : Expr} {ks : List (Option Expr)} {vs : List Expr} {mk mv : EM} {mr : EPs}
theorem mp_nil : MPs X W pos [] [] pNil := ⟨[], pps_nil, fun σ H Q h => by
  obtain ⟨vs, st, μ, G, F, re, k, h⟩ := h
  exact Done.here k h [] rfl⟩
theorem mp_cons (hk : ME X W k mk) (hv : ME X W v mv) (hr : MPs X W pos ks vs mr) : MPs X W pos (some k :: ks) (v :: vs) (pCons mk mv mr) := by
  obtain ⟨trs, h1, h2⟩ := hr.ex
  refine ⟨_, pps_cons hk hv h1, fun σ H Q h => ?_⟩
  obtain ⟨vs, st, μ, G, F, re, kn, h⟩ := h
  refine ⟨vs, st, μ, G, F, re, kn, (Done.bind h).mono fun μ1 G1 x st1 H1 f1 k1 q1 u ru => ?_⟩
  refine ⟨vs, st1, μ1, G1, F, re.fut f1, k1, (Done.bind q1).mono fun μ2 G2 y st2 H2 f2 k2 q2 w rw' => ?_⟩
  refine h2 σ H2 _ ⟨vs, st2, μ2, G2, F, (re.fut f1).fut f2, k2, (Done.bind q2).mono fun μ3 G3 ps st3 H3 f3 k3 q3 ws rws => ?_⟩
  exact Done.here k3 q3 _ ⟨u, w, ws, rfl, (ru.fut f2).fut f3, rw'.fut f3, rws⟩
theorem keys_rep {K : PySem.W.Frag} {μ : List Addr} {G : Hp} : ∀ {ps : List (D × D)} {ws : List (V × V)} {kvs : List (Key × D)}, RepPs K μ G ps ws → keysK ps = some kvs → ∃ qs : List (Key × V), ws = qs.map (fun kv => (kV kv.1, kv.2)) ∧ RepKV K μ G kvs qs
  | [], ws, kvs, h, e => by
    have : ws = [] := h
    subst this
    injection e with e
    subst e
    exact ⟨[], rfl, rfl⟩
  | (k, d) :: r, ws, kvs, h, e => by
    obtain ⟨x, y, t, rfl, h1, h2, h3⟩ := h
    unfold keysK at e
    cases hk : keyK k with
    | none => rw [hk] at e; cases e
    | some q =>
      rw [hk] at e
      have e' : ((keysK r).map fun r => (q, d) :: r) = some kvs := e
      cases hr : keysK r with
      | none => rw [hr] at e'; cases e'
      | some rs =>
        rw [hr] at e'
        injection e' with e'
        subst e'
        obtain ⟨qs, rfl, rq⟩ := keys_rep h3 hr
        exact ⟨(q, y) :: qs, by rw [keyK_rep h1 hk]; rfl, ⟨y, qs, rfl, h2, rq⟩⟩
theorem repKV_merge {K : PySem.W.Frag} {μ : List Addr} {G : Hp} : ∀ {more : List (Key × D)} {ms : List (Key × V)} {kvs : List (Key × D)} {ps : List (Key × V)}, RepKV K μ G more ms → RepKV K μ G kvs ps → RepKV K μ G (mergeD kvs more) (mergeK ps ms)
  | [], ms, kvs, ps, h, h' => by
    have : ms = [] := h
    subst this
    exact h'
  | (k, d) :: r, ms, kvs, ps, h, h' => by
    obtain ⟨v, s, rfl, hv, t⟩ := h
    have := repKV_merge t (repKV_put (k := k) hv h')
    exact this
theorem keysK_length : ∀ {ps : List (D × D)} {kvs : List (Key × D)}, keysK ps = some kvs → kvs.length = ps.length
  | [], kvs, e => by injection e with e; subst e; rfl
  | (k, d) :: r, kvs, e => by
    unfold keysK at e
    cases hk : keyK k with
    | none => rw [hk] at e; cases e
    | some q =>
      rw [hk] at e
      have e' : ((keysK r).map fun r => (q, d) :: r) = some kvs := e
      cases hr : keysK r with
      | none => rw [hr] at e'; cases e'
      | some rs =>
        rw [hr] at e'
        injection e' with e'
        subst e'
        rw [List.length_cons, List.length_cons, keysK_length hr]
theorem repPs_length {K : PySem.W.Frag} {μ : List Addr} {G : Hp} : ∀ {ps : List (D × D)} {ws : List (V × V)}, RepPs K μ G ps ws → ws.length = ps.length
  | [], ws, h => by
    have : ws = [] := h
    subst this
    rfl
  | (k, d) :: r, ws, h => by
    obtain ⟨x, y, t, rfl, _, _, h3⟩ := h
    rw [List.length_cons, List.length_cons, repPs_length h3]
end
/-- as many pairs as are written -/
def PLen (m : EPs) (n : Nat) : Prop := ∀ vs st ps st', m vs st = .ok ps st' → ps.length = n
theorem plen_nil : PLen pNil 0 := fun _ _ _ _ h => by injection h with h _; subst h; rfl
theorem plen_cons {k v : EM} {r : EPs} {n : Nat} (h : PLen r n) : PLen (pCons k v r) (n + 1) := by
  intro vs st ps st' e
  unfold pCons at e
  cases h1 : k vs st with
  | bad => rw [h1] at e; cases e
  | exc _ _ => rw [h1] at e; cases e
  | ok x s1 =>
    rw [h1] at e
    simp only [Re.bind] at e
    cases h2 : v vs s1 with
    | bad => rw [h2] at e; cases e
    | exc _ _ => rw [h2] at e; cases e
    | ok y s2 =>
      rw [h2] at e
      simp only [Re.bind] at e
      cases h3 : r vs s2 with
      | bad => rw [h3] at e; cases e
      | exc _ _ => rw [h3] at e; cases e
      | ok qs s3 =>
        rw [h3] at e
        simp only [Re.bind] at e
        injection e with e _
        subst e
        rw [List.length_cons, h _ _ _ _ h3]
section
variable {X : Cx} {W : WX} {pos : Pos} {keys : List (Option Expr)} {values : List Expr} {m : EPs} {n : Nat}
theorem m_dsp (h : MPs X W pos keys values m) (hn : PLen m n := by repeat (first | exact plen_nil | refine plen_cons ?_)) (h15 : n ≤ 15 := by decide) (hall : keys.all (·.isSome) = true := by rfl) (hl : keys.length = values.length := by rfl) (h0 : keys ≠ [] := by exact fun z => nomatch z) (hk15 : keys.length ≤ 15 := by decide) :
    ME X W (.Dict keys values pos) (eDsp m) := by
  obtain ⟨trs, h1, h2⟩ := h.ex
  refine (pe_disp h1 hall hl h0 hk15).of fun σ H Q q p hp => ?_
  obtain ⟨vs, st, μ, G, F, re, k, q⟩ := q
  have fp : F p = none := k.fr.free hp
  refine h2 σ _ _ ⟨vs, st, μ, G, upd F p (.dK []), re, k.guard hp, ?_⟩
  unfold eDsp at q
  cases hd : m vs st with
  | bad => rw [hd] at q; exact q.elim
  | exc e st1 =>
    rw [hd] at q
    intro μ1 G1 H1 cls dd f1 k1 rx
    exact q μ1 G1 H1 cls dd f1 (k1.unguard fp) rx
  | ok ps st1 =>
    rw [hd] at q
    intro μ1 G1 H1 f1 k1 ws rws
    refine ⟨k1.gat, ?_⟩
    have q1 : Done X.K X.mg W σ μ1 G1 F (match keysK ps with | some kvs => .ok (.loc st1.length) (st1 ++ [some (.dct (mergeD [] kvs))]) | none => .bad) (Fin X.K Q) := Done.fut f1 q
    cases hk : keysK ps with
    | none => rw [hk] at q1; exact q1.elim
    | some kvs =>
      rw [hk] at q1
      obtain ⟨qs, rfl, rq⟩ := keys_rep rws hk
      have e1 : ps.length = n := hn _ _ _ _ hd
      have e2 := repKV_length rq
      have e3 := keysK_length hk
      refine ⟨qs, rfl, by omega, ?_⟩
      have k2 := (k1.reguard (o' := .dK (mergeK [] qs))).place (ob := .dct (mergeD [] kvs)) fp ⟨_, rfl, repKV_merge rq rfl⟩
      refine q1 (μ1 ++ [p]) G1 _ ⟨⟨[p], rfl⟩, .refl G1⟩ k2 _ (.loc ?_)
      rw [← k1.len, List.getElem?_append_right (Nat.le_refl _), Nat.sub_self]
      rfl
/-- {} -/
def eDnw : EM := fun _ st => .ok (.loc st.length) (st ++ [some (.dct [])])
theorem m_dnw : ME X W (.Dict [] [] pos) eDnw := pe_dnewK.of fun σ H Q h p hp => by
  obtain ⟨vs, st, μ, G, F, re, k, h⟩ := h
  refine h (μ ++ [p]) G _ ⟨⟨[p], rfl⟩, .refl G⟩ (k.alloc hp ⟨_, rfl, rfl⟩) _ (.loc ?_)
  rw [← k.len, List.getElem?_append_right (Nat.le_refl _), Nat.sub_self]
  rfl
end
/-! ### d.get -/
def isDct (st : Store) : D → Bool
  | .loc n => match cell st n with
    | some (.dct _) => true
    | _ => false
  | _ => false
def eGet1 (o a : EM) : EM := fun vs st => (o vs st).bind fun x st => if isDct st x = true then (a vs st).bind fun y st => match dGet st x y with
  | some o => .ok (o.getD .non) st
  | none => .bad else .bad
def eGet2 (o a b : EM) : EM := fun vs st => (o vs st).bind fun x st => if isDct st x = true then (a vs st).bind fun y st => (b vs st).bind fun z st => match dGet st x y with
  | some o => .ok (o.getD z) st
  | none => .bad else .bad
section
variable {X : Cx} {W : WX} {o e f : Expr} {apos cpos : Pos} {mo me mf : EM}
theorem isDct_rep {K : PySem.W.Frag} {mg : Str → Option Value} {μ : List Addr} {G F : Hp} {st : Store} {H : Hp} {x : D} {v : V} (k : Kn K mg μ G F st H) (r : Rep K μ G x v) (h : isDct st x = true) : ∃ a, v = .ref a ∧ IsD H a := by
  cases x with
  | loc n =>
    unfold isDct at h
    simp only at h
    split at h
    · rename_i kvs hc
      obtain ⟨a, ps, rfl, _, hs, _⟩ := dct_rep k r hc
      exact ⟨a, rfl, .inl ⟨ps, .of hs⟩⟩
    · cases h
  | _ => cases h
theorem relO_getD {K : PySem.W.Frag} {μ : List Addr} {G : Hp} {o : Option D} {o' : Option V} {d : D} {z : V} (r : relO K μ G o o') (rd : Rep K μ G d z) : Rep K μ G (o.getD d) (o'.getD z) := by
  cases o with
  | none => have : o' = none := r; rw [this]; exact rd
  | some d => obtain ⟨v, rfl, h⟩ := r; exact h
theorem m_get1 (hu : X.A.units + 1 < cLine) (ho : ME X W o mo) (he : ME X W e me) (m : M1 X o "get" apos e cpos := by exact ⟨rfl, rfl, rfl, rfl⟩) : ME X W (.Call (.Attribute o "get" apos) [e] [] cpos) (eGet1 mo me) := (pe_dget1 hu ho he m).of fun σ H Q h => by
  obtain ⟨vs, st, μ, G, F, re, k, h⟩ := h
  refine ⟨vs, st, μ, G, F, re, k, (Done.bind h).mono fun μ1 G1 x st1 H1 f1 k1 h1 v rv => ?_⟩
  obtain ⟨hd, h1⟩ := ite_done h1
  obtain ⟨a, rfl, isd⟩ := isDct_rep k1 rv hd
  refine ⟨a, rfl, isd, vs, st1, μ1, G1, F, re.fut f1, k1, (Done.bind h1).mono fun μ2 G2 y st2 H2 f2 k2 h2 w rw' => ?_⟩
  split at h2
  · rename_i o e
    obtain ⟨a', o', e', g, ro⟩ := dGet_rep k2 (rv.fut f2) rw' e
    cases e'
    exact ⟨o', g, fin_here k2 h2 (relO_getD ro .non)⟩
  · exact h2.elim
theorem m_get2 (hu : X.A.units + 1 < cLine) (ho : ME X W o mo) (he : ME X W e me) (hf : ME X W f mf) (m : M2 X o "get" apos e f cpos := by exact ⟨rfl, rfl, rfl, rfl⟩) : ME X W (.Call (.Attribute o "get" apos) [e, f] [] cpos) (eGet2 mo me mf) := (pe_dget2 hu ho he hf m).of fun σ H Q h => by
  obtain ⟨vs, st, μ, G, F, re, k, h⟩ := h
  refine ⟨vs, st, μ, G, F, re, k, (Done.bind h).mono fun μ1 G1 x st1 H1 f1 k1 h1 v rv => ?_⟩
  obtain ⟨hd, h1⟩ := ite_done h1
  obtain ⟨a, rfl, isd⟩ := isDct_rep k1 rv hd
  refine ⟨a, rfl, isd, vs, st1, μ1, G1, F, re.fut f1, k1, (Done.bind h1).mono fun μ2 G2 y st2 H2 f2 k2 h2 w rw' => ?_⟩
  refine ⟨vs, st2, μ2, G2, F, (re.fut f1).fut f2, k2, (Done.bind h2).mono fun μ3 G3 z st3 H3 f3 k3 h3 u ru => ?_⟩
  split at h3
  · rename_i o e
    obtain ⟨a', o', e', g, ro⟩ := dGet_rep k3 ((rv.fut f2).fut f3) (rw'.fut f3) e
    cases e'
    exact ⟨o', g, fin_here k3 h3 (relO_getD ro ru)⟩
  · exact h3.elim
end
end Dn
namespace Dn
open PySem PySem.Spec PyProof.Rows L2

/-! ### l.index(x) -/
def idxB (x : D) : List D → Nat → Option Nat
  | [], _ => none
  | y :: r, j => if eqvD y x = true then some j else idxB x r (j + 1)
def indexD (x : D) (xs : List D) (st : Store) : Re D := match xs with
  | [y] => opt (lstOf st x) fun ds => if okd 60 y = true ∧ ds.all (okd 59) = true then opt (idxB y ds 0) fun j => .ok (.int (j : Nat)) st else .bad
  | _ => .bad
theorem idxB_some {x : D} : ∀ {ds : List D} {j n : Nat}, idxB x ds n = some j → n ≤ j ∧ (∃ z, ds[j - n]? = some z ∧ eqvD z x = true) ∧ ∀ (m : Nat) (z' : D), m < j - n → ds[m]? = some z' → eqvD z' x = false
  | [], _, _, h => by cases h
  | y :: r, j, n, h => by
    unfold idxB at h
    split at h
    · rename_i e
      injection h with h
      subst h
      refine ⟨Nat.le_refl _, ⟨y, by rw [Nat.sub_self]; rfl, e⟩, fun m z' hm _ => ?_⟩
      rw [Nat.sub_self] at hm
      exact absurd hm (Nat.not_lt_zero _)
    · rename_i e
      obtain ⟨h1, ⟨z, hz, ez⟩, h3⟩ := idxB_some h
      have e1 : j - n = (j - (n + 1)) + 1 := by omega
      refine ⟨by omega, ⟨z, by rw [e1]; exact hz, ez⟩, fun m z' hm hz' => ?_⟩
      cases m with
      | zero =>
        have e2 : y = z' := by simpa using hz'
        rw [← e2]
        exact Bool.eq_false_iff.mpr e
      | succ m => exact h3 m z' (by omega) (by simpa using hz')
theorem pds_get (ds : List D) (i : Nat) : (pds ds)[i]? = (ds[i]?).map pd := by rw [pds_map, List.getElem?_map]
section
variable {X : Cx} {K : PySem.W.Frag} {mg : Str → Option Value}
theorem lst_dp {μ : List Addr} {G F : Hp} {st : Store} {H : Hp} {x : D} {v : V} {ds : List D} (k : Kn K mg μ G F st H) (r : Rep K μ G x v) (e : lstOf st x = some ds) (h : ds.all (okd 59) = true) : ∃ a, v = .ref a ∧ Dp K H (.ref a) (.list (pds ds)) := by
  obtain ⟨a, vs, rfl, hs, rs⟩ := lstOf_rep k r e
  exact ⟨a, rfl, .lst (.of hs) (reps_dps k.ex 59 ds vs h rs)⟩
theorem shaped_lst {ds : List D} (h : ds.all (okd 59) = true) : SeqAt.shaped (.list (pds ds)) = true := okd_shaped (d := .lst ds) (by simpa [okd] using h)
theorem s_index : SM2 K mg indexD (rIndexD K) := by
  intro W σ μ G F st H x v xs vs Q k rv rs h
  unfold indexD at h
  split at h
  · rename_i y
    obtain ⟨ds, e, h⟩ := opt_done h
    obtain ⟨⟨h1, h2⟩, h⟩ := ite_done h
    obtain ⟨j, ej, h⟩ := opt_done h
    obtain ⟨w, rfl, rw'⟩ := reps_one rs
    obtain ⟨a, rfl, hd⟩ := lst_dp k rv e h2
    obtain ⟨_, ⟨z, hz, ez⟩, hno⟩ := idxB_some ej
    rw [Nat.sub_zero] at hz hno
    refine ⟨a, w, pd y, pds ds, j, pd z, rfl, rfl, hd, rep_dp k.ex 60 y w h1 rw', shaped_lst h2, okd_shaped h1, by rw [pds_get, hz]; rfl, ez, fun m z' hm hz' => ?_, fin_here k h .int⟩
    rw [pds_get] at hz'
    cases e2 : ds[m]? with
    | none => rw [e2] at hz'; cases hz'
    | some z2 =>
      rw [e2] at hz'
      have e3 : pd z2 = z' := by simpa using hz'
      rw [← e3]
      exact hno m z2 hm e2
  · exact h.elim
end
/-- T.index(x), T a module's tuple of texts -/
def eIxT (zs : List Str) (a : EMs) : EM := fun vs st => (a vs st).bind fun xs st => match xs with
  | [.str z] => if z ∈ zs then .ok (.int (zs.idxOf z : Nat)) st else .bad
  | _ => .bad
/-- a module's tuple of texts -/
structure CstT (K : PySem.W.Frag) (mg : Str → Option Value) (x : Str) (zs : List Str) : Prop where
  ex : ∃ a o, mg x = some (.ref a) ∧ K.lookup a = some o ∧ o.cls = .type "tuple" ∧ o.dict = none ∧ ∀ H, SqT K H a (zs.map V.str)
theorem idx_first {z : Str} : ∀ {zs : List Str}, z ∈ zs → zs[zs.idxOf z]? = some z ∧ ∀ m, m < zs.idxOf z → zs[m]? ≠ some z := by
  intro zs hz
  have hl := List.idxOf_lt_length_of_mem hz
  refine ⟨by rw [List.getElem?_eq_getElem hl, List.getElem_idxOf hl], fun m hm e => ?_⟩
  obtain ⟨hm2, e2⟩ := List.getElem?_eq_some_iff.mp e
  have := List.not_of_lt_findIdx (p := (· == z)) (xs := zs) (i := m) (by simpa [List.idxOf] using hm)
  rw [e2] at this
  simp at this
section
variable {X : Cx} {W : WX} {e : Expr} {ms : EMs} {x : Str} {zs : List Str} {p apos cpos : Pos}
theorem m_ixT (c : CstT X.K X.mg x zs) (ha : MA X W [e] ms) (hg : Gl X x := by rfl) (hd : (x == ("__debug__" : Str)) = false := by decide)
    (hbase : attributeBase (.Name x p) "index" X.env (eval (.Name x p) X.env) = eval (.Name x p) X.env := by rfl)
    (hfew : ((backTo cpos (starEach [e] X.env)).all (fun x => !x.1) && (backToKw cpos (keywordEach [] X.env)).all (fun x => x.1.isSome)
      && decide (([e] : List Expr).length + ([] : List Keyword).length + (if ([] : List Keyword).isEmpty then 0 else 1) < 30)) = true := by rfl)
    (hline : (apos.endLine == cpos.line) = true := by rfl) (hst : starEach [e] X.env = (false, eval e X.env) :: starEach [] X.env := by rfl) (hplain : (backTo cpos (starEach [] X.env)).any (·.1) = false := by rfl) :
    ME X W (.Call (.Attribute (.Name x p) "index" apos) [e] [] cpos) (eIxT zs ms) := by
  obtain ⟨a, o, h1, h2, h3, h4, h5⟩ := c.ex
  refine (pe_bm PySem.F.plainAttrs_tuple PySem.F.slot_tuple_index (by rfl) mt_tup_index (pe_glob hg h1 (show RelV (V.ref a) (Value.ref a) from rfl) hd) ha hbase hfew hline hst hplain).of fun σ H Q h => ?_
  obtain ⟨vs, st, μ, G, F, re, k, h⟩ := h
  refine ⟨.inr (.inl ⟨rfl, o, h2, h3, h4⟩), vs, st, μ, G, F, re, k, (Done.bind h).mono fun μ1 G1 xs st1 H1 f1 k1 q1 ws rws => ?_⟩
  split at q1
  · rename_i z
    obtain ⟨hz, q1⟩ := ite_done q1
    obtain ⟨v, rfl, rv⟩ := reps_one rws
    rw [rep_str rv]
    obtain ⟨i1, i2⟩ := idx_first hz
    exact ⟨a, zs, z, zs.idxOf z, rfl, rfl, h5 H1, i1, i2, fin_here k1 q1 .int⟩
  · exact q1.elim
end
/-! ### calls of defs, in one piece -/
/-- a def of the module -/
def Cal (P : Program) (w : World) (K : PySem.W.Frag) (mg : Str → Option Value) (base : Heap) (x : Str) (k : Nat) (ps : List Str) (m : FnD) : Prop :=
  ∃ fa fd, FnM P w K mg base k fa fd ps m ∧ mg x = some (.ref fa) ∧ PySem.W.keepIn K (.ref fa) = true ∧ Binds K fd ps []
theorem Cal.mono {P : Program} {w : World} {K : PySem.W.Frag} {mg : Str → Option Value} {base : Heap} {x : Str} {j k : Nat} {ps : List Str} {m : FnD} (c : Cal P w K mg base x j ps m) (h : j ≤ k) : Cal P w K mg base x k ps m := by
  obtain ⟨fa, fd, h1, h2, h3, h4⟩ := c
  exact ⟨fa, fd, h1.mono h, h2, h3, h4⟩
section
variable {X : Cx} {W : WX} {e : Expr} {es : List Expr} {ms : EMs} {x : Str} {ps : List Str} {k : Nat} {m : FnD} {p pos : Pos}
theorem m_cal (c : Cal X.prog X.w X.K X.mg X.base x k ps m) (hr : Room k X.A) (tk : Takes X W) (ha : MA X W (e :: es) ms) (hms : ALen ms ps.length := by repeat constructor) (hg : Gl X x := by rfl) (hdb : (x == ("__debug__" : Str)) = false := by decide)
    (he : starEach (e :: es) X.env = (false, eval e X.env) :: starEach es X.env := by rfl) (hpl : (backTo pos (starEach es X.env)).any (·.1) = false := by rfl) : ME X W (.Call (.Name x p) (e :: es) [] pos) (eN m ms) := by
  obtain ⟨fa, fd, h1, h2, h3, h4⟩ := c
  exact m_call h1 hr h2 h3 h4 tk ha hms hg hdb he hpl
end
theorem tk0 {X : Cx} : Takes X W0 := fun _ _ x => by
  obtain ⟨_, _, _, _, _, _, _, _, _, _, _, _, _, _, _, _, z⟩ := x
  exact z.elim
theorem hu65 {k : Nat} {A : Around} (r : Room k A) : A.units + 65 < cLine := by have := r.un; omega
theorem hu64 {k : Nat} {A : Around} (r : Room k A) : A.units + 64 < cLine := by have := r.un; omega
theorem hu1 {k : Nat} {A : Around} (r : Room k A) : A.units + 1 < cLine := by have := r.un; omega
/-- a def that never answers -/
theorem fnM_bad {P : Program} {w : World} {K : PySem.W.Frag} {mg : Str → Option Value} {base : Heap} {k : Nat} {fa : Addr} {fd : FuncData} {ps : List Str} : FnM P w K mg base k fa fd ps (fun _ _ => .bad) :=
  ⟨fun vs H Q E h => h.1, fun A outer s H args us vs Q E _ _ _ _ h => by
    obtain ⟨_, ds, st, μ, G, F, _, _, h⟩ := h
    exact h.elim⟩
end Dn
namespace Dn
open PySem PySem.Spec PyProof.Rows L2
theorem rv_int {i : Int} {t : Tok} : RelV (.int i) (.int i t) := ⟨t, rfl⟩
theorem rv_str {i : Str} {t : Tok} : RelV (.str i) (.str i t) := ⟨t, rfl⟩
theorem rv_non : RelV .non .none := rfl
theorem rv_bl {b : Bool} : RelV (.bl b) (.bool b) := rfl
theorem rv_ref {a : Addr} : RelV (.ref a) (.ref a) := rfl
theorem cx_false {P : Program} {w : World} {H : Hp} {s : Shared} {e : Value} {s' : Shared} (h : L2.CX P w [] H s (fun _ _ _ => False) e s') : False := by
  obtain ⟨_, _, _, _, _, _, _, _, _, _, _, _, h⟩ := h
  exact h
theorem law_start {K : PySem.W.Frag} {mg : Str → Option Value} {H : Hp} {a : Addr} {ns : List Int} {m : FnD} {st : Store} {Q : VK} {E : XK} (hs : SqL K H a (ns.map V.int)) (e : m [.frz (ns.map D.int)] [] = .ok (.bl true) st) (q : ∀ H2, Q (.bl true) H2) :
    spD K mg 1 m [.ref a] H Q E := by
  refine ⟨rfl, [.frz (ns.map D.int)], [], [], H, fun _ => none, .cons (.frz hs .ints) .nil, ⟨.refl H, fun _ _ h => (nomatch h), fun _ _ h => (nomatch h), rfl, .nil, fun n ob h => (by simp at h), fun a h => (by simp at h), fun a h => (by simp at h)⟩, ?_⟩
  rw [e]
  intro μ1 G1 H1 _ _ z rz
  rw [rep_bl rz]
  exact q H1
end Dn
namespace Dn
open PySem PySem.Spec PyProof.Rows L2

/-! ### what a denotation gives -/
def wpQ {α : Type} (r : Re α) (Q : α → Store → Prop) : Prop := match r with
  | .ok a st => Q a st
  | _ => False
structure wp {α : Type} (r : Re α) (Q : α → Store → Prop) (_ : Lk Q := Unit.unit) : Prop where
  of : wpQ r Q
/-- a statement's ways out -/
structure Po where
  n : Vars → Store → Prop
  r : D → Store → Prop
  b : Vars → Store → Prop
  c : Vars → Store → Prop
def wpSQ (r : Rs) (P : Po) : Prop := match r with
  | .nx vs st => P.n vs st
  | .ret d st => P.r d st
  | .brk vs st => P.b vs st
  | .ct vs st => P.c vs st
  | _ => False
structure wpS (r : Rs) (P : Po) (_ : Lk P := Unit.unit) : Prop where
  of : wpSQ r P
theorem wp_q {α : Type} {r : Re α} {Q : α → Store → Prop} : wp r Q = wpQ r Q := propext ⟨fun h => h.of, fun h => ⟨h⟩⟩
theorem wpS_q {r : Rs} {P : Po} : wpS r P = wpSQ r P := propext ⟨fun h => h.of, fun h => ⟨h⟩⟩
section
variable {α β : Type} {r : Re α} {Q Q' : α → Store → Prop}
theorem wp_mono (h : wp r Q) (k : ∀ a st, Q a st → Q' a st) : wp r Q' := by
  cases r with
  | ok a st => exact ⟨k a st h.of⟩
  | _ => exact ⟨h.of⟩
@[simp] theorem wp_ok {a : α} {st : Store} : wp (.ok a st) Q = Q a st := by rw [wp_q]; rfl
theorem wp_bad : wp (.bad : Re α) Q = False := by rw [wp_q]; rfl
theorem wp_exc {e : Exn} {st : Store} : wp (.exc e st : Re α) Q = False := by rw [wp_q]; rfl
@[simp] theorem wp_bind {k : α → Store → Re β} {Q : β → Store → Prop} : wp (r.bind k) Q = wp r fun a st => wp (k a st) Q := by
  cases r with
  | bad => rw [wp_bad]; exact wp_bad
  | exc e st => rw [wp_exc]; exact wp_exc
  | ok a st => rw [wp_ok]; rfl
@[simp] theorem wp_okk {k : α → Store → Re β} {Q : β → Store → Prop} : wp (r.okk k) Q = wp r fun a st => wp (k a st) Q := by
  cases r with
  | bad => rw [wp_bad]; exact wp_bad
  | exc e st => rw [wp_exc]; exact wp_bad
  | ok a st => rw [wp_ok]; rfl
@[simp] theorem bind_ok {a : α} {st : Store} {k : α → Store → Re β} : Re.bind (.ok a st) k = k a st := by rw [Re.bind.eq_def]
@[simp] theorem bind_exc {e : Exn} {st : Store} {k : α → Store → Re β} : Re.bind (.exc e st) k = .exc e st := by rw [Re.bind.eq_def]
@[simp] theorem okk_ok {a : α} {st : Store} {k : α → Store → Re β} : Re.okk (.ok a st) k = k a st := by rw [Re.okk.eq_def]
@[simp] theorem thn_ok {a : α} {st : Store} {vs : Vars} {k : α → Store → Rs} : Re.thn (.ok a st) vs k = k a st := by rw [Re.thn.eq_def]
@[simp] theorem thn_exc {e : Exn} {st : Store} {vs : Vars} {k : α → Store → Rs} : Re.thn (.exc e st : Re α) vs k = .exc e vs st := by rw [Re.thn.eq_def]
@[simp] theorem wpS_thn {vs : Vars} {k : α → Store → Rs} {P : Po} : wpS (r.thn vs k) P = wp r fun a st => wpS (k a st) P := by
  cases r with
  | bad => rw [wp_bad, wpS_q]; rfl
  | exc e st => rw [wp_exc, wpS_q]; rfl
  | ok a st => rw [wp_ok]; rfl
end
section
variable {r : Rs} {P P' : Po} {vs : Vars} {st : Store} {d : D} {b : SM}
theorem wpS_mono (h : wpS r P) (k1 : ∀ vs st, P.n vs st → P'.n vs st) (k2 : ∀ d st, P.r d st → P'.r d st) (k3 : ∀ vs st, P.b vs st → P'.b vs st) (k4 : ∀ vs st, P.c vs st → P'.c vs st) : wpS r P' := by
  cases r with
  | nx vs st => exact ⟨k1 _ _ h.of⟩
  | ret d st => exact ⟨k2 _ _ h.of⟩
  | brk vs st => exact ⟨k3 _ _ h.of⟩
  | ct vs st => exact ⟨k4 _ _ h.of⟩
  | _ => exact ⟨h.of⟩
@[simp] theorem wpS_nx : wpS (.nx vs st) P = P.n vs st := wpS_q
@[simp] theorem wpS_ret : wpS (.ret d st) P = P.r d st := wpS_q
@[simp] theorem wpS_brk : wpS (.brk vs st) P = P.b vs st := wpS_q
@[simp] theorem wpS_ct : wpS (.ct vs st) P = P.c vs st := wpS_q
theorem wpS_bad : wpS .bad P = False := wpS_q
theorem wpS_exc {e : Exn} : wpS (.exc e vs st) P = False := wpS_q
@[simp] theorem wpS_seq : wpS (r.seq b) P = wpS r { P with n := fun vs st => wpS (b vs st) P } := by
  cases r with
  | nx vs st => rw [wpS_nx]; rfl
  | bad => rw [wpS_bad]; exact wpS_bad
  | ret d st => rw [wpS_ret]; exact wpS_ret
  | brk d st => rw [wpS_brk]; exact wpS_brk
  | ct d st => rw [wpS_ct]; exact wpS_ct
  | exc e d st => rw [wpS_exc]; exact wpS_exc
@[simp] theorem seq_nx : Rs.seq (.nx vs st) b = b vs st := by rw [Rs.seq.eq_def]
@[simp] theorem seq_ret : Rs.seq (.ret d st) b = .ret d st := rfl
@[simp] theorem seq_brk : Rs.seq (.brk vs st) b = .brk vs st := rfl
@[simp] theorem seq_ct : Rs.seq (.ct vs st) b = .ct vs st := rfl
@[simp] theorem seq_exc {e : Exn} : Rs.seq (.exc e vs st) b = .exc e vs st := rfl
end
theorem wp_eq {α : Type} {r : Re α} {a : α} {st : Store} (h : wp r fun x s => x = a ∧ s = st) : r = .ok a st := by
  cases r with
  | ok x s => obtain ⟨⟨rfl, rfl⟩⟩ := h; rfl
  | _ => exact h.of.elim
theorem wp_ex {α : Type} {r : Re α} {Q : α → Store → Prop} (h : wp r Q) : ∃ a st, r = .ok a st ∧ Q a st := by
  cases r with
  | ok x s => exact ⟨x, s, rfl, h.of⟩
  | _ => exact h.of.elim

/-! ### terms -/
section
variable {vs : Vars} {st : Store} {a b c : EM} {as ms : EMs} {f g : D → D → Store → Re D} {h : D → Store → Re D} {x y : D} {i : Nat} {bb : Bool}
@[simp] theorem getV_zero {o : Option D} {r : Vars} : getV (o :: r) 0 = o := rfl
@[simp] theorem getV_succ {o : Option D} {r : Vars} {n : Nat} : getV (o :: r) (n + 1) = getV r n := rfl
@[simp] theorem eV_eq : eV i vs st = match getV vs i with | some d => .ok d st | none => .bad := rfl
@[simp] theorem eC_eq {d : D} : eC d vs st = .ok d st := rfl
@[simp] theorem e1_eq : e1 h a vs st = (a vs st).bind fun x st => h x st := rfl
@[simp] theorem e2_eq : e2 f a b vs st = (a vs st).bind fun x st => (b vs st).bind fun y st => f x y st := rfl
@[simp] theorem onB_true {t f : Re D} : onB (.bl true) t f = t := by rw [onB]
@[simp] theorem onB_false {t f : Re D} : onB (.bl false) t f = f := by rw [onB]
@[simp] theorem onS_true {t f : Rs} : onS (.bl true) t f = t := by rw [onS]
@[simp] theorem onS_false {t f : Rs} : onS (.bl false) t f = f := by rw [onS]
theorem wp_onB {t f : Re D} {Q : D → Store → Prop} : wp (onB (.bl bb) t f) Q ↔ (bb = true → wp t Q) ∧ (bb = false → wp f Q) := by cases bb <;> simp
theorem wpS_onS {t f : Rs} {P : Po} : wpS (onS (.bl bb) t f) P ↔ (bb = true → wpS t P) ∧ (bb = false → wpS f P) := by cases bb <;> simp
theorem onB_ok {u v : D} : onB (.bl bb) (.ok u st) (.ok v st) = .ok (if bb then u else v) st := by cases bb <;> rfl
@[simp] theorem eAnd_eq : eAnd a b vs st = (a vs st).bind fun x st => onB x (b vs st) (.ok (.bl false) st) := rfl
@[simp] theorem eOr_eq : eOr a b vs st = (a vs st).bind fun x st => onB x (.ok (.bl true) st) (b vs st) := rfl
@[simp] theorem eNot_eq : eNot a vs st = (a vs st).bind fun x st => onB x (.ok (.bl false) st) (.ok (.bl true) st) := rfl
@[simp] theorem not_bl : onB (.bl bb) (.ok (.bl false) st) (.ok (.bl true) st) = .ok (.bl !bb) st := by cases bb <;> rfl
@[simp] theorem and_bl {b2 : Bool} : onB (.bl bb) (.ok (.bl b2) st) (.ok (.bl false) st) = .ok (.bl (bb && b2)) st := by cases bb <;> rfl
@[simp] theorem or_bl {b2 : Bool} : onB (.bl bb) (.ok (.bl true) st) (.ok (.bl b2) st) = .ok (.bl (bb || b2)) st := by cases bb <;> rfl
@[simp] theorem eIf_eq : eIf c a b vs st = (c vs st).bind fun x st => onB x (a vs st) (b vs st) := rfl
@[simp] theorem eTru_eq : eTru a vs st = (a vs st).bind fun x st => match truthB st x with | some b => .ok (.bl b) st | none => .bad := rfl
@[simp] theorem truthB_bl : truthB st (.bl bb) = some bb := rfl
@[simp] theorem aNil_eq : aNil vs st = .ok [] st := rfl
@[simp] theorem aCons_eq : aCons a as vs st = (a vs st).bind fun x st => (as vs st).bind fun xs st => .ok (x :: xs) st := rfl
@[simp] theorem eTup_eq : eTup as vs st = (as vs st).bind fun xs st => if room xs.length then .ok (.tup xs) st else .bad := rfl
@[simp] theorem eLst_eq : eLst bb as vs st = (as vs st).bind fun xs st => if room xs.length then mkNew bb xs st else .bad := rfl
@[simp] theorem mkNew_f {ds : List D} : mkNew false ds st = .ok (.lst ds) st := rfl
@[simp] theorem mkNew_t {ds : List D} : mkNew true ds st = .ok (.loc st.length) (st ++ [some (.lst ds)]) := rfl
@[simp] theorem eN_eq {f : List D → Store → Re D} : eN f as vs st = (as vs st).bind fun xs st => f xs st := rfl
@[simp] theorem eChain_eq : eChain f g a b c vs st = (a vs st).bind fun x st => (b vs st).bind fun y st => (f x y st).bind fun z st => onB z ((c vs st).bind fun w st => g y w st) (.ok (.bl false) st) := rfl
@[simp] theorem oNone_eq : oNone vs st = .ok none st := rfl
@[simp] theorem oSome_eq : oSome a vs st = (a vs st).bind fun x st => match x with | .int i => .ok (some i) st | _ => .bad := rfl
@[simp] theorem eSl_eq {lo hi : Vars → Store → Re (Option Int)} : eSl bb a lo hi vs st = (a vs st).bind fun x st => (lo vs st).bind fun l st => (hi vs st).bind fun h st => sliceD bb x l h st := rfl
@[simp] theorem eM_eq {T : String} {f : D → List D → Store → Re D} : eM T f a as vs st = (a vs st).bind fun x st => if tyD T st x = true then (as vs st).bind fun xs st => f x xs st else .bad := rfl
@[simp] theorem tyD_lst {ds : List D} : tyD "list" st (.lst ds) = true := rfl
@[simp] theorem tyD_str {z : Str} : tyD "str" st (.str z) = true := rfl
@[simp] theorem tyD_loc {n : Nat} : tyD "list" st (.loc n) = (lstAt st n).isSome := rfl
@[simp] theorem sSeq_eq {s t : SM} : sSeq s t vs st = (s vs st).seq t := rfl
@[simp] theorem sNil_eq : sNil vs st = .nx vs st := rfl
@[simp] theorem sExpr_eq : sExpr a vs st = (a vs st).thn vs fun _ st => .nx vs st := rfl
@[simp] theorem sRet_eq : sRet a vs st = (a vs st).thn vs fun d st => .ret d st := rfl
@[simp] theorem sRetN_eq : sRetN vs st = .ret .non st := rfl
@[simp] theorem sBrk_eq : sBrk vs st = .brk vs st := rfl
@[simp] theorem sCt_eq : sCt vs st = .ct vs st := rfl
@[simp] theorem sIf_eq {s t : SM} : sIf c s t vs st = (c vs st).thn vs fun x st => onS x (s vs st) (t vs st) := rfl
@[simp] theorem gN_eq {d : D} : gN i d vs = some (vs.set i (some d)) := rfl
@[simp] theorem gT_eq {ts : List TM} {ds : List D} : gT ts (.tup ds) vs = gAll ts ds vs := rfl
@[simp] theorem gAll_nil : gAll [] [] vs = some vs := rfl
@[simp] theorem gAll_cons {t : TM} {ts : List TM} {d : D} {ds : List D} : gAll (t :: ts) (d :: ds) vs = (t d vs).bind fun vs => gAll ts ds vs := rfl
@[simp] theorem sAsg_eq {g : TM} : sAsg g a vs st = (a vs st).thn vs fun d st => match g d vs with | some vs => .nx vs st | none => .bad := rfl
@[simp] theorem sSub_eq {f : SD} {o j m : EM} : sSub f o j m vs st = (m vs st).thn vs fun v st => (o vs st).thn vs fun x st => (j vs st).thn vs fun y st => match f x y v st with | some st => .nx vs st | none => .bad := rfl
@[simp] theorem drp_nil : drp [] vs = vs := rfl
@[simp] theorem drp_cons {l : List Nat} : drp (i :: l) vs = drp l (vs.set i none) := rfl
@[simp] theorem eDsp_eq {ps : EPs} : eDsp ps vs st = (ps vs st).bind fun ps st => match keysK ps with | some kvs => .ok (.loc st.length) (st ++ [some (.dct (mergeD [] kvs))]) | none => .bad := rfl
@[simp] theorem eDnw_eq : eDnw vs st = .ok (.loc st.length) (st ++ [some (.dct [])]) := rfl
@[simp] theorem pNil_eq : pNil vs st = .ok [] st := rfl
@[simp] theorem pCons_eq {k v : EM} {r : EPs} : pCons k v r vs st = (k vs st).bind fun x st => (v vs st).bind fun y st => (r vs st).bind fun ps st => .ok ((x, y) :: ps) st := rfl
@[simp] theorem eGet1_eq : eGet1 a b vs st = (a vs st).bind fun x st => if isDct st x = true then (b vs st).bind fun y st => match dGet st x y with | some o => .ok (o.getD .non) st | none => .bad else .bad := rfl
@[simp] theorem eGet2_eq : eGet2 a b c vs st = (a vs st).bind fun x st => if isDct st x = true then (b vs st).bind fun y st => (c vs st).bind fun z st => match dGet st x y with | some o => .ok (o.getD z) st | none => .bad else .bad := rfl
@[simp] theorem eIxT_eq {zs : List Str} : eIxT zs as vs st = (as vs st).bind fun xs st => match xs with | [.str z] => if z ∈ zs then .ok (.int (zs.idxOf z : Nat)) st else .bad | _ => .bad := rfl
@[simp] theorem iE_eq : iE a vs st = (a vs st).bind fun x st => match itsOf st x with | some it => .ok it st | none => .bad := rfl
@[simp] theorem iEn_eq : iEn as vs st = (as vs st).bind fun xs st => match xs with | [x] => (match itsOf st x with | some it => .ok (enumP it.1, it.2) st | none => .bad) | _ => .bad := rfl
@[simp] theorem iR_eq : iR as vs st = (as vs st).bind fun xs st => match xs with
  | [.int j] => if fitR j then .ok (rng 0 j.toNat, []) st else .bad
  | [.int i, .int j] => if fitR i ∧ fitR j then .ok (rng i (j - i).toNat, []) st else .bad
  | _ => .bad := rfl
@[simp] theorem itsOf_tup {ds : List D} : itsOf st (.tup ds) = some (ds, []) := rfl
@[simp] theorem itsOf_lst {ds : List D} : itsOf st (.lst ds) = some (ds, []) := rfl
@[simp] theorem itsOf_frz {ds : List D} : itsOf st (.frz ds) = some (ds, []) := rfl
@[simp] theorem vars_eq {n : Nat} {ds : List D} : vars n ds = ds.map some ++ List.replicate (n - ds.length) none := rfl
theorem wp_fnD {n : Nat} {s : SM} {ds : List D} {Q : D → Store → Prop} : wp (fnD n s ds st) Q = wpS (s (vars n ds) st) ⟨fun _ st' => wp (gcRet st .non st') Q, fun d st' => wp (gcRet st d st') Q, fun _ _ => False, fun _ _ => False⟩ := by
  unfold fnD
  cases s (vars n ds) st with
  | exc e vs' st' =>
    rw [wpS_exc]
    show wp (gcExc st e st') Q = False
    unfold gcExc
    split
    · exact wp_exc
    · exact wp_bad
  | nx vs' st' => rw [wpS_nx]
  | ret d st' => rw [wpS_ret]
  | bad => rw [wpS_bad]; exact wp_bad
  | brk vs' st' => rw [wpS_brk]; exact wp_bad
  | ct vs' st' => rw [wpS_ct]; exact wp_bad
theorem wp_fnK {n : Nat} {s : SM} {ds : List D} {Q : D → Store → Prop} : wp (fnK n s ds st) Q = wpS (s (vars n ds) st) ⟨fun _ st' => Q .non st', fun d st' => Q d st', fun _ _ => False, fun _ _ => False⟩ := by
  unfold fnK
  cases s (vars n ds) st with
  | exc e vs' st' => rw [wpS_exc]; exact wp_exc
  | nx vs' st' => rw [wpS_nx]; exact wp_ok
  | ret d st' => rw [wpS_ret]; exact wp_ok
  | bad => rw [wpS_bad]; exact wp_bad
  | brk vs' st' => rw [wpS_brk]; exact wp_bad
  | ct vs' st' => rw [wpS_ct]; exact wp_bad
end
/-! ### values -/
section
variable {st : Store} {i j : Int} {b : Bool} {ds es : List D} {n : Nat} {y z : Str} {p q : Bool}
@[simp] theorem add_int : addD b (.int i) (.int j) st = .ok (.int (i + j)) st := rfl
@[simp] theorem add_str : addD b (.str y) (.str z) st = if room (y.length + z.length) then .ok (.str (y ++ z)) st else .bad := rfl
@[simp] theorem add_tup : addD b (.tup ds) (.tup es) st = if room (ds.length + es.length) then .ok (.tup (ds ++ es)) st else .bad := rfl
@[simp] theorem sub_int : subD (.int i) (.int j) st = .ok (.int (i - j)) st := rfl
@[simp] theorem mul_int : mulD b (.int i) (.int j) st = if (-(2 ^ 64) < i ∧ i < 2 ^ 64) ∨ (-(2 ^ 64) < j ∧ j < 2 ^ 64) then .ok (.int (i * j)) st else .bad := rfl
@[simp] theorem fdiv_int : fdivD (.int i) (.int j) st = if 0 < j ∧ j < 1073741824 then .ok (.int (i / j)) st else .bad := rfl
@[simp] theorem mod_int : modD (.int i) (.int j) st = if 0 < j then .ok (.int (i % j)) st else .bad := rfl
@[simp] theorem pow_int : powD (.int i) (.int j) st = if 0 ≤ j ∧ j ≤ 1000000 ∧ i.natAbs < 2 ^ 64 then .ok (.int (i ^ j.toNat)) st else .bad := rfl
@[simp] theorem eq_int : eqD (.int i) (.int j) st = .ok (.bl (decide (i = j))) st := rfl
@[simp] theorem eq_str : eqD (.str y) (.str z) st = .ok (.bl (decide (y = z))) st := rfl
@[simp] theorem eq_bl : eqD (.bl p) (.bl q) st = .ok (.bl (decide (p = q))) st := rfl
@[simp] theorem ne_int : neD (.int i) (.int j) st = .ok (.bl !(decide (i = j))) st := rfl
@[simp] theorem ne_str : neD (.str y) (.str z) st = .ok (.bl !(decide (y = z))) st := rfl
@[simp] theorem lt_int : ltD (.int i) (.int j) st = .ok (.bl (decide (i < j))) st := rfl
@[simp] theorem le_int : leD (.int i) (.int j) st = .ok (.bl (decide (i ≤ j))) st := rfl
@[simp] theorem gt_int : gtD (.int i) (.int j) st = .ok (.bl (decide (j < i))) st := rfl
@[simp] theorem ge_int : geD (.int i) (.int j) st = .ok (.bl (decide (j ≤ i))) st := rfl
@[simp] theorem neg_int : negD (.int i) st = .ok (.int (-i)) st := rfl
@[simp] theorem ixA_tup : ixA (.tup ds) (.int i) st = match atI ds i with | some d => .ok d st | none => .bad := rfl
@[simp] theorem ixA_lst : ixA (.lst ds) (.int i) st = match atI ds i with | some d => .ok d st | none => .bad := rfl
@[simp] theorem ixA_frz : ixA (.frz ds) (.int i) st = match atI ds i with | some d => .ok d st | none => .bad := rfl
theorem ixA_loc (h : lstAt st n = some ds) : ixA (.loc n) (.int i) st = match atI ds i with | some d => .ok d st | none => .bad := by
  have e1 : dGet st (.loc n) (.int i) = none := by
    unfold dGet
    simp only [lstAt_cell h]
  unfold ixA
  rw [e1]
  show ixD (.loc n) (.int i) st = _
  unfold ixD
  simp only [seqOf, h] <;> cases atI ds i <;> rfl
theorem ixA_dct {kvs : List (Key × D)} {k : D} {q : Key} {d : D} (h : cell st n = some (.dct kvs)) (e : keyK k = some q) (g : getK kvs q = some d) : ixA (.loc n) k st = .ok d st := by
  have e1 : dGet st (.loc n) k = some (some d) := by
    unfold dGet
    simp only [h, e, Option.map_some, g]
  unfold ixA
  rw [e1]
@[simp] theorem len_eq {x : D} : lenD [x] st = opt (lenB st x) fun n => .ok (.int n) st := rfl
@[simp] theorem lenB_tup : lenB st (.tup ds) = some ds.length := rfl
@[simp] theorem lenB_lst : lenB st (.lst ds) = some ds.length := rfl
@[simp] theorem lenB_frz : lenB st (.frz ds) = some ds.length := rfl
@[simp] theorem opt_some {α : Type} {a : α} {k : α → Re D} : opt (some a) k = k a := by rw [opt]
@[simp] theorem tuple_eq {x : D} : tupleD [x] st = opt (seqOf st x) fun ds => .ok (.tup ds) st := rfl
@[simp] theorem list_eq {x : D} : listD b [x] st = opt (seqOf st x) fun ds => mkNew b ds st := rfl
@[simp] theorem seqOf_tup : seqOf st (.tup ds) = some ds := rfl
@[simp] theorem seqOf_lst : seqOf st (.lst ds) = some ds := rfl
@[simp] theorem seqOf_frz : seqOf st (.frz ds) = some ds := rfl
@[simp] theorem seqOf_loc : seqOf st (.loc n) = lstAt st n := rfl
@[simp] theorem lstOf_lst : lstOf st (.lst ds) = some ds := rfl
@[simp] theorem lstOf_loc : lstOf st (.loc n) = lstAt st n := rfl
@[simp] theorem abs_int : absD [.int i] st = .ok (.int (if i < 0 then -i else i)) st := rfl
@[simp] theorem intD_int : intD [.int i] st = .ok (.int i) st := rfl
@[simp] theorem strD_int : strD [.int i] st = if i.natAbs.log2 < 1920 then .ok (.str (toString i)) st else .bad := rfl
@[simp] theorem append_eq {x : D} : appendD (.loc n) [x] st = opt (lstAt st n) fun ds => if room (ds.length + 1) then .ok .non (st.set n (some (.lst (ds ++ [x])))) else .bad := rfl
@[simp] theorem extend_eq {x : D} : extendD (.loc n) [x] st = opt (lstAt st n) fun ds => opt (lstOf st x) fun es => if room (ds.length + es.length) then .ok .non (st.set n (some (.lst (ds ++ es)))) else .bad := rfl
@[simp] theorem sl_tup {lo hi : Option Int} : sliceD b (.tup ds) lo hi st = .ok (.tup (cutD ds lo hi)) st := rfl
end
@[simp] theorem atI_pos {α : Type} {xs : List α} {i : Int} (h : 0 ≤ i) : atI xs i = xs[i.toNat]? := by
  unfold atI ixN
  rw [if_pos h]
  by_cases hl : i < xs.length
  · rw [if_pos hl]; rfl
  · rw [if_neg hl]
    have : xs[i.toNat]? = none := List.getElem?_eq_none (by omega)
    rw [this]; rfl
theorem ixN_pos {n : Nat} {k : Int} (h0 : 0 ≤ k) (h1 : k < n) : ixN n k = some k.toNat := by
  unfold ixN
  rw [if_pos h0, if_pos h1]
theorem setA_loc {st : Store} {n : Nat} {ds : List D} {k : Int} {z : D} (h : lstAt st n = some ds) : setA (.loc n) (.int k) z st = (ixN ds.length k).bind fun j => some (st.set n (some (.lst (ds.set j z)))) := by
  unfold setA
  simp only [lstAt_cell h]
  unfold setD
  simp only [h]
  rfl
/-! ### stores -/
section
variable {st0 l : Store} {i : Nat} {o : Option Ob}
@[simp] theorem cell_zero : cell (o :: l) 0 = o := by cases o <;> rfl
@[simp] theorem cell_succ : cell (o :: l) (i + 1) = cell l i := rfl
@[simp] theorem cell_app : cell (st0 ++ l) (st0.length + i) = cell l i := by
  unfold cell
  rw [List.getElem?_append_right (Nat.le_add_right _ _), Nat.add_sub_cancel_left]
@[simp] theorem cell_app0 : cell (st0 ++ l) st0.length = cell l 0 := cell_app (i := 0)
theorem lstAt_eq : lstAt l i = match cell l i with | some (.lst ds) => some ds | _ => none := rfl
@[simp] theorem lstAt_zero {ds : List D} : lstAt (some (.lst ds) :: l) 0 = some ds := rfl
@[simp] theorem lstAt_succ : lstAt (o :: l) (i + 1) = lstAt l i := rfl
@[simp] theorem lstAt_app : lstAt (st0 ++ l) (st0.length + i) = lstAt l i := by
  unfold lstAt
  rw [cell_app]
@[simp] theorem lstAt_app0 : lstAt (st0 ++ l) st0.length = lstAt l 0 := lstAt_app (i := 0)
@[simp] theorem set_app : (st0 ++ l).set (st0.length + i) o = st0 ++ l.set i o := by
  rw [List.set_append_right _ _ (Nat.le_add_right _ _), Nat.add_sub_cancel_left]
@[simp] theorem set_app0 : (st0 ++ l).set st0.length o = st0 ++ l.set 0 o := set_app (i := 0)
end
@[simp] theorem lenB_loc {st : Store} {n : Nat} : lenB st (.loc n) = (match cell st n with | some (.lst ds) => some ds.length | some (.dct kvs) => some kvs.length | _ => none) := rfl
/-- data without places -/
def lf (d : D) : Bool := locsLt 0 d
def lfs (ds : List D) : Bool := locsLts 0 ds
mutual
theorem locsLt_mono {m n : Nat} (h : m ≤ n) : ∀ {d : D}, locsLt m d = true → locsLt n d = true
  | .non, _ => rfl
  | .bl _, _ => rfl
  | .int _, _ => rfl
  | .str _, _ => rfl
  | .tup _, e => locsLts_mono h e
  | .lst _, e => locsLts_mono h e
  | .frz _, e => locsLts_mono h e
  | .exn _ _ _, e => locsLts_mono h e
  | .loc _, e => decide_eq_true (Nat.lt_of_lt_of_le (of_decide_eq_true e) h)
theorem locsLts_mono {m n : Nat} (h : m ≤ n) : ∀ {ds : List D}, locsLts m ds = true → locsLts n ds = true
  | [], _ => rfl
  | d :: ds, e => by
    have e' : (locsLt m d && locsLts m ds) = true := e
    rw [Bool.and_eq_true] at e'
    show (locsLt n d && locsLts n ds) = true
    rw [locsLt_mono h e'.1, locsLts_mono h e'.2]
    rfl
end
@[simp] theorem lf_non : lf .non = true := by simp only [lf, locsLt]
@[simp] theorem lf_bl {b : Bool} : lf (.bl b) = true := by simp only [lf, locsLt]
@[simp] theorem lf_int {b : Int} : lf (.int b) = true := by simp only [lf, locsLt]
@[simp] theorem lf_str {b : Str} : lf (.str b) = true := by simp only [lf, locsLt]
@[simp] theorem lf_tup {ds : List D} : lf (.tup ds) = lfs ds := by simp only [lf, locsLt, lfs]
@[simp] theorem lf_lst {ds : List D} : lf (.lst ds) = lfs ds := by simp only [lf, locsLt, lfs]
@[simp] theorem lf_frz {ds : List D} : lf (.frz ds) = lfs ds := by simp only [lf, locsLt, lfs]
@[simp] theorem lfs_nil : lfs [] = true := by simp only [lfs, locsLts]
@[simp] theorem lfs_cons {d : D} {ds : List D} : lfs (d :: ds) = (lf d && lfs ds) := by simp only [lfs, lf, locsLts]
theorem lfs_all {ds : List D} : lfs ds = true ↔ ∀ d ∈ ds, lf d = true := by
  induction ds with
  | nil => simp
  | cons d ds ih => simp [ih]
@[simp] theorem lfs_append {ds es : List D} : lfs (ds ++ es) = (lfs ds && lfs es) := by
  induction ds with
  | nil => simp
  | cons d ds ih => simp [ih, Bool.and_assoc]
theorem lfs_map {α : Type} {f : α → D} {xs : List α} (h : ∀ x, lf (f x) = true) : lfs (xs.map f) = true := lfs_all.mpr fun d hd => by
  obtain ⟨x, _, rfl⟩ := List.mem_map.mp hd
  exact h x
section
variable {st0 l : Store} {d : D} {Q : D → Store → Prop}
theorem keepOk_app : keepOk st0 (st0 ++ l) := fun i hi => .inl (List.getElem?_append_left hi)
theorem gc_ret {st : Store} (k : keepOk st0 st) (h : lf d = true) : gcRet st0 d st = .ok d (st.take st0.length) := by
  unfold gcRet
  rw [if_pos k]
  have e : reify st0.length st 4 d = some d := by
    unfold reify
    rw [if_pos (locsLt_mono (Nat.zero_le _) h)]
  rw [e]
@[simp] theorem gc_app (h : lf d = true) : gcRet st0 d (st0 ++ l) = .ok d st0 := by rw [gc_ret keepOk_app h, List.take_left']; rfl
@[simp] theorem gc_same (h : lf d = true) : gcRet st0 d st0 = .ok d st0 := by
  have := gc_app (st0 := st0) (l := []) (d := d) h
  rw [List.append_nil] at this
  exact this
/-- a list at an own place -/
theorem gc_lst {ds : List D} {i : Nat} (h : lstAt l i = some ds) (hl : lfs ds = true) : gcRet st0 (.loc (st0.length + i)) (st0 ++ l) = .ok (.lst ds) st0 := by
  unfold gcRet
  rw [if_pos keepOk_app]
  have e0 : ∀ n st (k : Nat) (ds : List D), lfs ds = true → ds.mapM (reify n st (k + 1)) = some ds := by
    intro n st k ds
    induction ds with
    | nil => intro _; rfl
    | cons d ds ih =>
      intro h
      rw [lfs_cons, Bool.and_eq_true] at h
      have e1 : reify n st (k + 1) d = some d := by
        unfold reify
        rw [if_pos (locsLt_mono (Nat.zero_le _) h.1)]
      simp [List.mapM_cons, e1, ih h.2]
  have e : reify st0.length (st0 ++ l) 4 (.loc (st0.length + i)) = some (.lst ds) := by
    unfold reify
    have : ¬ (locsLt st0.length (.loc (st0.length + i)) = true) := by
      show ¬ (decide (st0.length + i < st0.length) = true)
      simp
    rw [if_neg this]
    simp only [lstAt_app, h, e0 _ _ _ _ hl, Option.map_some]
  rw [e, List.take_left']
  rfl
end
@[simp] theorem ofs_inj {a b : String} : (Str.ofString a = Str.ofString b) = (a = b) := by
  refine propext ⟨fun h => ?_, fun h => by rw [h]⟩
  rw [Str.ofString_eq_toList, Str.ofString_eq_toList] at h
  injection h with h
  have h2 : a.toList.map Char.toNat = b.toList.map Char.toNat := by
    have := congrArg Array.toList h
    simpa using this
  have inj : ∀ x y : Char, x.toNat = y.toNat → x = y := fun x y e => Char.ext (UInt32.toNat_inj.mp e)
  have h3 : a.toList = b.toList := by
    have h4 : ∀ (l m : List Char), l.map Char.toNat = m.map Char.toNat → l = m := by
      intro l
      induction l with
      | nil => intro m e; cases m with
        | nil => rfl
        | cons _ _ => cases e
      | cons c l ih =>
        intro m e
        cases m with
        | nil => cases e
        | cons d m =>
          injection e with e1 e2
          rw [inj c d e1, ih m e2]
    exact h4 _ _ h2
  exact String.toList_inj.mp h3
theorem small_int : ∀ i : Nat, i < 64 → ((i : Int).natAbs.log2 < 1920) ∧ (Str.ofString (toString (i : Int))).length ≤ 2 := by decide +kernel
/-- a letter and a small number -/
theorem str_small {i : Nat} {st : Store} (h : i < 64) : strD [.int (i : Int)] st = .ok (.str (Str.ofString (Int.repr (i : Int)))) st := by
  rw [strD_int, if_pos (small_int i h).1]
  rfl
theorem add_small {i : Nat} {st : Store} {b : Bool} {p : Str} (h : i < 64) (hp : p.length ≤ 1000) : addD b (.str p) (.str (Str.ofString (Int.repr (i : Int)))) st = .ok (.str (p ++ Str.ofString (Int.repr (i : Int)))) st := by
  have := (small_int i h).2
  rw [add_str, if_pos]
  show p.length + (Str.ofString (toString (i : Int))).length ≤ 1000000
  omega
theorem rng_mem {lo : Int} {n : Nat} {d : D} (h : d ∈ rng lo n) : ∃ i : Nat, i < n ∧ d = .int (lo + i) := by
  unfold rng at h
  obtain ⟨i, hi, rfl⟩ := List.mem_map.mp h
  exact ⟨i, List.mem_range.mp hi, rfl⟩
@[simp] theorem rng_length {lo : Int} {n : Nat} : (rng lo n).length = n := by simp [rng]
/-! ### loops -/
section
theorem forGo_wp {g : TM} {b : SM} {fg : List Nat} {gd : Store → Prop} {P : Po} (Inv : List D → Vars → Store → Prop)
    (hg : ∀ r vs st, Inv r vs st → gd st)
    (step : ∀ d r vs st, Inv (d :: r) vs st → ∃ vs1, g d vs = some vs1 ∧ wpS (b vs1 st) ⟨fun vs2 st2 => Inv r (drp fg vs2) st2, P.r, fun vs2 st2 => P.n (drp fg vs2) st2, fun vs2 st2 => Inv r (drp fg vs2) st2⟩)
    (fin : ∀ vs st, Inv [] vs st → P.n vs st) : ∀ (ds : List D) (vs : Vars) (st : Store), Inv ds vs st → wpS (forGo g b fg gd ds vs st) P
  | [], vs, st, h => by
    unfold forGo
    rw [if_pos (hg _ _ _ h)]
    exact ⟨fin _ _ h⟩
  | d :: ds, vs, st, h => by
    unfold forGo
    rw [if_pos (hg _ _ _ h)]
    obtain ⟨vs1, e, w⟩ := step d ds vs st h
    rw [e]
    simp only
    cases hb : b vs1 st with
    | nx vs2 st2 => rw [hb] at w; exact forGo_wp Inv hg step fin ds _ _ w.of
    | ct vs2 st2 => rw [hb] at w; exact forGo_wp Inv hg step fin ds _ _ w.of
    | brk vs2 st2 => rw [hb] at w; exact ⟨w.of⟩
    | ret d2 st2 => rw [hb] at w; exact ⟨w.of⟩
    | bad => rw [hb] at w; exact w.of.elim
    | exc e vs2 st2 => rw [hb] at w; exact w.of.elim
theorem sFor_wp {im : IM} {g : TM} {b : SM} {fg : List Nat} {vs : Vars} {st : Store} {P : Po} :
    wpS (sFor im g b fg vs st) P = wp (im vs st) fun it st => wpS (forGo g b fg (grd it) it.1 (drp fg vs) st) P := by
  unfold sFor
  rw [wpS_thn]
theorem compGo_wp {g : TM} {t e : EM} {gd : Store → Prop} {vs : Vars} (Inv : List D → List D → Store → Prop) (hg : ∀ r acc st, Inv r acc st → gd st)
    (step : ∀ d r acc st, Inv (d :: r) acc st → ∃ vs1, g d vs = some vs1 ∧ wp (t vs1 st) fun x st1 => (x = .bl true ∧ wp (e vs1 st1) fun y st2 => Inv r (acc ++ [y]) st2) ∨ (x = .bl false ∧ Inv r acc st1)) :
    ∀ (ds acc : List D) (st : Store), Inv ds acc st → wp (compGo g t e gd vs ds st) fun ys st' => Inv [] (acc ++ ys) st'
  | [], acc, st, h => by
    unfold compGo
    rw [if_pos (hg _ _ _ h)]
    rw [wp_ok, List.append_nil]
    exact h
  | d :: ds, acc, st, h => by
    unfold compGo
    rw [if_pos (hg _ _ _ h)]
    obtain ⟨vs1, e1, w⟩ := step d ds acc st h
    rw [e1]
    simp only [wp_okk]
    refine wp_mono w fun x st1 hx => ?_
    rcases hx with ⟨rfl, w2⟩ | ⟨rfl, h2⟩
    · simp only [wp_okk]
      refine wp_mono w2 fun y st2 h2 => ?_
      rw [wp_okk]
      refine wp_mono (compGo_wp Inv hg step ds _ _ h2) fun ys st3 h3 => ?_
      rw [List.append_assoc] at h3
      exact ⟨h3⟩
    · exact compGo_wp Inv hg step ds _ _ h2
theorem eComp_wp {n : Bool} {im : IM} {g : TM} {t e : EM} {own : List Nat} {vs : Vars} {st : Store} {Q : D → Store → Prop} :
    wp (eComp n im g t e own vs st) Q = wp (im vs st) fun it st => room it.1.length ∧ wp (compGo g t e (grd it) (drp own vs) it.1 st) fun ys st => wp (mkNew n ys st) Q := by
  unfold eComp
  rw [wp_bind]
  congr 1
  funext it st
  split
  · rename_i h
    simp only [wp_okk, h, true_and]
  · rename_i h
    simp only [h, false_and]
    exact wp_bad
/-- the elements change nothing -/
theorem compGo_pure {g : TM} {t e : EM} {gd : Store → Prop} {vs : Vars} {st : Store} {p : D → Bool} {f : D → D} (hg : gd st) : ∀ {ds : List D},
    (∀ d ∈ ds, ∃ vs1, g d vs = some vs1 ∧ t vs1 st = .ok (.bl (p d)) st ∧ (p d = true → e vs1 st = .ok (f d) st)) → compGo g t e gd vs ds st = .ok ((ds.filter p).map f) st
  | [], _ => by unfold compGo; rw [if_pos hg]; rfl
  | d :: ds, h => by
    unfold compGo
    rw [if_pos hg]
    obtain ⟨vs1, e1, e2, e3⟩ := h d List.mem_cons_self
    have ih := compGo_pure hg fun d' hd => h d' (List.mem_cons_of_mem _ hd)
    rw [e1]
    simp only [e2, okk_ok]
    cases hp : p d with
    | true => simp only [e3 hp, okk_ok, ih, List.filter_cons, hp, if_true, List.map_cons]
    | false => simp only [ih, List.filter_cons, hp, Bool.false_eq_true, if_false]
theorem sWhile_ct {c : EM} {b : SM} {vs vs1 : Vars} {st st1 st2 : Store} (hc : c vs st = .ok (.bl true) st1) (hb : b vs st1 = .ct vs1 st2) : sWhile c b vs st = sWhile c b vs1 st2 := by
  by_cases h' : ∃ r n, wGo c b n vs1 st2 = some r
  · obtain ⟨r, n, e⟩ := h'
    rw [sWhile_eq e]
    refine sWhile_eq (n := n + 1) ?_
    unfold wGo
    rw [hc]
    simp only [hb]
    exact e
  · have e1 : sWhile c b vs1 st2 = .bad := by
      unfold sWhile
      rw [dif_neg h']
    rw [e1]
    unfold sWhile
    rw [dif_neg]
    rintro ⟨r, n, e⟩
    cases n with
    | zero => cases e
    | succ n =>
      unfold wGo at e
      rw [hc] at e
      simp only [hb] at e
      exact h' ⟨r, n, e⟩
theorem sWhile_brk {c : EM} {b : SM} {vs vs1 : Vars} {st st1 st2 : Store} (hc : c vs st = .ok (.bl true) st1) (hb : b vs st1 = .brk vs1 st2) : sWhile c b vs st = .nx vs1 st2 := by
  refine sWhile_eq (n := 1) ?_
  unfold wGo
  rw [hc]
  simp only [hb]
theorem sWhile_ret {c : EM} {b : SM} {vs : Vars} {st st1 st2 : Store} {d : D} (hc : c vs st = .ok (.bl true) st1) (hb : b vs st1 = .ret d st2) : sWhile c b vs st = .ret d st2 := by
  refine sWhile_eq (n := 1) ?_
  unfold wGo
  rw [hc]
  simp only [hb]
theorem while_wp {c : EM} {b : SM} {P : Po} (Inv : Nat → Vars → Store → Prop)
    (step : ∀ n vs st, Inv n vs st → wp (c vs st) fun d st1 => (d = .bl false ∧ P.n vs st1) ∨ (d = .bl true ∧ wpS (b vs st1) ⟨fun vs2 st2 => ∃ m, m < n ∧ Inv m vs2 st2, P.r, fun vs2 st2 => P.n vs2 st2, fun vs2 st2 => ∃ m, m < n ∧ Inv m vs2 st2⟩)) :
    ∀ (n : Nat) (vs : Vars) (st : Store), Inv n vs st → wpS (sWhile c b vs st) P := by
  intro n
  induction n using Nat.strongRecOn with
  | ind n ih =>
    intro vs st h
    obtain ⟨d, st1, e, w⟩ := wp_ex (step n vs st h)
    rcases w with ⟨rfl, w⟩ | ⟨rfl, w⟩
    · rw [sWhile_end e]
      exact ⟨w⟩
    · cases hb : b vs st1 with
      | nx vs2 st2 =>
        rw [hb] at w
        obtain ⟨m, hm, hi⟩ := w.of
        rw [sWhile_turn e hb]
        exact ih m hm _ _ hi
      | ct vs2 st2 =>
        rw [hb] at w
        obtain ⟨m, hm, hi⟩ := w.of
        rw [sWhile_ct e hb]
        exact ih m hm _ _ hi
      | brk vs2 st2 =>
        rw [hb] at w
        rw [sWhile_brk e hb]
        exact ⟨w.of⟩
      | ret d2 st2 =>
        rw [hb] at w
        rw [sWhile_ret e hb]
        exact ⟨w.of⟩
      | bad => rw [hb] at w; exact w.of.elim
      | exc e vs2 st2 => rw [hb] at w; exact w.of.elim
end
end Dn
namespace Dn
open PySem PySem.Spec PyProof.Rows L2
/-! ### draws of a script -/
noncomputable def takeB1 : SM := (sIf (eAnd (e2 eqD (e2 ixA (eV 0) (eC (.int 2))) (eC (.int 0))) (e2 ltD (e2 ixA (eV 0) (eC (.int 1))) (eN lenD (aCons (e2 ixA (eV 0) (eC (.int 0))) (aNil))))) (sSeq (sSub setA (eV 0) (eC (.int 2)) (eN absD (aCons (eN intD (aCons (e2 ixA (e2 ixA (eV 0) (eC (.int 0))) (e2 ixA (eV 0) (eC (.int 1)))) (aNil))) (aNil)))) (sSeq (sSub setA (eV 0) (eC (.int 1)) (e2 (addD false) (e2 ixA (eV 0) (eC (.int 1))) (eC (.int 1)))) (sIf (e2 ltD (e2 ixA (eV 0) (eC (.int 2))) (e2 powD (eC (.int 10)) (eC (.int 18)))) (sSeq (sAsg (gN 2) (eN intD (aCons (e2 ixA (eV 0) (eC (.int 2))) (aNil)))) (sSeq (sSub setA (eV 0) (eC (.int 2)) (eC (.int 0))) (sRet (e2 modD (eV 2) (eV 1))))) (sNil)))) (sNil))
noncomputable def takeB2 : SM := (sIf (e2 gtD (e2 ixA (eV 0) (eC (.int 2))) (eC (.int 0))) (sSeq (sAsg (gN 3) (e2 modD (eN intD (aCons (e2 ixA (eV 0) (eC (.int 2))) (aNil))) (eV 1))) (sSeq (sSub setA (eV 0) (eC (.int 2)) (e2 fdivD (eN intD (aCons (e2 ixA (eV 0) (eC (.int 2))) (aNil))) (eV 1))) (sRet (eV 3)))) (sNil))
noncomputable def takeB3 : SM := (sSeq (sSub setA (eV 0) (eC (.int 3)) (e2 modD (eN intD (aCons (e2 (addD false) (e2 (mulD false) (e2 ixA (eV 0) (eC (.int 3))) (eC (.int 48271))) (eC (.int 11))) (aNil))) (eC (.int 2147483647)))) (sRet (e2 modD (eN intD (aCons (e2 fdivD (e2 ixA (eV 0) (eC (.int 3))) (eC (.int 3))) (aNil))) (eV 1))))
noncomputable def takeB : SM := sSeq takeB1 (sSeq takeB2 takeB3)
noncomputable def takeM : FnD := fnD 4 takeB
noncomputable def beginB : SM := sSeq (sAsg (gN 1) (eC (.int 1))) (sSeq (sFor (iE (eV 0)) (gN 2) (sAsg (gN 1) (e2 modD (e2 (addD false) (e2 (addD false) (e2 (mulD false) (eV 1) (eC (.int 69621))) (e2 modD (eN intD (aCons (eV 2) (aNil))) (eC (.int 2147483629)))) (eC (.int 7))) (eC (.int 2147483647)))) [2]) (sRet (eLst true (aCons (eN (listD false) (aCons (eV 0) (aNil))) (aCons (eC (.int 0)) (aCons (eC (.int 0)) (aCons (eV 1) (aNil))))))))
noncomputable def beginM : FnD := fnK 3 beginB
noncomputable def pickB : SM := sRet (e2 ixA (eV 1) (eN takeM (aCons (eV 0) (aCons (eN lenD (aCons (eV 1) (aNil))) (aNil)))))
noncomputable def pickM : FnD := fnD 2 pickB
/-- the draws' list -/
def DrawOk (c : Option Ob) : Prop := ∃ (ns : List Int) (i : Nat) (n seed : Int), c = some (.lst [.lst (ns.map D.int), .int i, .int n, .int seed])
theorem lfs_ints {ns : List Int} : lfs (ns.map D.int) = true := lfs_map fun _ => rfl
theorem gc_draw {c c' : Option Ob} {t : Store} {d : D} (h : DrawOk c') (hd : lf d = true) : gcRet (c :: t) d (c' :: t) = .ok d (c' :: t) := by
  have k : keepOk (c :: t) (c' :: t) := fun i hi => by
    cases i with
    | zero =>
      refine .inr ⟨c', rfl, fun ob e => ?_⟩
      obtain ⟨ns, i, n, seed, rfl⟩ := h
      injection e with e
      subst e
      have : lfs [.lst (ns.map D.int), .int i, .int n, .int seed] = true := by simp [lfs_ints]
      exact locsLts_mono (Nat.zero_le _) this
    | succ i => exact .inl rfl
  rw [gc_ret k hd]
  show Re.ok d ((c' :: t).take (c' :: t).length) = _
  rw [List.take_length]
theorem take_wp {c : Option Ob} {t : Store} {m : Int} {Q : D → Store → Prop} (h : DrawOk c) (h0 : 0 < m) (h1 : m < 1073741824) (q : ∀ r c', DrawOk c' → 0 ≤ r → r < m → Q (.int r) (c' :: t)) : wp (takeM [.loc 0, .int m] (c :: t)) Q := by
  obtain ⟨ns, i, n, seed, rfl⟩ := h
  have gc : ∀ (i' : Nat) (n' seed' r : Int), 0 ≤ r → r < m → wp (gcRet (some (.lst [.lst (ns.map D.int), .int i, .int n, .int seed]) :: t) (.int r) (some (.lst [.lst (ns.map D.int), .int i', .int n', .int seed']) :: t)) Q := fun i' n' seed' r h0 h1 => by
    have hd : DrawOk (some (.lst [.lst (ns.map D.int), .int i', .int n', .int seed'])) := ⟨ns, i', n', seed', rfl⟩
    rw [gc_draw hd rfl, wp_ok]
    exact q r _ hd h0 h1
  have md : ∀ x : Int, 0 ≤ x % m ∧ x % m < m := fun x => ⟨Int.emod_nonneg _ (by omega), Int.emod_lt_of_pos _ h0⟩
  have sec : ∀ (i' : Nat) (n' : Int), wpS ((sSeq takeB2 takeB3) [some (.loc 0), some (.int m), none, none] (some (.lst [.lst (ns.map D.int), .int i', .int n', .int seed]) :: t)) ⟨fun _ st' => wp (gcRet (some (.lst [.lst (ns.map D.int), .int i, .int n, .int seed]) :: t) .non st') Q, fun d st' => wp (gcRet (some (.lst [.lst (ns.map D.int), .int i, .int n, .int seed]) :: t) d st') Q, fun _ _ => False, fun _ _ => False⟩ := by
    intro i' n'
    unfold takeB2 takeB3
    by_cases hn : 0 < n'
    · simp [ixA_loc, setA_loc, ixN_pos, hn, h0, h1]
      exact gc _ _ _ _ (md _).1 (md _).2
    · simp [ixA_loc, setA_loc, ixN_pos, hn, h0, h1]
      exact gc _ _ _ _ (md _).1 (md _).2
  unfold takeM
  rw [wp_fnD]
  show wpS (sSeq takeB1 (sSeq takeB2 takeB3) _ _) _
  unfold takeB1
  by_cases hc : n = 0 ∧ i < ns.length
  · obtain ⟨rfl, hi⟩ := hc
    have e : ns[i]? = some ns[i] := List.getElem?_eq_getElem hi
    by_cases hx : (if ns[i] < 0 then -ns[i] else ns[i]) < 1000000000000000000
    · simp [ixA_loc, setA_loc, ixN_pos, hi, e, hx, h0]
      exact gc (i + 1) 0 _ _ (md _).1 (md _).2
    · simp [ixA_loc, setA_loc, ixN_pos, hi, e, hx, h0]
      have s2 := sec (i + 1) (if ns[i] < 0 then -ns[i] else ns[i])
      rw [sSeq_eq, wpS_seq] at s2
      exact s2
  · have hb : (decide (n = 0) && decide (i < ns.length)) = false := by
      rw [Bool.and_eq_false_iff, decide_eq_false_iff_not, decide_eq_false_iff_not]
      by_cases h : n = 0
      · exact .inr fun z => hc ⟨h, z⟩
      · exact .inl h
    simp [ixA_loc, hb]
    have s2 := sec i n
    rw [sSeq_eq, wpS_seq] at s2
    exact s2
theorem begin_ok {ns : List Int} : ∃ c, DrawOk c ∧ beginM [.frz (ns.map D.int)] [] = .ok (.loc 0) [c] := by
  have : wp (beginM [.frz (ns.map D.int)] []) fun d st => d = .loc 0 ∧ ∃ c, DrawOk c ∧ st = [c] := by
    unfold beginM
    rw [wp_fnK]
    unfold beginB
    simp [sFor_wp]
    refine forGo_wp (fun r vs st => (∃ l, r = l.map D.int) ∧ st = [] ∧ ∃ s : Int, vs = [some (.frz (ns.map D.int)), some (.int s), none]) (fun _ _ _ _ => trivial) (fun d r vs st h => ?_) (fun vs st h => ?_) _ _ _ ⟨⟨ns, rfl⟩, rfl, 1, rfl⟩
    · obtain ⟨⟨l, hl⟩, rfl, s, rfl⟩ := h
      cases l with
      | nil => cases hl
      | cons x l =>
        injection hl with h1 h2
        subst h1 h2
        simp
        exact ⟨l, rfl⟩
    · obtain ⟨_, rfl, s, rfl⟩ := h
      simp
      exact ⟨ns, 0, 0, s, rfl⟩
  obtain ⟨d, st, e, rfl, c, hc, rfl⟩ := wp_ex this
  exact ⟨c, hc, e⟩
theorem pick_wp {c : Option Ob} {t : Store} {ds : List D} {Q : D → Store → Prop} (h : DrawOk c) (h0 : 0 < ds.length) (h1 : ds.length < 1000000) (hl : lfs ds = true) (q : ∀ d c', DrawOk c' → d ∈ ds → Q d (c' :: t)) : wp (pickM [.loc 0, .lst ds] (c :: t)) Q := by
  unfold pickM
  rw [wp_fnD]
  unfold pickB
  simp
  refine take_wp h (by omega) (by omega) fun r c' hc hr0 hr1 => ?_
  have hr : r.toNat < ds.length := by omega
  have e : ds[r.toNat]? = some ds[r.toNat] := List.getElem?_eq_getElem hr
  have hd : lf ds[r.toNat] = true := lfs_all.mp hl _ (List.getElem_mem hr)
  simp [hr0, e, gc_draw hc hd]
  exact q _ _ hc (List.getElem_mem hr)
end Dn
namespace Dn
open PySem PySem.Spec PyProof.Rows L2
theorem okd_mono {n m : Nat} (h : n ≤ m) : ∀ {d : D}, okd n d = true → okd m d = true := by
  induction n generalizing m with
  | zero => intro d e; cases d <;> simp_all [okd]
  | succ n ih =>
    intro d e
    obtain ⟨m, rfl⟩ : ∃ k, m = k + 1 := ⟨m - 1, by omega⟩
    cases d with
    | tup ds =>
      simp only [okd, List.all_eq_true] at e ⊢
      exact fun x hx => ih (by omega) (e x hx)
    | lst ds =>
      simp only [okd, List.all_eq_true] at e ⊢
      exact fun x hx => ih (by omega) (e x hx)
    | _ => simp_all [okd]
theorem eqvD_refl {n : Nat} {d : D} (h : okd n d = true) : eqvD d d = true := SeqAt.eqv_refl _ (by
  have : ∀ (n : Nat) (d : D), okd n d = true → (pd d).canLay0 = true := fun n d h => (okd_shape n d h).1
  exact this n d h)
theorem okd_res {st : Store} {d : D} {n : Nat} (h : okd n d = true) : resD st d = d := by
  cases d with
  | loc _ => cases n <;> simp [okd] at h
  | _ => rfl
theorem eqB_refl {st : Store} {d : D} (h : okd 60 d = true) : eqB st d d = some true := by
  have hr : resD st d = d := okd_res h
  cases d with
  | non => rfl
  | int i => simp [eqB]
  | bl i => simp [eqB]
  | str i => simp [eqB]
  | tup ds =>
    show (if okd 60 (resD st (.tup ds)) && okd 60 (resD st (.tup ds)) then some (eqvD (resD st (.tup ds)) (resD st (.tup ds))) else none) = some true
    rw [hr, h, eqvD_refl h]
    rfl
  | lst ds =>
    show (if okd 60 (resD st (.lst ds)) && okd 60 (resD st (.lst ds)) then some (eqvD (resD st (.lst ds)) (resD st (.lst ds))) else none) = some true
    rw [hr, h, eqvD_refl h]
    rfl
  | frz ds => simp [okd] at h
  | loc n => simp [okd] at h
  | exn _ _ _ => simp [okd] at h
theorem eq_refl {st : Store} {d : D} (h : okd 60 d = true) : eqD d d st = .ok (.bl true) st := by
  unfold eqD
  rw [eqB_refl h]
theorem ne_refl {st : Store} {d : D} (h : okd 60 d = true) : neD d d st = .ok (.bl false) st := by
  unfold neD
  rw [eqB_refl h]
  rfl
theorem okd_int {n : Nat} {i : Int} : okd n (.int i) = true := by cases n <;> rfl
theorem okd_bl {n : Nat} {i : Bool} : okd n (.bl i) = true := by cases n <;> rfl
theorem okd_non {n : Nat} : okd n .non = true := by cases n <;> rfl
theorem okd_str {n : Nat} {x : Str} (h : PyData.strOk x = true) : okd n (.str x) = true := by cases n <;> exact h
theorem okd_tup {n : Nat} {ds : List D} (h : ∀ d ∈ ds, okd n d = true) : okd (n + 1) (.tup ds) = true := List.all_eq_true.mpr h
theorem okd_lst {n : Nat} {ds : List D} (h : ∀ d ∈ ds, okd n d = true) : okd (n + 1) (.lst ds) = true := List.all_eq_true.mpr h
theorem okd_map {α : Type} {n : Nat} {f : α → D} {xs : List α} (h : ∀ x ∈ xs, okd n (f x) = true) : ∀ d ∈ xs.map f, okd n d = true := fun d hd => by
  obtain ⟨x, hx, rfl⟩ := List.mem_map.mp hd
  exact h x hx
@[simp] theorem eqv_int {i j : Int} : eqvD (.int i) (.int j) = decide (i = j) := by
  unfold eqvD
  simp only [pd, PyData.eqv]
  by_cases h : i = j <;> simp [h]
@[simp] theorem eqv_str {i j : Str} : eqvD (.str i) (.str j) = decide (i = j) := by
  unfold eqvD
  simp only [pd, PyData.eqv]
  by_cases h : i = j <;> simp [h]
section
variable {st : Store} {neg b : Bool} {f : D → D → Store → Re D} {x : D} {ds : List D} {i : Int} {z : Str}
@[simp] theorem inA_tup : inA neg f x (.tup ds) st = f x (.tup ds) st := rfl
@[simp] theorem inA_lst : inA neg f x (.lst ds) st = f x (.lst ds) st := rfl
@[simp] theorem inA_frz : inA neg f x (.frz ds) st = f x (.frz ds) st := rfl
@[simp] theorem inA_str : inA neg f x (.str z) st = f x (.str z) st := rfl
theorem inB_flat (h : flatD x = true) (hs : ds.all flatD = true) {y : D} (hy : seqOf st y = some ds) : inB st x y = some (ds.any fun z => eqvD z x) := by
  have hm : (match seqOf st y with
      | some ds => if flatD x && ds.all flatD then some (ds.any fun z => eqvD z x)
        else if okd 60 x && ds.all (okd 59) then some (ds.any fun z => eqvD z x) else none
      | none => none) = some (ds.any fun z => eqvD z x) := by
    rw [hy]
    simp only [h, hs, Bool.and_self, if_true]
  unfold inB
  split
  · rename_i c z'
    cases hy
  · exact hm
theorem in_flat (h : flatD x = true) (hs : ds.all flatD = true) {y : D} (hy : seqOf st y = some ds) : inD x y st = .ok (.bl (ds.any fun z => eqvD z x)) st := by
  unfold inD
  rw [inB_flat h hs hy]
theorem nin_flat (h : flatD x = true) (hs : ds.all flatD = true) {y : D} (hy : seqOf st y = some ds) : ninD x y st = .ok (.bl !(ds.any fun z => eqvD z x)) st := by
  unfold ninD
  rw [inB_flat h hs hy]
@[simp] theorem flat_int : flatD (.int i) = true := by simp only [flatD]
@[simp] theorem flat_str : flatD (.str z) = true := by simp only [flatD]
@[simp] theorem flat_bl : flatD (.bl b) = true := by simp only [flatD]
@[simp] theorem flat_non : flatD .non = true := by simp only [flatD]
end
theorem idxB_strs {z : Str} : ∀ {zs : List Str} (n : Nat), z ∈ zs → idxB (.str z) (zs.map .str) n = some (n + zs.idxOf z)
  | y :: zs, n, h => by
    unfold idxB
    rw [List.map_cons]
    simp only [eqv_str]
    by_cases e : y = z
    · subst e
      simp
    · have h' : z ∈ zs := by
        rcases List.mem_cons.mp h with rfl | h
        · exact absurd rfl e
        · exact h
      have e2 : (y == z) = false := by simp [e]
      rw [if_neg (by simpa using e), idxB_strs (n + 1) h', List.idxOf_cons, e2]
      simp
      omega
theorem index_strs {st : Store} {z : Str} {zs : List Str} (h : z ∈ zs) (hk : zs.all PyData.strOk = true) : indexD (.lst (zs.map .str)) [.str z] st = .ok (.int (zs.idxOf z : Nat)) st := by
  have hk' := List.all_eq_true.mp hk
  unfold indexD
  simp only [lstOf_lst, opt_some]
  rw [if_pos ⟨okd_str (hk' z h), List.all_eq_true.mpr (okd_map fun x hx => okd_str (hk' x hx))⟩, idxB_strs 0 h]
  simp
/-! ### dicts -/
section
variable {st : Store} {n : Nat} {z : Str} {i : Int} {k : L2.Key} {d : D} {r : List (L2.Key × D)} {ps : List (D × D)}
@[simp] theorem keysK_nil : keysK [] = some [] := rfl
@[simp] theorem keysK_str : keysK ((.str z, d) :: ps) = (keysK ps).map ((.inr z, d) :: ·) := rfl
@[simp] theorem keysK_int : keysK ((.int i, d) :: ps) = (keysK ps).map ((.inl i, d) :: ·) := rfl
@[simp] theorem getK_nil : getK ([] : List (L2.Key × D)) k = none := rfl
@[simp] theorem getK_cons {j : L2.Key} : getK ((j, d) :: r) k = if j = k then some d else getK r k := by
  unfold getK
  rw [List.find?_cons]
  by_cases e : j = k <;> simp [e]
@[simp] theorem ixA_strkey : ixA (.loc n) (.str z) st = match cell st n with
    | some (.dct kvs) => (match getK kvs (.inr z) with | some d => .ok d st | none => .bad)
    | _ => .bad := by
  cases h : cell st n with
  | none =>
    unfold ixA dGet ixD
    simp [h]
  | some o =>
    cases o with
    | dct kvs =>
      unfold ixA dGet
      simp only [h, keyK, Option.map_some]
      cases getK kvs (.inr z) <;> rfl
    | _ =>
      unfold ixA dGet ixD
      simp [h]
@[simp] theorem ixA_intkey : ixA (.loc n) (.int i) st = match cell st n with
    | some (.dct kvs) => (match getK kvs (.inl i) with | some d => .ok d st | none => .bad)
    | some (.lst ds) => (match atI ds i with | some d => .ok d st | none => .bad)
    | _ => .bad := by
  cases h : cell st n with
  | none =>
    unfold ixA dGet ixD seqOf lstAt
    simp [h]
  | some o =>
    cases o with
    | dct kvs =>
      unfold ixA dGet
      simp only [h, keyK, Option.map_some]
      cases getK kvs (.inl i) <;> rfl
    | lst ds => exact ixA_loc (by unfold lstAt; rw [h])
    | dtt kvs =>
      unfold ixA dGet ixD seqOf lstAt
      simp [h]
    | ins c fs =>
      unfold ixA dGet ixD seqOf lstAt
      simp [h]
end
end Dn
namespace Dn
open PySem PySem.Spec PyProof.Rows L2
/-! ### comprehensions that draw -/
/-- an element, behind draws -/
def DE (T : Store) (Pr : D → Prop) (y : D) (st : Store) : Prop := Pr y ∧ ∃ c, DrawOk c ∧ st = c :: T
theorem de_of {T : Store} {Pr : D → Prop} {y : D} {c : Option Ob} (h : Pr y) (k : DrawOk c) : DE T Pr y (c :: T) := ⟨h, c, k, rfl⟩
/-- a test, behind draws -/
def DT (T : Store) (k : Store → Prop) (x : D) (st : Store) : Prop := ∃ c, DrawOk c ∧ st = c :: T ∧ ∃ b, x = .bl b ∧ (b = true → k (c :: T))
theorem dt_of {T : Store} {k : Store → Prop} {b : Bool} {c : Option Ob} (h : DrawOk c) (q : b = true → k (c :: T)) : DT T k (.bl b) (c :: T) := ⟨c, h, rfl, b, rfl, q⟩
section
variable {g : TM} {tt e : EM} {gd : Store → Prop} {vs : Vars} {T : Store} {Pr : D → Prop}
theorem compGo_draw1 (hg : ∀ c, gd (c :: T)) : ∀ (ds : List D) (c : Option Ob), DrawOk c → (∀ d ∈ ds, ∀ c, DrawOk c → ∃ vs1, g d vs = some vs1 ∧ wp (e vs1 (c :: T)) (DE T Pr)) →
    wp (compGo g (eC (.bl true)) e gd vs ds (c :: T)) fun ys st => (∀ y ∈ ys, Pr y) ∧ ys.length = ds.length ∧ ∃ c2, DrawOk c2 ∧ st = c2 :: T
  | [], c, hc, _ => by
    unfold compGo
    rw [if_pos (hg _), wp_ok]
    exact ⟨by simp, rfl, c, hc, rfl⟩
  | d :: ds, c, hc, h => by
    unfold compGo
    rw [if_pos (hg _)]
    obtain ⟨vs1, e1, w⟩ := h d List.mem_cons_self c hc
    rw [e1]
    simp only [eC_eq, okk_ok, wp_okk]
    refine wp_mono w fun y st1 h1 => ?_
    obtain ⟨hy, c1, hc1, rfl⟩ := h1
    rw [wp_okk]
    refine wp_mono (compGo_draw1 hg ds c1 hc1 fun d' hd => h d' (List.mem_cons_of_mem _ hd)) fun ys st2 h2 => ?_
    obtain ⟨h3, h4, h5⟩ := h2
    rw [wp_ok]
    exact ⟨fun z hz => by
      rcases List.mem_cons.mp hz with rfl | hz
      · exact hy
      · exact h3 z hz, by simp [h4], h5⟩
theorem compGo_draw (hg : ∀ c, gd (c :: T)) : ∀ (ds : List D) (c : Option Ob), DrawOk c → (∀ d ∈ ds, ∀ c, DrawOk c → ∃ vs1, g d vs = some vs1 ∧ wp (tt vs1 (c :: T)) (DT T fun st => wp (e vs1 st) (DE T Pr))) →
    wp (compGo g tt e gd vs ds (c :: T)) fun ys st => (∀ y ∈ ys, Pr y) ∧ ys.length ≤ ds.length ∧ ∃ c2, DrawOk c2 ∧ st = c2 :: T
  | [], c, hc, _ => by
    unfold compGo
    rw [if_pos (hg _), wp_ok]
    exact ⟨by simp, Nat.le_refl _, c, hc, rfl⟩
  | d :: ds, c, hc, h => by
    unfold compGo
    rw [if_pos (hg _)]
    obtain ⟨vs1, e1, w⟩ := h d List.mem_cons_self c hc
    rw [e1]
    simp only [wp_okk]
    refine wp_mono w fun x st1 h1 => ?_
    obtain ⟨c1, hc1, rfl, b, rfl, hb⟩ := h1
    cases b with
    | true =>
      simp only [wp_okk]
      refine wp_mono (hb rfl) fun y st1 h1 => ?_
      obtain ⟨hy, c2, hc2, rfl⟩ := h1
      rw [wp_okk]
      refine wp_mono (compGo_draw hg ds c2 hc2 fun d' hd => h d' (List.mem_cons_of_mem _ hd)) fun ys st2 h2 => ?_
      obtain ⟨h3, h4, h5⟩ := h2
      rw [wp_ok]
      exact ⟨fun z hz => by
        rcases List.mem_cons.mp hz with rfl | hz
        · exact hy
        · exact h3 z hz, by simp; omega, h5⟩
    | false =>
      refine wp_mono (compGo_draw hg ds c1 hc1 fun d' hd => h d' (List.mem_cons_of_mem _ hd)) fun ys st2 h2 => ?_
      obtain ⟨h3, h4, h5⟩ := h2
      exact ⟨h3, by simp; omega, h5⟩
end
theorem list_of {α : Type} {f : α → D} : ∀ {ys : List D}, (∀ y ∈ ys, ∃ a, y = f a) → ∃ l : List α, ys = l.map f
  | [], _ => ⟨[], rfl⟩
  | y :: ys, h => by
    obtain ⟨a, rfl⟩ := h y List.mem_cons_self
    obtain ⟨l, rfl⟩ := list_of fun z hz => h z (List.mem_cons_of_mem _ hz)
    exact ⟨a :: l, rfl⟩
theorem list_ofP {α : Type} {f : α → D} {p : α → Prop} : ∀ {ys : List D}, (∀ y ∈ ys, ∃ a, y = f a ∧ p a) → ∃ l : List α, ys = l.map f ∧ ∀ a ∈ l, p a
  | [], _ => ⟨[], rfl, fun _ h => by cases h⟩
  | y :: ys, h => by
    obtain ⟨a, rfl, ha⟩ := h y List.mem_cons_self
    obtain ⟨l, rfl, hl⟩ := list_ofP fun z hz => h z (List.mem_cons_of_mem _ hz)
    exact ⟨a :: l, rfl, fun b hb => by
      rcases List.mem_cons.mp hb with rfl | hb
      · exact ha
      · exact hl b hb⟩
@[simp] theorem grd_nil {ds : List D} {st : Store} : grd (ds, []) st = True := rfl
theorem enumP_map {α : Type} {f : α → D} {xs : List α} : enumP (xs.map f) = xs.zipIdx.map fun p => D.tup [.int (p.2 : Nat), f p.1] := by
  unfold enumP
  rw [List.zipIdx_map, List.map_map]
  rfl
theorem fitR_of {i : Int} (h0 : -1000000000 ≤ i) (h1 : i ≤ 1000000000) : fitR i := ⟨by omega, by omega⟩
/-- .. and what was put behind it -/
theorem gc_drawL {c c' : Option Ob} {t l : Store} {d : D} (h : DrawOk c') (hd : lf d = true) : gcRet (c :: t) d (c' :: (t ++ l)) = .ok d (c' :: t) := by
  have k : keepOk (c :: t) (c' :: (t ++ l)) := fun i hi => by
    cases i with
    | zero =>
      refine .inr ⟨c', rfl, fun ob e => ?_⟩
      obtain ⟨ns, i, n, seed, rfl⟩ := h
      injection e with e
      subst e
      have : lfs [.lst (ns.map D.int), .int i, .int n, .int seed] = true := by simp [lfs_ints]
      exact locsLts_mono (Nat.zero_le _) this
    | succ i =>
      refine .inl ?_
      show (t ++ l)[i]? = t[i]?
      exact List.getElem?_append_left (by simpa using hi)
  rw [gc_ret k hd]
  show Re.ok d ((c' :: (t ++ l)).take (t.length + 1)) = _
  rw [List.take_succ_cons, List.take_left']
  rfl
theorem cut_to {ds : List D} {k : Nat} (h : k ≤ ds.length) : cutD ds none (some (k : Int)) = ds.take k := by
  unfold cutD
  rw [HT.sIx_none, HT.sIx_nat, Nat.min_eq_left h]
  simp
theorem cut_from {ds : List D} {k : Nat} (h : k ≤ ds.length) : cutD ds (some (k : Int)) none = ds.drop k := by
  unfold cutD
  rw [HT.sIx_none, HT.sIx_nat, Nat.min_eq_left h]
  exact List.take_of_length_le (by simp)
theorem gc_nil {st : Store} {d : D} (h : lf d = true) : gcRet [] d st = .ok d [] := by
  rw [gc_ret (fun i hi => by simp at hi) h]
  rfl
theorem rng_drop {lo : Int} {n j : Nat} {d : D} {r : List D} (h : (rng lo n).drop j = d :: r) : j < n ∧ d = .int (lo + j) ∧ r = (rng lo n).drop (j + 1) := by
  have hj : j < n := by
    rcases Nat.lt_or_ge j n with h1 | h1
    · exact h1
    · rw [List.drop_eq_nil_of_le (by simpa using h1)] at h
      cases h
  rw [List.drop_eq_getElem_cons (by simpa using hj)] at h
  injection h with h1 h2
  refine ⟨hj, ?_, h2.symm⟩
  rw [← h1]
  simp [rng]
theorem rng_end {lo : Int} {n j : Nat} (h : [] = (rng lo n).drop j) : n ≤ j := by
  have := congrArg List.length h
  simp at this
  omega
theorem max2_int {i j : Int} {st : Store} : maxD [.int i, .int j] st = .ok (.int (if j > i then j else i)) st := rfl
theorem compGo_map {α : Type} {g : TM} {e : EM} {gd : Store → Prop} {vs : Vars} {st : Store} {f h : α → D} (hg : gd st) : ∀ {xs : List α},
    (∀ x ∈ xs, ∃ vs1, g (f x) vs = some vs1 ∧ e vs1 st = .ok (h x) st) → compGo g (eC (.bl true)) e gd vs (xs.map f) st = .ok (xs.map h) st
  | [], _ => by
    show compGo g (eC (.bl true)) e gd vs [] st = _
    unfold compGo
    rw [if_pos hg]
    rfl
  | x :: xs, H => by
    show compGo g (eC (.bl true)) e gd vs (f x :: xs.map f) st = _
    unfold compGo
    rw [if_pos hg]
    obtain ⟨vs1, e1, e2⟩ := H x List.mem_cons_self
    have ih := compGo_map hg fun y hy => H y (List.mem_cons_of_mem _ hy)
    rw [e1]
    simp only [eC_eq, okk_ok, e2, ih, List.map_cons]
theorem compGo_fmap {α : Type} {g : TM} {t e : EM} {gd : Store → Prop} {vs : Vars} {st : Store} {f h : α → D} {p : α → Bool} (hg : gd st) : ∀ {xs : List α},
    (∀ x ∈ xs, ∃ vs1, g (f x) vs = some vs1 ∧ t vs1 st = .ok (.bl (p x)) st ∧ (p x = true → e vs1 st = .ok (h x) st)) → compGo g t e gd vs (xs.map f) st = .ok ((xs.filter p).map h) st
  | [], _ => by
    show compGo g t e gd vs [] st = _
    unfold compGo
    rw [if_pos hg]
    rfl
  | x :: xs, H => by
    show compGo g t e gd vs (f x :: xs.map f) st = _
    unfold compGo
    rw [if_pos hg]
    obtain ⟨vs1, e1, e2, e3⟩ := H x List.mem_cons_self
    have ih := compGo_fmap hg fun y hy => H y (List.mem_cons_of_mem _ hy)
    rw [e1]
    simp only [e2, okk_ok]
    cases hp : p x with
    | true => simp only [e3 hp, okk_ok, ih, List.filter_cons, hp, if_true, List.map_cons]
    | false => simp only [ih, List.filter_cons, hp, Bool.false_eq_true, if_false]
end Dn
namespace Dn
open PySem PySem.Spec PyProof.Rows L2
/-! ### sorted(xs), min(xs) of like data -/
def isTupC : PyData → Bool
  | .tuple (_ :: _) => true
  | _ => false
def notTN : PyData → Bool
  | .tuple _ => false
  | .none => false
  | _ => true
def likes (ds : List D) : Bool := (ds.map pd).all fun x => (ds.map pd).all fun y => PySem.W.alike x y
def srtOk (ds : List D) : Bool := ds.all (okd 40) && (likes ds && ((ds.map pd).all isTupC || (ds.map pd).all notTN))
def leDt (x y : D) : Bool := PySem.W.dataLe false pd x y
def sortedD (b : Bool) : List D → Store → Re D := one fun x st => opt (lstOf st x) fun ds => if srtOk ds = true then mkNew b (ds.mergeSort leDt) st else .bad
def ltDt (x y : D) : Bool := PySem.W.dataLt (pd x) (pd y)
def minDt (x : D) (xs : List D) : D := xs.foldl (fun a y => if ltDt y a then y else a) x
def notNon : D → Bool
  | .non => false
  | _ => true
def minB (xs : List D) (st : Store) : Re D := match xs with
  | [x] => match (lstOf st x).bind intsOf with
    | some _ => min1 x st
    | none => match lstOf st x with
      | some (d :: ds) => if ((d :: ds).all (okd 40) && (likes (d :: ds) && (d :: ds).all notNon)) = true then .ok (minDt d ds) st else .bad
      | _ => .bad
  | _ => minD xs st
theorem likes_all {ds : List D} (h : likes ds = true) : PySem.W.AllAlike (ds.map pd) := fun d hd d' hd' => by
  unfold likes at h
  rw [List.all_eq_true] at h
  exact List.all_eq_true.mp (h d hd) d' hd'
theorem sortable_of {ds : List D} (h : ((ds.map pd).all isTupC || (ds.map pd).all notTN) = true) : PySem.W.Sortable (ds.map pd) := by
  rw [Bool.or_eq_true] at h
  rcases h with h | h
  · refine .inl fun d hd => ?_
    have := List.all_eq_true.mp h d hd
    cases d with
    | tuple xs =>
      cases xs with
      | nil => cases this
      | cons x r => exact ⟨x, r, rfl⟩
    | _ => cases this
  · refine .inr fun d hd => ?_
    have := List.all_eq_true.mp h d hd
    refine ⟨fun e => ?_, fun xs e => ?_⟩
    · subst e; cases this
    · subst e; cases this
def rSortA (K : PySem.W.Frag) : List V → Hp → VK → Prop := fun vs H Q => ∃ (a : Addr) (ps : List (V × D)), vs = [V.ref a] ∧ SqL K H a (ps.map Prod.fst) ∧ DpAll K H (ps.map Prod.fst) ((ps.map Prod.snd).map pd) ∧ srtOk (ps.map Prod.snd) = true ∧
  ∀ p, H p = none → Q (.ref p) (upd H p (.lst ((ps.mergeSort (PySem.W.dataLe false fun p => pd p.2)).map Prod.fst)))
theorem each_vals : ∀ {ps : List (V × D)} {its : List Value}, Vals (ps.map Prod.fst) its → PySem.W.EachIs (fun v (p : V × D) => RelV p.1 v) its ps
  | [], _, r => by
    cases r
    exact .nil
  | p :: ps, _, r => by
    cases r with
    | cons r1 r2 => exact .cons r1 (each_vals r2)
theorem vals_each : ∀ {ps : List (V × D)} {its : List Value}, PySem.W.EachIs (fun v (p : V × D) => RelV p.1 v) its ps → Vals (ps.map Prod.fst) its
  | [], _, r => by
    cases r
    exact .nil
  | p :: ps, _, r => by
    cases r with
    | cons r1 r2 => exact .cons r1 (vals_each r2)
theorem cr_sortA {X : Cx} (hu : X.A.units + 65 < cLine) : CallR X (.builtin "sorted") (rSortA X.K) := by
  intro pins s σ H vs us Q I r h
  obtain ⟨a, ps, rfl, hs, hd, ho, q⟩ := h
  obtain ⟨its, rv, hl, hz⟩ := I.list hs
  rw [Vals.ref1 r]
  have e := each_vals rv
  obtain ⟨as, hra⟩ := Dp.readsAll I _ _ its hd rv
  rw [List.map_map] at hra
  have er : PySem.W.EachIs (fun v (p : V × D) => ∃ as, Reads s.heap v (pd p.2) as) its ps := PySem.W.readsAll_each (fun p : V × D => pd p.2) hra
  unfold srtOk at ho
  rw [Bool.and_eq_true, Bool.and_eq_true] at ho
  obtain ⟨h1, h2, h3⟩ := ho
  have e2 : ps.map (fun p : V × D => pd p.2) = (ps.map Prod.snd).map pd := by rw [List.map_map]; rfl
  have hal : PySem.W.AllAlike (ps.map fun p : V × D => pd p.2) := by rw [e2]; exact likes_all h2
  have hk : PySem.W.Sortable (ps.map fun p : V × D => pd p.2) := by rw [e2]; exact sortable_of h3
  rw [List.length_map] at hz
  refine PySem.W.sorted_data hl.isList e er hal hk hz (fun p hp => ?_) fun out hol eo => ?_
  · have := (okd_shape 40 p.2 (List.all_eq_true.mp h1 p.2 (List.mem_map_of_mem hp))).2
    omega
  · obtain ⟨ep, he'⟩ := PyProof.Rows.sortedAll_at s.heap its out.toArray
    have hlen : ((ps.mergeSort (PySem.W.dataLe false fun p : V × D => pd p.2)).map Prod.fst).length ≤ sizeLine := by
      rw [List.length_map, (List.mergeSort_perm _ _).length_eq]
      exact hz
    exact ⟨.ref _, upd H (s.heap.objs.size + 1) (.lst ((ps.mergeSort (PySem.W.dataLe false fun p : V × D => pd p.2)).map Prod.fst)), I.laid (t' := s.toks) (fun _ _ => PyProof.Rows.sortedAll_old) (Nat.le_succ _) ⟨hlen, out, ep, vals_each eo, he'⟩, rfl, q _ (I.hok.fresh (Nat.le_succ _))⟩
section
variable {K : PySem.W.Frag} {mg : Str → Option Value} {μ : List Addr} {G H : Hp}
theorem reps_zip : ∀ {ds : List D} {vs : List V}, Reps K μ G ds vs → ∃ ps : List (V × D), ps.map Prod.fst = vs ∧ ps.map Prod.snd = ds ∧ ∀ p ∈ ps, Rep K μ G p.2 p.1
  | [], vs, h => by
    rw [reps_nil h]
    exact ⟨[], rfl, rfl, fun _ h => by cases h⟩
  | d :: ds, vs, h => by
    obtain ⟨v, r, rfl, hv, t⟩ := reps_cons h
    obtain ⟨ps, h1, h2, h3⟩ := reps_zip t
    refine ⟨(v, d) :: ps, by rw [List.map_cons, h1], by rw [List.map_cons, h2], fun p hp => ?_⟩
    rcases List.mem_cons.mp hp with rfl | hp
    · exact hv
    · exact h3 p hp
theorem zip_reps : ∀ {ps : List (V × D)}, (∀ p ∈ ps, Rep K μ G p.2 p.1) → Reps K μ G (ps.map Prod.snd) (ps.map Prod.fst)
  | [], _ => .nil
  | p :: ps, h => .cons (h p List.mem_cons_self) (zip_reps fun q hq => h q (List.mem_cons_of_mem _ hq))
theorem zip_dp (e : Ex G H) {n : Nat} : ∀ {ps : List (V × D)}, (∀ p ∈ ps, Rep K μ G p.2 p.1) → (ps.map Prod.snd).all (okd n) = true → DpAll K H (ps.map Prod.fst) ((ps.map Prod.snd).map pd)
  | [], _, _ => .nil
  | p :: ps, h, o => by
    rw [List.map_cons, List.all_cons, Bool.and_eq_true] at o
    exact .cons (rep_dp e n p.2 p.1 o.1 (h p List.mem_cons_self)) (zip_dp e (fun q hq => h q (List.mem_cons_of_mem _ hq)) o.2)
theorem sort_snd {ps : List (V × D)} : (ps.mergeSort (PySem.W.dataLe false fun p => pd p.2)).map Prod.snd = (ps.map Prod.snd).mergeSort leDt := by
  refine List.map_mergeSort fun a _ b _ => ?_
  rfl
theorem s_sorted (b : Bool) : SN K mg (sortedD b) (rSortA K) := sn_one fun W σ μ G F st H x v Q k rv h => by
  obtain ⟨ds, e, h⟩ := opt_done h
  obtain ⟨ho, h⟩ := ite_done h
  obtain ⟨a, ws, rfl, hs, rw'⟩ := lstOf_rep k rv e
  obtain ⟨ps, rfl, rfl, hp⟩ := reps_zip rw'
  have ho2 := ho
  unfold srtOk at ho2
  rw [Bool.and_eq_true] at ho2
  refine ⟨a, ps, rfl, .of hs, zip_dp k.ex hp ho2.1, ho, ?_⟩
  refine new_list k (ds := (ps.map Prod.snd).mergeSort leDt) ?_ h
  rw [← sort_snd]
  exact zip_reps fun p h' => hp p ((List.mergeSort_perm _ _).mem_iff.mp h')
end
/-! ### min -/
def foldP (p : V × D) (ps : List (V × D)) : V × D := ps.foldl (fun a y => if ltDt y.2 a.2 then y else a) p
theorem foldP_snd : ∀ (p : V × D) (ps : List (V × D)), (foldP p ps).2 = minDt p.2 (ps.map Prod.snd)
  | _, [] => rfl
  | p, q :: ps => by
    show (foldP (if ltDt q.2 p.2 then q else p) ps).2 = minDt (if ltDt q.2 p.2 then q.2 else p.2) (ps.map Prod.snd)
    rw [foldP_snd]
    by_cases h : ltDt q.2 p.2 = true
    · rw [if_pos h, if_pos h]
    · rw [if_neg h, if_neg h]
theorem foldP_mem : ∀ (p : V × D) (ps : List (V × D)), foldP p ps ∈ p :: ps
  | _, [] => List.mem_cons_self
  | p, q :: ps => by
    have h := foldP_mem (if ltDt q.2 p.2 then q else p) ps
    show foldP (if ltDt q.2 p.2 then q else p) ps ∈ _
    rcases List.mem_cons.mp h with h | h
    · rw [h]
      by_cases h2 : ltDt q.2 p.2 = true
      · rw [if_pos h2]; exact List.mem_cons_of_mem _ List.mem_cons_self
      · rw [if_neg h2]; exact List.mem_cons_self
    · exact List.mem_cons_of_mem _ (List.mem_cons_of_mem _ h)
def rMinD (K : PySem.W.Frag) : List V → Hp → VK → Prop := fun vs H Q => ∃ (a : Addr) (p : V × D) (ps : List (V × D)), vs = [V.ref a] ∧ SqL K H a ((p :: ps).map Prod.fst) ∧ DpAll K H ((p :: ps).map Prod.fst) (((p :: ps).map Prod.snd).map pd) ∧
  (((p :: ps).map Prod.snd).all (okd 40) && (likes ((p :: ps).map Prod.snd) && ((p :: ps).map Prod.snd).all notNon)) = true ∧ Q (foldP p ps).1 H
theorem getD_pd (l : List (V × D)) (i : Nat) : ((l.map Prod.snd).map pd).getD i .none = pd (l.getD i (V.non, D.non)).2 := by
  rw [List.getD_eq_getElem?_getD, List.getD_eq_getElem?_getD, List.getElem?_map, List.getElem?_map]
  cases l[i]? <;> rfl
theorem cr_minD {X : Cx} (hc : X.calm = true) (hu : X.A.units + 65 < cLine) : CallR X (.builtin "min") (rMinD X.K) := by
  intro pins s σ H vs us Q I r h
  obtain ⟨a, p, ps, rfl, hs, hd, ho, q⟩ := h
  obtain ⟨its, rv, hl, hz⟩ := I.list hs
  rw [Vals.ref1 r]
  obtain ⟨as, hra⟩ := Dp.readsAll I _ _ its hd rv
  rw [Bool.and_eq_true, Bool.and_eq_true] at ho
  obtain ⟨h1, h2, h3⟩ := ho
  have hln : its.toArray.size = ps.length + 1 := by
    have := rv.length
    rw [List.length_map, List.length_cons] at this
    simp only [List.size_toArray]
    exact this.symm
  have hal : PySem.W.AlikeAll (((p :: ps).map Prod.snd).map pd) := ⟨fun x hx y hy => likes_all h2 x hx y hy, fun x hx e => by
    obtain ⟨d, hd, rfl⟩ := List.mem_map.mp hx
    have := List.all_eq_true.mp h3 d hd
    have h4 := List.all_eq_true.mp h1 d hd
    cases d with
    | non => cases this
    | frz _ => simp [okd] at h4
    | loc _ => simp [okd] at h4
    | exn _ _ _ => simp [okd] at h4
    | _ => simp [pd] at e⟩
  have hdep : PyData.depthAll (((p :: ps).map Prod.snd).map pd) ≤ 40 := by
    have all : ∀ ds : List D, ds.all (okd 40) = true → PyData.depthAll (ds.map pd) ≤ 40 := fun ds => by
      induction ds with
      | nil => intro _; simp [PyData.depthAll]
      | cons d ds ih =>
        intro h
        rw [List.all_cons, Bool.and_eq_true] at h
        have := (okd_shape 40 d h.1).2
        have := ih h.2
        rw [List.map_cons, PyData.depthAll]
        omega
    exact all _ h1
  have hcm := PySem.W.cmpIn_lt (prog := X.prog) (w := X.w) (A := X.A.in1) (s := s) (vs := its.toArray) hra hal (by show X.A.units + 1 + _ < _; omega)
  have e0 : (fun i j => PySem.W.dataLt ((((p :: ps).map Prod.snd).map pd).getD i .none) ((((p :: ps).map Prod.snd).map pd).getD j .none)) = fun i j => (fun x y : V × D => ltDt x.2 y.2) ((p :: ps).getD i (V.non, D.non)) ((p :: ps).getD j (V.non, D.non)) := by
    funext i j
    rw [getD_pd, getD_pd]
    rfl
  rw [e0] at hcm
  refine call_min_walkH (PySem.W.iter_listW (A := X.A.in1) (I.ok.hd hc) hl.isList fun s₂ e W st hfp hw hk => ?_)
  refine ⟨_, _, _, _, _, _, _, s.heap, _, rfl, W, st, hfp, by omega, hw, hk, hcm, fun v s' hP m => ?_⟩
  obtain ⟨h', tk, rfl, hk'⟩ := PySem.W.moved_old e rfl m
  obtain ⟨f1, f2⟩ := PySem.W.argBest_fold (fun x y : V × D => ltDt x.2 y.2) (V.non, D.non) p ps ps.length (Nat.le_refl _)
  rw [List.take_length] at f2
  have e1 : its.toArray.size - 1 = ps.length := by omega
  rw [e1] at hP
  have hi : argBest (fun i j => (fun x y : V × D => ltDt x.2 y.2) ((p :: ps).getD i (V.non, D.non)) ((p :: ps).getD j (V.non, D.non))) ps.length < (p :: ps).length := by
    rw [List.length_cons]
    exact Nat.lt_succ_of_le f1
  have hg : (p :: ps)[argBest (fun i j => (fun x y : V × D => ltDt x.2 y.2) ((p :: ps).getD i (V.non, D.non)) ((p :: ps).getD j (V.non, D.non))) ps.length]? = some (foldP p ps) := by
    rw [List.getD_eq_getElem?_getD, List.getElem?_eq_getElem hi] at f2
    rw [List.getElem?_eq_getElem hi]
    exact congrArg some f2
  obtain ⟨u, hu1, hu2⟩ := Vals.get rv (i := argBest (fun i j => (fun x y : V × D => ltDt x.2 y.2) ((p :: ps).getD i (V.non, D.non)) ((p :: ps).getD j (V.non, D.non))) ps.length) (x := (foldP p ps).1) (by rw [List.getElem?_map, hg]; rfl)
  have hP' : its[argBest (fun i j => (fun x y : V × D => ltDt x.2 y.2) ((p :: ps).getD i (V.non, D.non)) ((p :: ps).getD j (V.non, D.non))) ps.length]? = some v := by
    rw [← List.getElem?_toArray]
    exact hP
  rw [hP'] at hu1
  injection hu1 with hu1
  subst hu1
  exact ⟨_, H, I.kept hk', hu2, q⟩
abbrev rMinB (K : PySem.W.Frag) : List V → Hp → VK → Prop := fun xs H Q => rMinA K xs H Q ∨ rMinD K xs H Q
theorem or_minB {X : Cx} (hc : X.calm = true) (hu : X.A.units + 65 < cLine) : CallR X (.builtin "min") (rMinB X.K) := (or_min hc).or (cr_minD hc hu)
theorem s_minB {K : PySem.W.Frag} {mg : Str → Option Value} : SN K mg minB (rMinB K) := fun W σ μ G F st H xs vs Q k rv h => by
  match xs, rv, h with
  | [x], rv, h =>
    cases e1 : (lstOf st x).bind intsOf with
    | some ns =>
      have e : minB [x] st = minD [x] st := by
        unfold minB minD
        simp only [e1]
      rw [e] at h
      exact .inl (s_min W σ μ G F st H [x] vs Q k rv h)
    | none =>
      cases e2 : lstOf st x with
      | none =>
        have e : minB [x] st = .bad := by
          unfold minB
          dsimp only
          rw [e1]
          dsimp only
          rw [e2]
        rw [e] at h
        exact h.elim
      | some ds =>
        cases ds with
        | nil =>
          have e : minB [x] st = .bad := by
            unfold minB
            dsimp only
            rw [e1]
            dsimp only
            rw [e2]
          rw [e] at h
          exact h.elim
        | cons d ds =>
          have e : minB [x] st = if ((d :: ds).all (okd 40) && (likes (d :: ds) && (d :: ds).all notNon)) = true then .ok (minDt d ds) st else .bad := by
            unfold minB
            dsimp only
            rw [e1]
            dsimp only
            rw [e2]
          rw [e] at h
          obtain ⟨ho, h⟩ := ite_done h
          obtain ⟨v, r, rfl, hv, t⟩ := reps_cons rv
          rw [reps_nil t]
          obtain ⟨a, ws, rfl, hs, rw'⟩ := lstOf_rep k hv e2
          obtain ⟨ps, e3, e4, hp⟩ := reps_zip rw'
          cases ps with
          | nil => cases e4
          | cons p ps =>
            rw [← e4] at ho
            have ho2 := ho
            rw [Bool.and_eq_true] at ho2
            injection e4 with e5 e6
            subst e5 e6
            refine .inr ⟨a, p, ps, rfl, by rw [e3]; exact .of hs, zip_dp k.ex hp ho2.1, ho, ?_⟩
            refine fin_here k h ?_
            rw [← foldP_snd]
            exact hp _ (foldP_mem p ps)
  | [], rv, h => exact .inl (s_min W σ μ G F st H [] vs Q k rv h)
  | x :: y :: r, rv, h => exact .inl (s_min W σ μ G F st H (x :: y :: r) vs Q k rv h)
end Dn
namespace Dn
open PySem PySem.Spec PyProof.Rows L2
/-! ### more values -/
section
variable {st : Store} {b p q : Bool} {i j : Int} {z y : Str} {ds es : List D} {x : D} {n : Nat}
@[simp] theorem is_bl : isD (.bl p) (.bl q) st = .ok (.bl (decide (p = q))) st := rfl
@[simp] theorem is_bl_non : isD (.bl p) .non st = .ok (.bl false) st := rfl
@[simp] theorem is_non_non : isD .non .non st = .ok (.bl true) st := rfl
@[simp] theorem is_int_non : isD (.int i) .non st = .ok (.bl false) st := rfl
@[simp] theorem is_str_non : isD (.str z) .non st = .ok (.bl false) st := rfl
@[simp] theorem is_tup_non : isD (.tup ds) .non st = .ok (.bl false) st := rfl
@[simp] theorem isnot_bl_non : isnotD (.bl p) .non st = .ok (.bl true) st := rfl
@[simp] theorem isnot_non_non : isnotD .non .non st = .ok (.bl false) st := rfl
@[simp] theorem isnot_int_non : isnotD (.int i) .non st = .ok (.bl true) st := rfl
@[simp] theorem isnot_str_non : isnotD (.str z) .non st = .ok (.bl true) st := rfl
@[simp] theorem isnot_tup_non : isnotD (.tup ds) .non st = .ok (.bl true) st := rfl
@[simp] theorem ne_bl : neD (.bl p) (.bl q) st = .ok (.bl !(decide (p = q))) st := rfl
@[simp] theorem eq_non_non : eqD .non .non st = .ok (.bl true) st := rfl
@[simp] theorem eqv_bl : eqvD (.bl p) (.bl q) = decide (p = q) := by
  unfold eqvD
  cases p <;> cases q <;> simp [pd, PyData.eqv]
@[simp] theorem eqv_non_non : eqvD .non .non = true := by simp [eqvD, pd, PyData.eqv]
@[simp] theorem eqv_non_bl : eqvD .non (.bl p) = false := by simp [eqvD, pd, PyData.eqv]
@[simp] theorem eqv_bl_non : eqvD (.bl p) .non = false := by simp [eqvD, pd, PyData.eqv]
@[simp] theorem eqv_int_non : eqvD (.int i) .non = false := by simp [eqvD, pd, PyData.eqv]
@[simp] theorem eqv_non_int : eqvD .non (.int i) = false := by simp [eqvD, pd, PyData.eqv]
@[simp] theorem eqv_str_non : eqvD (.str z) .non = false := by simp [eqvD, pd, PyData.eqv]
@[simp] theorem eqv_non_str : eqvD .non (.str z) = false := by simp [eqvD, pd, PyData.eqv]
@[simp] theorem shl_int : shlD (.int i) (.int j) st = if 0 ≤ j ∧ j ≤ 1000000 ∧ i.natAbs < 2 ^ 64 then .ok (.int (i * 2 ^ j.toNat)) st else .bad := rfl
@[simp] theorem shr_int : shrD (.int i) (.int j) st = if 0 ≤ j then .ok (.int (i / 2 ^ j.toNat)) st else .bad := rfl
@[simp] theorem and_int : andD (.int i) (.int j) st = .ok (.int (Builtin.bitAnd i j)) st := rfl
@[simp] theorem and_one : Builtin.bitAnd i 1 = i % 2 := bitAnd_m1 i
@[simp] theorem cut_tail : cutD (x :: ds) (some 1) none = ds := by
  have := cut_from (ds := x :: ds) (k := 1) (by simp)
  simpa using this
theorem cut_from1 : cutD ds (some 1) none = ds.drop 1 := by
  cases ds with
  | nil => rfl
  | cons x ds => simp
@[simp] theorem sl_lst {lo hi : Option Int} : sliceD b (.lst ds) lo hi st = mkNew b (cutD ds lo hi) st := rfl
@[simp] theorem sum_eq : sumD [x] st = opt ((lstOf st x).bind intsOf) fun ns => .ok (.int ns.sum) st := rfl
@[simp] theorem all_eq : allD [x] st = opt ((lstOf st x).bind blsOf) fun bs => .ok (.bl (bs.all id)) st := rfl
@[simp] theorem any_eq : anyD [x] st = opt ((lstOf st x).bind blsOf) fun bs => .ok (.bl (bs.any id)) st := rfl
@[simp] theorem sorted_eq : sortedD b [x] st = opt (lstOf st x) fun ds => if srtOk ds = true then mkNew b (ds.mergeSort leDt) st else .bad := rfl
@[simp] theorem intsOf_nil : intsOf [] = some [] := rfl
@[simp] theorem intsOf_cons : intsOf (.int i :: ds) = (intsOf ds).map (i :: ·) := rfl
@[simp] theorem blsOf_nil : blsOf [] = some [] := rfl
@[simp] theorem blsOf_cons : blsOf (.bl p :: ds) = (blsOf ds).map (p :: ·) := rfl
end
@[simp] theorem intsOf_ints {α : Type} {f : α → Int} : ∀ {xs : List α}, intsOf (xs.map fun a => .int (f a)) = some (xs.map f)
  | [] => rfl
  | x :: xs => by
    show (intsOf (xs.map fun a => .int (f a))).map (f x :: ·) = _
    rw [intsOf_ints]
    rfl
@[simp] theorem blsOf_bls {α : Type} {f : α → Bool} : ∀ {xs : List α}, blsOf (xs.map fun a => .bl (f a)) = some (xs.map f)
  | [] => rfl
  | x :: xs => by
    show (blsOf (xs.map fun a => .bl (f a))).map (f x :: ·) = _
    rw [blsOf_bls]
    rfl
theorem intsOf_map' {ns : List Int} : intsOf (ns.map .int) = some ns := by
  have := intsOf_ints (f := id) (xs := ns)
  simpa using this
/-- numbers in a tuple or a list -/
theorem any_eqv_int {α : Type} {f : α → Int} {xs : List α} {i : Int} : (xs.map fun a => D.int (f a)).any (fun z => eqvD z (.int i)) = decide (∃ a ∈ xs, f a = i) := by
  rw [List.any_map]
  induction xs with
  | nil => simp
  | cons x xs ih => simp_all
theorem all_flat_int {α : Type} {f : α → Int} {xs : List α} : (xs.map fun a => D.int (f a)).all flatD = true := by
  rw [List.all_map]
  exact List.all_eq_true.mpr fun _ _ => rfl
theorem in_ints {α : Type} {f : α → Int} {xs : List α} {i : Int} {st : Store} {y : D} (h : seqOf st y = some (xs.map fun a => D.int (f a))) : inD (.int i) y st = .ok (.bl (decide (∃ a ∈ xs, f a = i))) st := by
  rw [in_flat rfl all_flat_int h, any_eqv_int]
theorem nin_ints {α : Type} {f : α → Int} {xs : List α} {i : Int} {st : Store} {y : D} (h : seqOf st y = some (xs.map fun a => D.int (f a))) : ninD (.int i) y st = .ok (.bl !(decide (∃ a ∈ xs, f a = i))) st := by
  rw [nin_flat rfl all_flat_int h, any_eqv_int]
theorem rng_map {lo : Int} {n : Nat} : rng lo n = (List.range n).map fun (i : Nat) => D.int (lo + i) := rfl
theorem rng0_map {n : Nat} : rng 0 n = (List.range n).map fun (i : Nat) => D.int (i : Nat) := by
  unfold rng
  refine List.map_congr_left fun i _ => ?_
  rw [Int.zero_add]
/-! ### the order of data -/
theorem le_trans {x y z : D} (h : leDt x y = true) (k : leDt y z = true) : leDt x z = true := (PySem.W.sortLe_total (listOrd itemOrd) false fun b : D => PySem.W.keyToks (pd b)).trans x y z h k
theorem le_total (x y : D) : leDt x y = true ∨ leDt y x = true := (PySem.W.sortLe_total (listOrd itemOrd) false fun b : D => PySem.W.keyToks (pd b)).total x y
theorem sort_pw {ds : List D} : (ds.mergeSort leDt).Pairwise fun x y => leDt x y = true := List.pairwise_mergeSort (le := leDt) (fun _ _ _ h k => le_trans h k) (fun x y => by rw [Bool.or_eq_true]; exact le_total x y) ds
theorem leDt_is (x y : D) : leDt x y = !ltDt y x := rfl
theorem lt_of_eqv {x y : PyData} (ha : PySem.W.alike x y = true) (h : PyData.eqv x y = true) : PySem.W.dataLt x y = false := by
  unfold PySem.W.dataLt
  rw [(PySem.W.toks_eqv x y ha).1 h]
  exact PyProof.Rows.lex_irrefl (O := itemOrd) _
theorem inA_loc {neg : Bool} {f : D → D → Store → Re D} {x : D} {n : Nat} {ds : List D} {st : Store} (h : lstAt st n = some ds) : inA neg f x (.loc n) st = f x (.loc n) st := by
  have e1 : dGet st (.loc n) x = none := by
    unfold dGet
    simp only [lstAt_cell h]
  unfold inA
  rw [e1]
end Dn
namespace Dn
open PySem PySem.Spec PyProof.Rows L2
section
variable {P : Program} {w : World} {B : Around} {Er : Value → Shared → Prop} {z : Shared}
/-- what a set is made as -/
abbrev fresh (w : World) : Obj := { cls := .type "set", dict := none, data := .set #[] 0 (.fresh 0 0 (!w.params.followText "set-order")) }
theorem made_set {x : Value} {Q : Value → Shared → Prop} {T : Shared → Prop}
    (hi : wpAny (model P w) B.in1.in1 (Builtin.«set.__init__» ⟨[.ref z.heap.objs.size, x], []⟩) (fun f z2 => f = .done (.ret .none) ∧ T z2) (fun _ _ => False) { z with heap := z.heap.push (fresh w) })
    (hq : ∀ z2, T z2 → Q (.ref z.heap.objs.size) z2) :
    wpAny (model P w) B (call (.type "set") [x]) Q Er z := by
  obtain ⟨c0, l0, m0⟩ := F.called_set.mro
  have mk := F.called_set.made
  have sb := F.called_set.sub
  refine wpAny_call (codeAny_of_tree ?_)
  show wpAny _ _ (callAny (.type "set") _) _ _ _
  refine wpAny_pure ⟨Code.quiet_builtin _ (by decide +kernel), codeAny_builtin F.entry_type_call ?_⟩
  rw [Around.under_plain (weight_type_call_type "set" [x] []) rfl]
  have p1 := F.called_set.notType
  have p2 := F.called_set.canCreate
  have p3 := F.typeCall_set_1 x
  repeat (any_goals (first | assumption | wp_step))
  refine codeAny_mono (code_set_led1 x (E := Er) (Q₁ := fun v z1 => v = .ref z.heap.objs.size ∧ z1 = { z with heap := z.heap.push (fresh w) }) ⟨rfl, rfl⟩) fun r z1 hr => ?_
  rcases r with er | fl
  · exact hr
  rcases fl with _ | _ | _ | v
  · exact hr.elim
  · exact hr.elim
  · exact hr.elim
  · skip
    obtain ⟨rfl, rfl⟩ := hr
    have at0 : (z.heap.push (fresh w)).get? z.heap.objs.size = some (fresh w) := Heap.get?_push_size _ rfl
    have ty0 : Shared.TypeIs { z with heap := z.heap.push (fresh w) } (.ref z.heap.objs.size) "set" := ⟨_, at0, rfl⟩
    have i1 := F.called_set.init.lookup
    have i2 := F.called_set.init.bind (.ref z.heap.objs.size)
    repeat (any_goals (first | assumption | wp_step))
    refine codeAny_mono (codeAny_call_builtin (R := wants (fun r z2 => r = .none ∧ T z2) Er) F.called_set.init.plain F.entry_set_init (check_set_init_1 ty0 ?_)) fun r2 z2 h2 => ?_
    · refine wpAny_mono hi (fun f z2 h => ?_) fun _ _ h => h.elim
      obtain ⟨rfl, h⟩ := h
      exact ⟨rfl, h⟩
    · rcases r2 with er | fl
      · exact h2
      · rcases fl with _ | _ | _ | v
        · exact h2.elim
        · exact h2.elim
        · exact h2.elim
        · obtain ⟨rfl, h⟩ := h2
          repeat (any_goals (first | assumption | wp_step))
          exact hq _ h
theorem set_lst {l : Addr} {xs : Array Value} (ns : List Int) {Q : Value → Shared → Prop} (nh : B.handled = none) (hl : z.heap.IsList l xs) (hx : IntsAre xs.toList ns) (hb : ns.length + 1 < scanBound)
    (hq : ∀ (g : Heap) (tk c : Nat), SetR w g z.heap.objs.size (fun j => decide (j ∈ ns)) c → c ≤ ns.length → (∀ b o, z.heap.get? b = some o → g.get? b = some o) → Q (.ref z.heap.objs.size) { z with heap := g, toks := tk }) :
    wpAny (model P w) B (call (.type "set") [.ref l]) Q Er z := by
  have hn : xs.size = ns.length := by
    have e := hx.length
    rwa [Array.length_toList] at e
  have hlz : l < z.heap.objs.size := by
    obtain ⟨o, ho, _⟩ := hl
    exact Heap.lt_size ho
  have l2 : (z.heap.push (fresh w)).IsList l xs := hl.push _
  refine made_set (T := fun z2 => ∃ g tk c, z2 = { z with heap := g, toks := tk } ∧ SetR w g z.heap.objs.size (fun j => decide (j ∈ ns)) c ∧ c ≤ ns.length ∧ ∀ b o, z.heap.get? b = some o → g.get? b = some o) ?_ fun z2 h => ?_
  · obtain ⟨⟨lc, ld, lx, ls⟩, ho, lcls, ln, ldat⟩ := hl
    simp only at lcls ldat
    subst lcls ldat
    have ho2 : (z.heap.push (fresh w)).get? l = some ⟨.type "list", ld, .seq xs ln, ls⟩ := Heap.get?_push_of_some _ ho
    have k1 := F.sub_list_set
    have k2 := F.sub_list_frozenset
    have k3 : (Value.type "list" == Value.type "dict") = false := by decide
    unfold Builtin.«set.__init__» noKeywords Builtin.Frozenset.updateFrom
    generalize hPI : pyIter = PI
    wp_walk
    subst hPI
    refine wpAny_pyIter_list l2 (wpAny_bind (wpAny_runValue ?_))
    have zs : (z.heap.push (fresh w)).objs.size = z.heap.objs.size + 1 := Heap.size_push ..
    have nh3 : B.in1.in1.in1.handled = none := by simp [nh]
    have li : l ≠ (z.heap.push (fresh w)).objs.size := by
      rw [zs]
      exact Nat.ne_of_lt (Nat.lt_succ_of_lt hlz)
    have off : z.heap.objs.size ∉ [(z.heap.push (fresh w)).objs.size, l] := by
      rw [zs]
      simp only [List.mem_cons, List.not_mem_nil, or_false, not_or]
      exact ⟨Nat.ne_of_lt (Nat.lt_succ_self _), Nat.ne_of_gt hlz⟩
    have items : ∀ (i : Nat) (v : Value), xs[i]? = some v → ∃ k t, ns[i]? = some k ∧ v = .int k t := fun i v hv => by
      have hi : i < ns.length := hn ▸ (Array.getElem?_eq_some_iff.mp hv).1
      obtain ⟨t, e⟩ := IntsAre.int_at hx i v (by rw [Array.getElem?_toList]; exact hv)
      exact ⟨ns[i], t, List.getElem?_eq_getElem hi, by rw [e, List.getD_eq_getElem?_getD, List.getElem?_eq_getElem hi]; rfl⟩
    refine set_update_ints (Walks.list nh3 _ l li xs).toS _ off ns hn hb items (xs.size - 0) 0 _ (by omega) (Nat.zero_le _) ⟨⟨_, Heap.get?_push_size _ rfl, rfl, rfl⟩, l2.push _⟩
      ⟨0, Nat.le_refl 0, setR_new_at (Heap.get?_push_of_some _ (Heap.get?_push_size _ rfl))⟩ fun z3 c mv hc sr => ?_
    obtain ⟨g, g2, g3, tk, g5⟩ := z3
    obtain rfl : g2 = z.gens := mv.gens
    obtain rfl : g3 = z.drawn := mv.drawn
    obtain rfl : g5 = z.os := mv.os
    refine wpAny_pure ?_
    show wpAny _ _ (ret Value.none) _ _ _
    rw [hn] at hc
    refine wpAny_pure ⟨rfl, g, tk, c, rfl, sr, hc, fun b o e => ?_⟩
    have hb0 : b < z.heap.objs.size := Heap.lt_size e
    refine mv.heap b o ?_ (Heap.get?_push_of_some _ (Heap.get?_push_of_some _ e))
    simp only [List.mem_cons, List.not_mem_nil, or_false, not_or]
    exact ⟨Nat.ne_of_lt hb0, by rw [zs]; exact Nat.ne_of_lt (Nat.lt_succ_of_lt hb0)⟩
  · obtain ⟨g, tk, c, rfl, h1, h2, h3⟩ := h
    exact hq g tk c h1 h2 h3
theorem set_tpl {l : Addr} {xs : Array Value} (ks : List (Addr × List Int)) {Q : Value → Shared → Prop} (nh : B.handled = none) (hl : z.heap.IsTuple l xs) (hx : xs.toList = ks.map fun p => Value.ref p.1)
    (hk : ∀ p ∈ ks, IsT P w z.heap p.2 p.1) (hf : ks.length < 64) (hu : B.units + 3 < cLine)
    (hq : ∀ (g : Heap) (tk : Nat) L es ep t, SetTR P w g z.heap.objs.size L es ep t → Got ks ks.length L → (∀ b o, z.heap.get? b = some o → g.get? b = some o) → Q (.ref z.heap.objs.size) { z with heap := g, toks := tk }) :
    wpAny (model P w) B (call (.type "set") [.ref l]) Q Er z := by
  have hn : xs.size = ks.length := by
    have e := congrArg List.length hx
    rwa [Array.length_toList, List.length_map] at e
  have hlz : l < z.heap.objs.size := by
    obtain ⟨o, ho, _⟩ := hl
    exact Heap.lt_size ho
  have l2 : (z.heap.push (fresh w)).IsTuple l xs := hl.push _
  refine made_set (T := fun z2 => ∃ g tk L es ep t, z2 = { z with heap := g, toks := tk } ∧ SetTR P w g z.heap.objs.size L es ep t ∧ Got ks ks.length L ∧ ∀ b o, z.heap.get? b = some o → g.get? b = some o) ?_ fun z2 h => ?_
  · obtain ⟨⟨lc, ld, lx, ls⟩, ho, lcls, ln, ldat⟩ := hl
    simp only at lcls ldat
    subst lcls ldat
    have ho2 : (z.heap.push (fresh w)).get? l = some ⟨.type "tuple", ld, .seq xs ln, ls⟩ := Heap.get?_push_of_some _ ho
    have k1 := F.sub_tuple_set
    have k2 := F.sub_tuple_frozenset
    have k3 : (Value.type "tuple" == Value.type "dict") = false := by decide
    unfold Builtin.«set.__init__» noKeywords Builtin.Frozenset.updateFrom
    generalize hPI : pyIter = PI
    wp_walk
    subst hPI
    refine wpAny_pyIter_tuple l2 (wpAny_bind (wpAny_runValue ?_))
    have zs : (z.heap.push (fresh w)).objs.size = z.heap.objs.size + 1 := Heap.size_push ..
    have nh3 : B.in1.in1.in1.handled = none := by simp [nh]
    have li : l ≠ (z.heap.push (fresh w)).objs.size := by
      rw [zs]
      exact Nat.ne_of_lt (Nat.lt_succ_of_lt hlz)
    have off : z.heap.objs.size ∉ [(z.heap.push (fresh w)).objs.size, l] := by
      rw [zs]
      simp only [List.mem_cons, List.not_mem_nil, or_false, not_or]
      exact ⟨Nat.ne_of_lt (Nat.lt_succ_self _), Nat.ne_of_gt hlz⟩
    have items : ∀ (i : Nat) (v : Value), xs[i]? = some v → ∃ p, ks[i]? = some p ∧ v = .ref p.1 := fun i v hv => by
      have e : xs.toList[i]? = some v := by rw [Array.getElem?_toList]; exact hv
      rw [hx, List.getElem?_map] at e
      cases h : ks[i]? with
      | none => rw [h] at e; cases e
      | some p => rw [h] at e; exact ⟨p, rfl, (Option.some.inj e).symm⟩
    have away : ∀ b, z.heap.objs.size ≤ b → z.heap.get? b = none := fun b h => by
      cases e : z.heap.get? b with
      | none => rfl
      | some o => exact absurd (Nat.lt_of_lt_of_le (Heap.lt_size e) h) (Nat.lt_irrefl _)
    refine set_update_tups (Walks.tuple nh3 _ l li xs).toS _ off ks hn hf items z.heap hk (away _ (Nat.le_refl _)) (fun b hb => away b (by
        rw [List.mem_singleton.mp hb, zs]
        exact Nat.le_succ _)) hu (xs.size - 0) 0 _ (by omega) (Nat.zero_le _) ⟨⟨_, Heap.get?_push_size _ rfl, rfl, rfl⟩, l2.push _⟩ (fun b o e => Heap.get?_push_of_some _ (Heap.get?_push_of_some _ e))
      ⟨[], #[], 0, _, setTR_fresh (Heap.get?_push_of_some _ (Heap.get?_push_size _ rfl)), Got.zero ks⟩ fun z3 L es ep t mv sr gt kp => ?_
    obtain ⟨g, g2, g3, tk, g5⟩ := z3
    obtain rfl : g2 = z.gens := mv.gens
    obtain rfl : g3 = z.drawn := mv.drawn
    obtain rfl : g5 = z.os := mv.os
    refine wpAny_pure ?_
    show wpAny _ _ (ret Value.none) _ _ _
    rw [hn] at gt
    exact wpAny_pure ⟨rfl, g, tk, L, es, ep, t, rfl, sr, gt, kp⟩
  · obtain ⟨g, tk, L, es, ep, t, rfl, h1, h2, h3⟩ := h
    exact hq g tk L es ep t h1 h2 h3
end
/-! ### sorted(set(xs)) on data -/
def dd {α : Type} [DecidableEq α] : List α → List α
  | [] => []
  | x :: r => if x ∈ r then dd r else x :: dd r
theorem mem_dd {α : Type} [DecidableEq α] {a : α} : ∀ {l : List α}, a ∈ dd l ↔ a ∈ l
  | [] => Iff.rfl
  | x :: r => by
    unfold dd
    by_cases h : x ∈ r
    · rw [if_pos h, mem_dd (l := r), List.mem_cons]
      exact ⟨fun z => .inr z, fun z => z.elim (fun e => e ▸ h) id⟩
    · rw [if_neg h, List.mem_cons, mem_dd (l := r), List.mem_cons]
theorem nd_dd {α : Type} [DecidableEq α] : ∀ {l : List α}, (dd l).Nodup
  | [] => List.nodup_nil
  | x :: r => by
    unfold dd
    by_cases h : x ∈ r
    · rw [if_pos h]; exact nd_dd
    · rw [if_neg h]; exact List.nodup_cons.mpr ⟨fun z => h (mem_dd.mp z), nd_dd⟩
theorem dd_len {α : Type} [DecidableEq α] : ∀ {l : List α}, (dd l).length ≤ l.length
  | [] => Nat.le_refl _
  | x :: r => by
    unfold dd
    split
    · exact Nat.le_succ_of_le dd_len
    · exact Nat.succ_le_succ dd_len
/-- two rising rows with the same members -/
theorem rising_one {α : Type} {f : α → Int} : ∀ {l m : List α}, l.Pairwise (fun x y => f x < f y) → m.Pairwise (fun x y => f x < f y) → (∀ x, x ∈ l ↔ x ∈ m) → l = m
  | [], [], _, _, _ => rfl
  | [], y :: m, _, _, h => absurd ((h y).mpr List.mem_cons_self) (by simp)
  | x :: l, [], _, _, h => absurd ((h x).mp List.mem_cons_self) (by simp)
  | x :: l, y :: m, hl, hm, h => by
    obtain ⟨l1, l2⟩ := List.pairwise_cons.mp hl
    obtain ⟨m1, m2⟩ := List.pairwise_cons.mp hm
    have e : x = y := by
      rcases List.mem_cons.mp ((h x).mp List.mem_cons_self) with e | e
      · exact e
      · rcases List.mem_cons.mp ((h y).mpr List.mem_cons_self) with e2 | e2
        · exact e2.symm
        · have := m1 x e
          have := l1 y e2
          omega
    subst e
    refine congrArg (x :: ·) (rising_one l2 m2 fun z => ?_)
    constructor
    · intro hz
      rcases List.mem_cons.mp ((h z).mp (List.mem_cons_of_mem _ hz)) with e | e
      · subst e
        have := l1 z hz
        omega
      · exact e
    · intro hz
      rcases List.mem_cons.mp ((h z).mpr (List.mem_cons_of_mem _ hz)) with e | e
      · subst e
        have := m1 z hz
        omega
      · exact e
def tupD (k : List Int) : D := .tup (k.map .int)
def ints1 : D → Option (List Int)
  | .tup ds => intsOf ds
  | _ => none
def keysOf : List D → Option (List (List Int))
  | [] => some []
  | d :: r => (ints1 d).bind fun k => (keysOf r).map (k :: ·)
theorem keysOf_map : ∀ {ds : List D} {ks : List (List Int)}, keysOf ds = some ks → ds = ks.map tupD
  | [], ks, h => by injection h with h; subst h; rfl
  | d :: ds, ks, h => by
    have h' : (ints1 d).bind (fun k => (keysOf ds).map (k :: ·)) = some ks := h
    cases d with
    | tup xs =>
      cases e : intsOf xs with
      | none => simp [ints1, e] at h'
      | some k =>
        cases e2 : keysOf ds with
        | none => simp [ints1, e, e2] at h'
        | some r =>
          simp [ints1, e, e2] at h'
          subst h'
          rw [keysOf_map e2, intsOf_map e]
          rfl
    | _ => simp [ints1] at h'
theorem keysOf_tups : ∀ (ks : List (List Int)), keysOf (ks.map tupD) = some ks
  | [] => rfl
  | k :: ks => by
    show (intsOf (k.map .int)).bind (fun k => (keysOf (ks.map tupD)).map (k :: ·)) = _
    rw [intsOf_map', keysOf_tups ks]
    rfl
def big : Int := 1000000
def inc (f : α → Int) (l : List α) : List α := l.mergeSort fun a b => decide (f a ≤ f b)
theorem inc_perm {α : Type} (f : α → Int) (l : List α) : (inc f l).Perm l := List.mergeSort_perm _ _
theorem inc_pw {α : Type} (f : α → Int) (l : List α) : (inc f l).Pairwise fun a b => f a ≤ f b := by
  have := List.pairwise_mergeSort (le := fun a b : α => decide (f a ≤ f b)) (fun a b c h1 h2 => by simp at *; omega) (fun a b => by simp; omega) l
  exact this.imp fun h => of_decide_eq_true h
def ssI (ns : List Int) : List Int := inc id (dd ns)
def ssT (ks : List (List Int)) : List (List Int) := inc (TS.code big) (dd ks)
theorem mem_ssI {ns : List Int} {i : Int} : i ∈ ssI ns ↔ i ∈ ns := by
  unfold ssI
  rw [(inc_perm _ _).mem_iff, mem_dd]
theorem mem_ssT {ks : List (List Int)} {k : List Int} : k ∈ ssT ks ↔ k ∈ ks := by
  unfold ssT
  rw [(inc_perm _ _).mem_iff, mem_dd]
theorem ssI_up (ns : List Int) : (ssI ns).Pairwise (· < ·) := by
  have h1 := inc_pw id (dd ns)
  have h2 : (ssI ns).Nodup := (inc_perm id (dd ns)).nodup_iff.mpr nd_dd
  exact (List.Pairwise.and h1 h2).imp fun {a b} h => by
    have : a ≤ b := h.1
    have := h.2
    omega
theorem ssI_len (ns : List Int) : (ssI ns).length ≤ ns.length := by
  unfold ssI
  rw [(inc_perm _ _).length_eq]
  exact dd_len
theorem ssT_len (ks : List (List Int)) : (ssT ks).length ≤ ks.length := by
  unfold ssT
  rw [(inc_perm _ _).length_eq]
  exact dd_len
theorem ssT_nd (ks : List (List Int)) : (ssT ks).Nodup := (inc_perm _ _).nodup_iff.mpr nd_dd
def ssOk (ks : List (List Int)) : Bool := decide (ks.length < 64) && match ks with
  | [] => true
  | k :: _ => decide (1 ≤ k.length) && ks.all fun x => decide (x.length = k.length) && x.all fun i => decide (0 ≤ i) && decide (i < big)
theorem ssOk_is {ks : List (List Int)} (h : ssOk ks = true) : ks.length < 64 ∧ ∃ d, 1 ≤ d ∧ ∀ k ∈ ks, k.length = d ∧ TS.Bd big k := by
  unfold ssOk at h
  rw [Bool.and_eq_true] at h
  obtain ⟨h1, h2⟩ := h
  refine ⟨of_decide_eq_true h1, ?_⟩
  cases ks with
  | nil => exact ⟨1, Nat.le_refl _, fun k hk => by cases hk⟩
  | cons k r =>
    have h2 : (decide (1 ≤ k.length) && (k :: r).all fun x => decide (x.length = k.length) && x.all fun i => decide (0 ≤ i) && decide (i < big)) = true := h2
    rw [Bool.and_eq_true] at h2
    refine ⟨k.length, of_decide_eq_true h2.1, fun x hx => ?_⟩
    have h3 := List.all_eq_true.mp h2.2 x hx
    rw [Bool.and_eq_true] at h3
    refine ⟨of_decide_eq_true h3.1, fun m hm => ?_⟩
    have h4 := List.all_eq_true.mp h3.2 m hm
    rw [Bool.and_eq_true] at h4
    exact ⟨of_decide_eq_true h4.1, of_decide_eq_true h4.2⟩
theorem code_inj {B : Int} : ∀ {x y : List Int}, x.length = y.length → TS.Bd B x → TS.Bd B y → TS.code B x = TS.code B y → x = y
  | [], [], _, _, _, _ => rfl
  | a :: x, b :: y, hl, hx, hy, h => by
    have hl' : x.length = y.length := by simpa using hl
    rcases Int.lt_trichotomy a b with z | z | z
    · have := TS.code_lt hl' hx.tail hy.tail z
      omega
    · subst z
      have n1 := mt (TS.code_same (B := B) (d := a) hl').mpr (by omega)
      have n2 := mt (TS.code_same (B := B) (d := a) hl'.symm).mpr (by omega)
      rw [code_inj hl' hx.tail hy.tail (by omega)]
    · have := TS.code_lt hl'.symm hy.tail hx.tail z
      omega
theorem ss_uniq {ks L : List (List Int)} (h : ssOk ks = true) (hm : ∀ k, k ∈ L ↔ k ∈ ks) (hn : L.Nodup) (hp : L.Pairwise fun x y => TS.code big x ≤ TS.code big y) : L = ssT ks := by
  obtain ⟨_, d, _, hd⟩ := ssOk_is h
  have up : ∀ {M : List (List Int)}, (∀ k, k ∈ M ↔ k ∈ ks) → M.Nodup → M.Pairwise (fun x y => TS.code big x ≤ TS.code big y) → M.Pairwise fun x y => TS.code big x < TS.code big y := fun {M} mm nd pw => by
    have h3 := List.Pairwise.and pw nd
    refine h3.imp_of_mem fun {a b} ma mb h => ?_
    obtain ⟨a1, a2⟩ := hd a ((mm a).mp ma)
    obtain ⟨b1, b2⟩ := hd b ((mm b).mp mb)
    have : TS.code big a ≠ TS.code big b := fun e => h.2 (code_inj (by rw [a1, b1]) a2 b2 e)
    have := h.1
    omega
  exact rising_one (up hm hn hp) (up (fun k => mem_ssT) (ssT_nd ks) (inc_pw _ _)) fun x => by rw [hm, mem_ssT]
def ssD (b : Bool) : List D → Store → Re D := one fun x st => opt (seqOf st x) fun ds =>
  match intsOf ds with
  | some ns => if ns.length < 60 then mkNew b ((ssI ns).map .int) st else .bad
  | none => match keysOf ds with
    | some ks => if ssOk ks = true then mkNew b ((ssT ks).map tupD) st else .bad
    | none => .bad
end Dn
namespace Dn
open PySem PySem.Spec PyProof.Rows L2
/-- set(xs), ints in a list or a tuple -/
def rSetI (K : PySem.W.Frag) (w : World) : List V → Hp → VK → Prop := fun xs H Q => ∃ (l : Addr) (ns : List Int), xs = [V.ref l] ∧ (SqL K H l (ns.map V.int) ∨ SqT K H l (ns.map V.int)) ∧ ns.length < 60 ∧
  ∀ a n, H a = none → n ≤ ns.length → Q (.ref a) (upd H a (SetO w a (fun j => decide (j ∈ ns)) n))
/-- set(xs), a tuple of tuples of ints -/
def rSetTT (K : PySem.W.Frag) (P : Program) (w : World) : List V → Hp → VK → Prop := fun xs H Q => ∃ (l : Addr) (ks : List (Addr × List Int)), xs = [V.ref l] ∧ SqT K H l (ks.map fun p => V.ref p.1) ∧ (∀ p ∈ ks, SqT K H p.1 (p.2.map V.int)) ∧ ks.length < 64 ∧
  ∀ a L, H a = none → (∀ p ∈ L, p ∈ ks) → (∀ p ∈ ks, p.2 ∈ L.map (·.2)) → Q (.ref a) (upd H a (SetTO P w a L))
section
variable {X : Cx}
theorem cr_setI (hc : X.calm = true) : CallR X (.type "set") (rSetI X.K X.w) := by
  intro pins s σ H xs us Q I r h
  obtain ⟨l, ns, rfl, hs, hn, q⟩ := h
  rw [Vals.ref1 r]
  have nw : H s.heap.objs.size = none := I.hok.fresh (Nat.le_refl _)
  have sb : ns.length + 1 < scanBound := by unfold scanBound; omega
  rcases hs with hs | hs
  · obtain ⟨its, rv, pl, hz⟩ := I.list hs
    refine set_lst (w := X.w) ns (I.ok.hd hc) pl.isList (by simpa using rv.ints) sb fun g tk c R hcn kp => ?_
    exact ⟨.ref s.heap.objs.size, upd H s.heap.objs.size (SetO X.w s.heap.objs.size (fun j => decide (j ∈ ns)) c), I.laid (t' := tk) kp (Nat.le_refl _) (setO_new R), rfl, q _ c nw hcn⟩
  · obtain ⟨its, rv, pl, hz⟩ := I.tuple hs
    refine call_set_tupI (w := X.w) ns (I.ok.hd hc) pl (by simpa using rv.ints) sb fun g tk c R hcn kp => ?_
    exact ⟨.ref s.heap.objs.size, upd H s.heap.objs.size (SetO X.w s.heap.objs.size (fun j => decide (j ∈ ns)) c), I.laid (t' := tk) kp (Nat.le_refl _) (setO_new R), rfl, q _ c nw hcn⟩
theorem cr_setTT (hc : X.calm = true) (hu : X.A.units + 64 < cLine) : CallR X (.type "set") (rSetTT X.K X.prog X.w) := by
  intro pins s σ H xs us Q I r h
  obtain ⟨l, ks, rfl, hs, hk, hf, q⟩ := h
  rw [Vals.ref1 r]
  have nw : H s.heap.objs.size = none := I.hok.fresh (Nat.le_refl _)
  obtain ⟨its, rv, pl, hz⟩ := I.tuple hs
  refine set_tpl (P := X.prog) (w := X.w) ks (I.ok.hd hc) pl (by simpa using refs_of_vals rv) (fun p hp => I.isT (hk p hp)) hf (by omega) fun g tk L es ep t R gt kp => ?_
  refine ⟨.ref s.heap.objs.size, upd H s.heap.objs.size (SetTO X.prog X.w s.heap.objs.size L), I.laid (t' := tk) kp (Nat.le_refl _) (setTO_new R.t0), rfl, q _ L nw (fun p hp => ?_) fun p hp => ?_⟩
  · exact List.mem_of_mem_take (gt.sub p hp)
  · exact gt.all p (by rw [List.take_length]; exact hp)
abbrev rSetXs (K : PySem.W.Frag) (P : Program) (w : World) : List V → Hp → VK → Prop := fun xs H Q => rSetI K w xs H Q ∨ (rSetOfT K P w xs H Q ∨ rSetTT K P w xs H Q)
abbrev rSrtA (K : PySem.W.Frag) (P : Program) (w : World) : List V → Hp → VK → Prop := fun xs H Q => rSortedSet w xs H Q ∨ rSortedT K P w xs H Q
theorem cr_setA (hc : X.calm = true) (hu : X.A.units + 64 < cLine) : CallR X (.type "set") (rSetXs X.K X.prog X.w) := (cr_setI hc).or ((cr_setOfT hc hu).or (cr_setTT hc hu))
theorem cr_srtA (hc : X.calm = true) : CallR X (.builtin "sorted") (rSrtA X.K X.prog X.w) := (cr_sortedSet hc).or (cr_sortedT hc)
end
section
variable {K : PySem.W.Frag} {mg : Str → Option Value} {μ : List Addr} {G : Hp}
theorem reps_tups : ∀ {ks : List (List Int)} {vs : List V}, Reps K μ G (ks.map tupD) vs → ∃ ps : List (Addr × List Int), vs = ps.map (fun p => V.ref p.1) ∧ ps.map (·.2) = ks ∧ ∀ p ∈ ps, SqT K G p.1 (p.2.map V.int)
  | [], vs, h => ⟨[], reps_nil h, rfl, fun _ h => by cases h⟩
  | k :: ks, vs, h => by
    obtain ⟨v, r, rfl, hv, t⟩ := reps_cons h
    obtain ⟨a, ws, rfl, hs, hr⟩ := rep_tup hv
    rw [reps_ints hr] at hs
    obtain ⟨ps, rfl, e2, hp⟩ := reps_tups t
    refine ⟨(a, k) :: ps, rfl, by rw [List.map_cons, e2], fun p h => ?_⟩
    rcases List.mem_cons.mp h with rfl | h
    · exact hs
    · exact hp p h
theorem tups_reps : ∀ {ps : List (Addr × List Int)}, (∀ p ∈ ps, SqT K G p.1 (p.2.map V.int)) → Reps K μ G ((ps.map (·.2)).map tupD) (ps.map fun p => V.ref p.1)
  | [], _ => .nil
  | p :: ps, h => .cons (.tup (h p List.mem_cons_self) .ints) (tups_reps fun q hq => h q (List.mem_cons_of_mem _ hq))
theorem s_ss (b : Bool) (P : Program) (w : World) : ∀ (W : WX) (σ : L2.St) (μ : List Addr) (G F : Hp) (st : Store) (H : Hp) (xs : List D) (vs : List V) (Q : VK), Kn K mg μ G F st H → Reps K μ G xs vs →
    Done K mg W σ μ G F (ssD b xs st) (Fin K Q) → rSetXs K P w vs H fun u H1 => rSrtA K P w [u] H1 Q := by
  intro W σ μ G F st H xs vs Q k rv h
  cases xs with
  | nil => exact h.elim
  | cons x r =>
    cases r with
    | cons _ _ => exact h.elim
    | nil =>
      obtain ⟨v, t, rfl, hv, ht⟩ := reps_cons rv
      rw [reps_nil ht]
      have h : Done K mg W σ μ G F (opt (seqOf st x) fun ds => match intsOf ds with
        | some ns => if ns.length < 60 then mkNew b ((ssI ns).map .int) st else .bad
        | none => match keysOf ds with
          | some ks => if ssOk ks = true then mkNew b ((ssT ks).map tupD) st else .bad
          | none => .bad) (Fin K Q) := h
      obtain ⟨ds, e, h⟩ := opt_done h
      obtain ⟨a, ws, rfl, hs, rw'⟩ := seqOf_rep k hv e
      cases e1 : intsOf ds with
      | some ns =>
        rw [e1] at h
        have h : Done K mg W σ μ G F (if ns.length < 60 then mkNew b ((ssI ns).map .int) st else .bad) (Fin K Q) := h
        obtain ⟨hl, h5⟩ := ite_done h
        clear h
        have e2 := intsOf_map e1
        subst e2
        rw [reps_ints rw'] at hs
        refine .inl ⟨a, ns, rfl, hs, hl, fun a' n ha hn => .inl ⟨a', _, n, rfl, upd_same, by omega, fun ns' p pw mm _ hp => ?_⟩⟩
        have en : ns' = ssI ns := rising_one (f := id) pw (ssI_up ns) fun i => by rw [mm, mem_ssI]; simp
        subst en
        exact new_list (k.junk ha) .ints h5 p hp
      | none =>
        rw [e1] at h
        cases e2 : keysOf ds with
        | none => rw [e2] at h; exact h.elim
        | some ks =>
          rw [e2] at h
          have h : Done K mg W σ μ G F (if ssOk ks = true then mkNew b ((ssT ks).map tupD) st else .bad) (Fin K Q) := h
          obtain ⟨ho, h⟩ := ite_done h
          have e3 := keysOf_map e2
          subst e3
          obtain ⟨ps, rfl, rfl, hp⟩ := reps_tups rw'
          obtain ⟨hl, d, d1, hd⟩ := ssOk_is ho
          rw [List.length_map] at hl
          have fin : ∀ a' L, H a' = none → (∀ p ∈ L, p ∈ ps) → (∀ p ∈ ps, p.2 ∈ L.map (·.2)) → rSrtA K P w [.ref a'] (upd H a' (SetTO P w a' L)) Q := fun a' L ha m1 m2 => by
            refine .inr ⟨a', L, d, big, rfl, upd_same, fun p hp' => (Ex.new ha).sqt (k.ex.sqt (hp p (m1 p hp'))), d1, fun p hp' => hd p.2 (List.mem_map_of_mem (m1 p hp')), fun L' q pm nd _ pw hq => ?_⟩
            have m3 : ∀ p ∈ L', p ∈ ps := fun p hp' => m1 p (pm.mem_iff.mp hp')
            have en : L'.map (·.2) = ssT (ps.map (·.2)) := ss_uniq ho (fun x => by
              constructor
              · intro hx
                obtain ⟨p, hp', rfl⟩ := List.mem_map.mp hx
                exact List.mem_map_of_mem (m3 p hp')
              · intro hx
                obtain ⟨p, hp', rfl⟩ := List.mem_map.mp hx
                obtain ⟨q', hq', e⟩ := List.mem_map.mp (m2 p hp')
                exact List.mem_map.mpr ⟨q', pm.mem_iff.mpr hq', e⟩) nd (List.pairwise_map.mpr pw)
            rw [← en] at h
            exact new_list (k.junk ha) (tups_reps fun p hp' => hp p (m3 p hp')) h q hq
          rcases hs with hs | hs
          · exact .inr (.inl ⟨a, ps, rfl, hs, fun p hp' => k.ex.sqt (hp p hp'), hl, fin⟩)
          · exact .inr (.inr ⟨a, ps, rfl, hs, fun p hp' => k.ex.sqt (hp p hp'), hl, fin⟩)
end
section
variable {X : Cx} {W : WX} {e : Expr} {m : EM} {p p2 q pos : Pos}
theorem m_ss (b : Bool) (hc : X.calm = true) (hu : X.A.units + 64 < cLine) (hm1 : X.mg "sorted" = none) (hm2 : X.mg "set" = none) (ha : ME X W e m) (hg1 : Gl X "sorted" := by rfl) (hg2 : Gl X "set" := by rfl)
    (he : starEach [e] X.env = (false, eval e X.env) :: starEach [] X.env := by rfl) :
    ME X W (.Call (.Name "sorted" p) [.Call (.Name "set" p2) [e] [] q] [] pos) (eN (ssD b) (aCons m aNil)) := by
  have h1 := pe_callTy (p := p2) (pos := q) (cr_setA hc hu) hg2 hm2 (by decide +kernel) (pa_cons ha pa_nil he) (by decide) (by decide) he rfl
  have h2 := pe_callB (p := p) (pos := pos) (cr_srtA hc) hg1 hm1 (by decide +kernel) (pa_cons h1 pa_nil) (by decide) (by decide)
  refine h2.of fun σ H Q h => ?_
  obtain ⟨vs, st, μ, G, F, re, k, h⟩ := h
  show tE X.K X.mg W m σ H fun v H1 => rSetXs X.K X.prog X.w [v] H1 fun u H2 => rSrtA X.K X.prog X.w [u] H2 Q
  refine ⟨vs, st, μ, G, F, re, k, ?_⟩
  have h2 := Done.bind (Done.bind h)
  refine h2.mono fun μ1 G1 d st1 H1 f1 k1 h3 v rv => ?_
  have h4 := h3 μ1 G1 H1 (.refl _ _) k1
  exact s_ss b X.prog X.w W σ μ1 G1 F st1 H1 [d] [v] Q k1 (.cons rv .nil) h4
end
end Dn
namespace Dn
open PySem PySem.Spec PyProof.Rows L2
theorem ixA_lo {st : Store} {d : D} {ds : List D} {i : Int} (h : lstOf st d = some ds) : ixA d (.int i) st = match atI ds i with | some d => .ok d st | none => .bad := by
  cases d with
  | lst xs =>
    injection h with h
    subst h
    exact ixA_lst
  | loc n => exact ixA_loc h
  | _ => cases h
theorem lenB_lo {st : Store} {d : D} {ds : List D} (h : lstOf st d = some ds) : lenB st d = some ds.length := by
  cases d with
  | lst xs =>
    injection h with h
    subst h
    rfl
  | loc n =>
    have : lstAt st n = some ds := h
    rw [lenB_loc, lstAt_cell this]
  | _ => cases h
/-- a comprehension that draws and takes some of the elements -/
theorem compGo_drawS {g : TM} {tt e : EM} {gd : Store → Prop} {vs : Vars} {T : Store} {f : D → D} (hg : ∀ c, gd (c :: T)) : ∀ (ds : List D) (c : Option Ob), DrawOk c →
    (∀ d ∈ ds, ∀ c, DrawOk c → ∃ vs1, g d vs = some vs1 ∧ wp (tt vs1 (c :: T)) (DT T fun st => wp (e vs1 st) fun y st' => y = f d ∧ ∃ c', DrawOk c' ∧ st' = c' :: T)) →
    wp (compGo g tt e gd vs ds (c :: T)) fun ys st => (∃ l : List D, l.Sublist ds ∧ ys = l.map f) ∧ ∃ c2, DrawOk c2 ∧ st = c2 :: T
  | [], c, hc, _ => by
    unfold compGo
    rw [if_pos (hg _), wp_ok]
    exact ⟨⟨[], List.nil_sublist _, rfl⟩, c, hc, rfl⟩
  | d :: ds, c, hc, h => by
    unfold compGo
    rw [if_pos (hg _)]
    obtain ⟨vs1, e1, w⟩ := h d List.mem_cons_self c hc
    rw [e1]
    simp only [wp_okk]
    refine wp_mono w fun x st1 h1 => ?_
    obtain ⟨c1, hc1, rfl, b, rfl, hb⟩ := h1
    cases b with
    | true =>
      simp only [wp_okk]
      refine wp_mono (hb rfl) fun y st1 h1 => ?_
      obtain ⟨rfl, c2, hc2, rfl⟩ := h1
      rw [wp_okk]
      refine wp_mono (compGo_drawS hg ds c2 hc2 fun d' hd => h d' (List.mem_cons_of_mem _ hd)) fun ys st2 h2 => ?_
      obtain ⟨⟨l, h3, rfl⟩, h5⟩ := h2
      rw [wp_ok]
      exact ⟨⟨d :: l, h3.cons_cons d, rfl⟩, h5⟩
    | false =>
      refine wp_mono (compGo_drawS hg ds c1 hc1 fun d' hd => h d' (List.mem_cons_of_mem _ hd)) fun ys st2 h2 => ?_
      obtain ⟨⟨l, h3, rfl⟩, h5⟩ := h2
      exact ⟨⟨l, h3.cons d, rfl⟩, h5⟩
theorem sub_map {α : Type} {f : α → D} : ∀ {xs : List α} {l : List D}, l.Sublist (xs.map f) → ∃ ys : List α, ys.Sublist xs ∧ l = ys.map f
  | [], l, h => by
    have := List.sublist_nil.mp h
    subst this
    exact ⟨[], List.nil_sublist _, rfl⟩
  | x :: xs, l, h => by
    rw [List.map_cons] at h
    cases h with
    | cons _ h =>
      obtain ⟨ys, h1, rfl⟩ := sub_map h
      exact ⟨ys, h1.cons x, rfl⟩
    | cons_cons _ h =>
      obtain ⟨ys, h1, rfl⟩ := sub_map h
      exact ⟨x :: ys, h1.cons_cons x, rfl⟩
theorem sub_rng {n : Nat} {l : List D} (h : l.Sublist (rng 0 n)) : ∃ ns : List Nat, ns.Sublist (List.range n) ∧ l = ns.map fun i => .int ((i : Nat) : Int) := by
  rw [rng0_map] at h
  exact sub_map h
theorem mem_subr {n i : Nat} {l : List Nat} (h : l.Sublist (List.range n)) (hi : i ∈ l) : i < n := List.mem_range.mp (h.subset hi)
theorem list_ofG {α β : Type} {f : α → β} {p : α → Prop} : ∀ {ys : List β}, (∀ y ∈ ys, ∃ a, y = f a ∧ p a) → ∃ l : List α, ys = l.map f ∧ ∀ a ∈ l, p a
  | [], _ => ⟨[], rfl, fun _ h => by cases h⟩
  | y :: ys, h => by
    obtain ⟨a, rfl, ha⟩ := h y List.mem_cons_self
    obtain ⟨l, rfl, hl⟩ := list_ofG fun z hz => h z (List.mem_cons_of_mem _ hz)
    exact ⟨a :: l, rfl, fun b hb => by
      rcases List.mem_cons.mp hb with rfl | hb
      · exact ha
      · exact hl b hb⟩
theorem ssOk_of {ks : List (List Int)} {d : Nat} (hl : ks.length < 64) (hd : 1 ≤ d) (h : ∀ k ∈ ks, k.length = d ∧ ∀ i ∈ k, 0 ≤ i ∧ i < big) : ssOk ks = true := by
  unfold ssOk
  rw [Bool.and_eq_true]
  refine ⟨decide_eq_true hl, ?_⟩
  cases ks with
  | nil => rfl
  | cons k r =>
    obtain ⟨k1, k2⟩ := h k List.mem_cons_self
    show (decide (1 ≤ k.length) && (k :: r).all fun x => decide (x.length = k.length) && x.all fun i => decide (0 ≤ i) && decide (i < big)) = true
    rw [Bool.and_eq_true]
    refine ⟨decide_eq_true (by omega), List.all_eq_true.mpr fun x hx => ?_⟩
    obtain ⟨x1, x2⟩ := h x hx
    rw [Bool.and_eq_true]
    refine ⟨decide_eq_true (by omega), List.all_eq_true.mpr fun i hi => ?_⟩
    rw [Bool.and_eq_true]
    exact ⟨decide_eq_true (x2 i hi).1, decide_eq_true (x2 i hi).2⟩
theorem ssI_nil : ssI [] = [] := by
  unfold ssI inc dd
  exact List.mergeSort_nil
theorem ssT_nil : ssT [] = [] := by
  unfold ssT inc dd
  exact List.mergeSort_nil
theorem ssD_ints {b : Bool} {x : D} {st : Store} {ns : List Int} (h : seqOf st x = some (ns.map .int)) (hl : ns.length < 60) : ssD b [x] st = mkNew b ((ssI ns).map .int) st := by
  show opt (seqOf st x) _ = _
  rw [h, opt_some, intsOf_map']
  exact if_pos hl
theorem ssD_tups {b : Bool} {x : D} {st : Store} {ks : List (List Int)} (h : seqOf st x = some (ks.map tupD)) (ho : ssOk ks = true) : ssD b [x] st = mkNew b ((ssT ks).map tupD) st := by
  cases ks with
  | nil =>
    have := ssD_ints (b := b) (x := x) (st := st) (ns := []) h (by simp)
    rw [this, ssI_nil, ssT_nil]
    rfl
  | cons k r =>
    show opt (seqOf st x) _ = _
    have e : intsOf ((k :: r).map tupD) = none := rfl
    rw [h, opt_some, e, keysOf_tups]
    exact if_pos ho
end Dn
namespace Dn
open PySem PySem.Spec PyProof.Rows L2
section
variable {κ : Type} [DecidableEq κ]
theorem getK_nilG {k : κ} : getK ([] : List (κ × D)) k = none := rfl
theorem getK_consG {j k : κ} {d : D} {r : List (κ × D)} : getK ((j, d) :: r) k = if j = k then some d else getK r k := by
  unfold getK
  rw [List.find?_cons]
  by_cases e : j = k <;> simp [e]
theorem getK_set {kvs : List (κ × D)} {k k' : κ} {d : D} : getK (setK kvs k d) k' = if k = k' then some d else getK kvs k' := by
  unfold setK
  split
  · rename_i h
    induction kvs with
    | nil => simp at h
    | cons p r ih =>
      obtain ⟨j, x⟩ := p
      by_cases hj : j = k
      · subst hj
        simp only [List.map_cons, if_true]
        rw [getK_consG, getK_consG]
        by_cases e : j = k'
        · simp [e]
        · simp only [e, if_false]
          clear ih h
          induction r with
          | nil => rfl
          | cons p r ih =>
            obtain ⟨i, y⟩ := p
            by_cases hi : i = j
            · subst hi
              simp only [List.map_cons, if_true]
              rw [getK_consG, getK_consG, if_neg e, if_neg e]
              exact ih
            · simp only [List.map_cons, hi, if_false]
              rw [getK_consG, getK_consG, ih]
      · have h' : (r.any fun p => decide (p.1 = k)) = true := by
          simpa [hj] using h
        simp only [List.map_cons, hj, if_false]
        rw [getK_consG, getK_consG, ih h']
        by_cases e : j = k'
        · subst e
          simp [Ne.symm hj]
        · simp [e]
  · rename_i h
    have h' : ∀ p ∈ kvs, p.1 ≠ k := fun p hp e => h (List.any_eq_true.mpr ⟨p, hp, decide_eq_true e⟩)
    clear h
    induction kvs with
    | nil =>
      show getK [(k, d)] k' = _
      rw [getK_consG]
    | cons p r ih =>
      obtain ⟨j, x⟩ := p
      rw [List.cons_append, getK_consG, getK_consG, ih fun p hp => h' p (List.mem_cons_of_mem _ hp)]
      have hj : j ≠ k := h' (j, x) List.mem_cons_self
      by_cases e : j = k'
      · subst e
        simp [Ne.symm hj]
      · simp [e]
end
theorem add_lst {b : Bool} {ds es : List D} {st : Store} : addD b (.lst ds) (.lst es) st = if room (ds.length + es.length) then mkNew b (ds ++ es) st else .bad := rfl
theorem dec_nat {a b : Nat} : decide ((a : Int) = (b : Int)) = decide (a = b) := decide_eq_decide.mpr (by omega)
theorem any_map_id {α : Type} {p : α → Bool} {xs : List α} : (xs.map p).any id = xs.any p := by rw [List.any_map]; rfl
theorem all_map_id {α : Type} {p : α → Bool} {xs : List α} : (xs.map p).all id = xs.all p := by rw [List.all_map]; rfl
abbrev nats (l : List Nat) : List D := l.map fun k => .int ((k : Nat) : Int)
theorem mem_cast {xs : List Nat} {i : Nat} : decide (∃ a ∈ xs, ((a : Nat) : Int) = (i : Int)) = decide (i ∈ xs) := by
  congr 1
  refine propext ⟨fun ⟨a, h1, h2⟩ => ?_, fun h => ⟨i, h, rfl⟩⟩
  have : a = i := by omega
  subst this
  exact h1
theorem in_nats {xs : List Nat} {i : Nat} {st : Store} {y : D} (h : seqOf st y = some (nats xs)) : inD (.int (i : Nat)) y st = .ok (.bl (decide (i ∈ xs))) st := by
  rw [in_ints (f := fun k : Nat => (k : Int)) h, mem_cast]
theorem nin_nats {xs : List Nat} {i : Nat} {st : Store} {y : D} (h : seqOf st y = some (nats xs)) : ninD (.int (i : Nat)) y st = .ok (.bl !(decide (i ∈ xs))) st := by
  rw [nin_ints (f := fun k : Nat => (k : Int)) h, mem_cast]
theorem setK_len {κ : Type} [DecidableEq κ] {kvs : List (κ × D)} {k : κ} {d : D} : (setK kvs k d).length ≤ kvs.length + 1 := by
  unfold setK
  split
  · rw [List.length_map]; omega
  · rw [List.length_append]; exact Nat.le_refl _
theorem setA_int {st : Store} {n : Nat} {kvs : List (Key × D)} {i : Int} {z : D} (h : cell st n = some (.dct kvs)) (hl : kvs.length + 1 ≤ 1000000) : setA (.loc n) (.int i) z st = some (st.set n (some (.dct (setK kvs (.inl i) z)))) := by
  unfold setA
  simp only [h, keyK]
  exact if_pos hl
theorem maxI_le {L : List Int} {d : Int} (h : L ≠ []) : maxI L ≤ d ↔ ∀ x ∈ L, x ≤ d := by
  cases L with
  | nil => exact absurd rfl h
  | cons i r =>
    obtain ⟨h1, h2⟩ := maxI_is (i := i) (r := r)
    exact ⟨fun h x hx => Int.le_trans (h2 x hx) h, fun h => h _ h1⟩
theorem max1_ints {x : D} {st : Store} {L : List Int} (h : (lstOf st x).bind intsOf = some L) (hn : L ≠ []) : maxD [x] st = .ok (.int (maxI L)) st := by
  show max1 x st = _
  unfold max1
  rw [h]
  cases L with
  | nil => exact absurd rfl hn
  | cons _ _ => rfl
end Dn
namespace Dn
open PySem PySem.Spec PyProof.Rows L2
/-! ### lists at places -/
theorem resD_lo {st : Store} {x : D} {xs : List D} (h : lstOf st x = some xs) : resD st x = .lst xs := by
  cases x with
  | lst ys => injection h with h; subst h; rfl
  | loc n =>
    have h : lstAt st n = some xs := h
    simp only [resD, h]
  | _ => cases h
theorem eqB_lo {st : Store} {x y : D} {xs ys : List D} (hx : lstOf st x = some xs) (hy : lstOf st y = some ys) : eqB st x y = if (okd 60 (.lst xs) && okd 60 (.lst ys)) = true then some (eqvD (.lst xs) (.lst ys)) else none := by
  have e : eqB st x y = if (okd 60 (resD st x) && okd 60 (resD st y)) = true then some (eqvD (resD st x) (resD st y)) else none := by
    cases x with
    | lst _ => cases y <;> first | rfl | cases hy
    | loc _ => cases y <;> first | rfl | cases hy
    | _ => cases hx
  rw [e, resD_lo hx, resD_lo hy]
theorem eq_lo {st : Store} {x y : D} {xs ys : List D} (hx : lstOf st x = some xs) (hy : lstOf st y = some ys) (h1 : okd 60 (.lst xs) = true) (h2 : okd 60 (.lst ys) = true) : eqD x y st = .ok (.bl (eqvD (.lst xs) (.lst ys))) st := by
  unfold eqD
  rw [eqB_lo hx hy, h1, h2]
  rfl
theorem ne_lo {st : Store} {x y : D} {xs ys : List D} (hx : lstOf st x = some xs) (hy : lstOf st y = some ys) (h1 : okd 60 (.lst xs) = true) (h2 : okd 60 (.lst ys) = true) : neD x y st = .ok (.bl !(eqvD (.lst xs) (.lst ys))) st := by
  unfold neD
  rw [eqB_lo hx hy, h1, h2]
  rfl
theorem eqv_lst_cons {x y : D} {xs ys : List D} : eqvD (.lst (x :: xs)) (.lst (y :: ys)) = (eqvD x y && eqvD (.lst xs) (.lst ys)) := by
  unfold eqvD
  simp only [pd, pds, PyData.eqv, PyData.eqvAll]
theorem eqv_tup_cons {x y : D} {xs ys : List D} : eqvD (.tup (x :: xs)) (.tup (y :: ys)) = (eqvD x y && eqvD (.tup xs) (.tup ys)) := by
  unfold eqvD
  simp only [pd, pds, PyData.eqv, PyData.eqvAll]
theorem eqv_lst_nil : eqvD (.lst []) (.lst []) = true := by simp [eqvD, pd, pds, PyData.eqv, PyData.eqvAll]
theorem eqv_tup_nil : eqvD (.tup []) (.tup []) = true := by simp [eqvD, pd, pds, PyData.eqv, PyData.eqvAll]
theorem eqv_lst_l {x : D} {xs : List D} : eqvD (.lst (x :: xs)) (.lst []) = false := by simp [eqvD, pd, pds, PyData.eqv, PyData.eqvAll]
theorem eqv_lst_r {x : D} {xs : List D} : eqvD (.lst []) (.lst (x :: xs)) = false := by simp [eqvD, pd, pds, PyData.eqv, PyData.eqvAll]
theorem eqv_tup_l {x : D} {xs : List D} : eqvD (.tup (x :: xs)) (.tup []) = false := by simp [eqvD, pd, pds, PyData.eqv, PyData.eqvAll]
theorem eqv_tup_r {x : D} {xs : List D} : eqvD (.tup []) (.tup (x :: xs)) = false := by simp [eqvD, pd, pds, PyData.eqv, PyData.eqvAll]
theorem eqv_lst_map {α : Type} {f : α → D} (hf : ∀ a b, (eqvD (f a) (f b) = true) ↔ a = b) : ∀ {xs ys : List α}, (eqvD (.lst (xs.map f)) (.lst (ys.map f)) = true) ↔ xs = ys
  | [], [] => by simp [eqv_lst_nil]
  | [], y :: ys => by simp [eqv_lst_r]
  | x :: xs, [] => by simp [eqv_lst_l]
  | x :: xs, y :: ys => by
    rw [List.map_cons, List.map_cons, eqv_lst_cons, Bool.and_eq_true, hf, eqv_lst_map hf, List.cons.injEq]
theorem eqv_tup_map {α : Type} {f : α → D} (hf : ∀ a b, (eqvD (f a) (f b) = true) ↔ a = b) : ∀ {xs ys : List α}, (eqvD (.tup (xs.map f)) (.tup (ys.map f)) = true) ↔ xs = ys
  | [], [] => by simp [eqv_tup_nil]
  | [], y :: ys => by simp [eqv_tup_r]
  | x :: xs, [] => by simp [eqv_tup_l]
  | x :: xs, y :: ys => by
    rw [List.map_cons, List.map_cons, eqv_tup_cons, Bool.and_eq_true, hf, eqv_tup_map hf, List.cons.injEq]
theorem eqv_nat {a b : Nat} : (eqvD (.int (a : Int)) (.int (b : Int)) = true) ↔ a = b := by
  rw [eqv_int, decide_eq_true_iff]
  omega
theorem eqv_nats {xs ys : List Nat} : eqvD (.lst (nats xs)) (.lst (nats ys)) = decide (xs = ys) := by
  rw [Bool.eq_iff_iff, decide_eq_true_iff]
  exact eqv_lst_map (fun _ _ => eqv_nat)
theorem lstAt_keep {st l : Store} {n : Nat} {ds : List D} (h : lstAt st n = some ds) : lstAt (st ++ l) n = some ds := by
  have hc := lstAt_cell h
  unfold cell at hc
  have hn : n < st.length := by
    rcases Nat.lt_or_ge n st.length with h1 | h1
    · exact h1
    · rw [List.getElem?_eq_none (by simpa using h1)] at hc
      cases hc
  unfold lstAt cell at h ⊢
  rw [List.getElem?_append_left hn]
  exact h
theorem lstOf_keep {st l : Store} {d : D} {ds : List D} (h : lstOf st d = some ds) : lstOf (st ++ l) d = some ds := by
  cases d with
  | lst _ => exact h
  | loc n => exact lstAt_keep h
  | _ => cases h
theorem okd_nats {n : Nat} {l : List Nat} : okd (n + 1) (.lst (nats l)) = true := okd_lst (okd_map fun _ _ => okd_int)
theorem okd_natt {n : Nat} {l : List Nat} : okd (n + 1) (.tup (nats l)) = true := okd_tup (okd_map fun _ _ => okd_int)
theorem truthB_lst {st : Store} {ds : List D} : truthB st (.lst ds) = some (!ds.isEmpty) := rfl
theorem truthB_tup {st : Store} {ds : List D} : truthB st (.tup ds) = some (!ds.isEmpty) := rfl
/-- an iterator over a list, wherever it is -/
theorem its_lo {st : Store} {d : D} {ds : List D} (h : lstOf st d = some ds) : ∃ g, itsOf st d = some (ds, g) ∧ grd (ds, g) st := by
  cases d with
  | lst ys =>
    injection h with h
    subst h
    exact ⟨[], rfl, by simp⟩
  | loc n =>
    have h : lstAt st n = some ds := h
    refine ⟨[(n, .lst ds)], ?_, ?_⟩
    · unfold itsOf
      dsimp only
      rw [h]
    · exact ⟨lstAt_cell h, trivial⟩
  | _ => cases h
end Dn
namespace Dn
open PySem PySem.Spec PyProof.Rows L2
/-! ### range(i, j, c) -/
def rngC (lo c : Int) (n : Nat) : List D := (List.range n).map fun (i : Nat) => D.int (lo + (i : Nat) * c)
theorem wk_rngC {K : PySem.W.Frag} {mg : Str → Option Value} {μ : List Addr} {G : Hp} {lo c : Int} {n : Nat} : Wk K mg μ G (Itc lo c n) (rngC lo c n, []) := by
  intro μ2 G2 F2 st2 H2 f2 k2 _
  have hl : (rngC lo c n).length = n := by simp [rngC]
  refine ⟨by rw [hl]; exact Nat.le_refl _, fun i d hd => ?_⟩
  have hi : i < n := by
    have := (List.getElem?_eq_some_iff.mp hd).1
    rwa [hl] at this
  refine ⟨hi, fun y H3 hy => ?_⟩
  obtain ⟨rfl, rfl⟩ := hy
  have e : d = .int (lo + (i : Nat) * c) := by
    unfold rngC at hd
    rw [List.getElem?_map, List.getElem?_range hi] at hd
    exact (Option.some.inj hd).symm
  subst e
  exact ⟨G2, .refl _ _, k2, .int⟩
def rgOk (i j c : Int) : Bool := decide (c ≠ 0) && (decide (c.natAbs < 1073741824) && (Builtin.Range.small i j c && decide (0 ≤ Builtin.Range.rangeSize i j c)))
def iR3 (ms : EMs) : IM := fun vs st => (ms vs st).bind fun xs st => match xs with
  | [.int i, .int j, .int c] => if rgOk i j c = true then .ok (rngC i c (Builtin.Range.rangeSize i j c).toNat, []) st else .bad
  | _ => .bad
section
variable {X : Cx} {W : WX} {tg a b c : Expr} {ms : EMs} {pos p : Pos}
theorem i_rng3 (hm : X.mg "range" = none) (ha : MA X W [a, b, c] ms) (hms : ALen ms 3 := by repeat constructor) (hg : Gl X "range" := by rfl)
    (hs : starEach [a, b, c] X.env = (false, eval a X.env) :: starEach [b, c] X.env := by rfl) (hpl : (backTo pos (starEach [b, c] X.env)).any (·.1) = false := by rfl) :
    MI X W tg (.Call (.Name "range" p) [a, b, c] [] pos) (iR3 ms) :=
  (pi_range3 hg hm ha hs hpl).of fun σ H R h => by
    obtain ⟨vs, st, μ, G, F, re, k, h⟩ := h
    unfold iR3 at h
    cases hd : ms vs st with
    | bad => rw [hd] at h; exact h.elim
    | exc ex st1 => rw [hd] at h; exact ⟨vs, st, μ, G, F, re, k, by rw [hd]; exact h⟩
    | ok ds st1 =>
      rw [hd] at h
      refine ⟨vs, st, μ, G, F, re, k, ?_⟩
      rw [hd]
      intro μ1 G1 H1 f1 k1 ws rws
      have hl := hms.len hd
      have h1 := Done.fut f1 h
      obtain ⟨d1, d2, d3, rfl⟩ : ∃ d e f, ds = [d, e, f] := by
        match ds, hl with
        | [d, e, f], _ => exact ⟨d, e, f, rfl⟩
      obtain ⟨v, r, rfl, rv, ht⟩ := reps_cons rws
      obtain ⟨w, u, rfl, rw', ru⟩ := reps_two ht
      cases d1 with
      | int i =>
        cases d2 with
        | int j =>
          cases d3 with
          | int c =>
            obtain ⟨hc, h1⟩ := ite_done' (α := Its) h1
            obtain ⟨_, q⟩ := Done.here k1 h1
            rw [rep_int rv, rep_int rw', rep_int ru]
            unfold rgOk at hc
            rw [Bool.and_eq_true, Bool.and_eq_true, Bool.and_eq_true] at hc
            have h4 := of_decide_eq_true hc.2.2.2
            exact ⟨i, j, c, _, rfl, ⟨of_decide_eq_true hc.1, of_decide_eq_true hc.2.1, hc.2.2.1, by omega⟩, q _ wk_rngC⟩
          | _ => exact h1.elim
        | _ => exact h1.elim
      | _ => exact h1.elim
end
/-! ### list(range(n)) -/
def tLR (ta : TA) : TE := fun σ H Q => ta σ H fun vs H1 => ∃ j : Int, vs = [.int j] ∧ -(2 ^ 62) ≤ j ∧ j ≤ 1000000 ∧ ∀ p, H1 p = none → Q (.ref p) (upd H1 p (.lst ((List.range j.toNat).map fun (i : Nat) => V.int ((i : Nat) : Int))))
theorem vals_items {n : Nat} : ∀ {xs : List Value}, xs.length = n → (∀ j v, xs[j]? = some v → ∃ t, v = Value.int ((0 : Int) + (j : Nat) * 1) t) → Vals ((List.range n).map fun (i : Nat) => V.int ((i : Nat) : Int)) xs := by
  intro xs hl h
  have gen : ∀ (k : Nat) (xs : List Value), (∀ j v, xs[j]? = some v → ∃ t, v = Value.int (((k + j : Nat) : Int)) t) → Vals ((List.range' k xs.length).map fun (i : Nat) => V.int ((i : Nat) : Int)) xs := by
    intro k xs
    induction xs generalizing k with
    | nil => intro _; exact .nil
    | cons x xs ih =>
      intro h
      obtain ⟨t, e⟩ := h 0 x rfl
      rw [List.length_cons, List.range'_succ, List.map_cons]
      refine .cons ?_ (ih (k + 1) fun j v hv => ?_)
      · exact ⟨t, by rw [e]; rfl⟩
      · obtain ⟨t, e⟩ := h (j + 1) v hv
        exact ⟨t, by rw [e]; congr 2; omega⟩
  have := gen 0 xs fun j v hv => by
    obtain ⟨t, e⟩ := h j v hv
    exact ⟨t, by rw [e]; congr 1; omega⟩
  rw [hl, ← List.range_eq_range'] at this
  exact this
section
variable {X : Cx} {a : Expr} {ta : TA} {p p2 q pos : Pos}
theorem pe_listRange (hc : X.calm = true) (hg : Gl X "list") (hm : X.mg "list" = none) (hg2 : Gl X "range") (hm2 : X.mg "range" = none) (ha : PA X [a] ta) (na : starEach [a] X.env = [(false, eval a X.env)]) :
    PE X (.Call (.Name "list" p) [.Call (.Name "range" p2) [a] [] q] [] pos) (tLR ta) := by
  refine ⟨fun pins s σ H Q I h => ?_⟩
  refine Call_ (ld_blt I hg hm PyProof.Rows.boot_list ?_)
  refine PyProof.Rows.callWith_type1 (PyProof.Rows.args_cons ?_ rfl) rfl rfl
  refine Call_ (ld_blt I hg2 hm2 boot_range ?_)
  refine PyProof.Rows.callWith_type1 (thn (ha.run q pins s σ H _ I h) fun us s1 ⟨vs, H1, I1, r1, q1⟩ => ?_) na rfl
  obtain ⟨j, rfl, j0, j1, q1⟩ := q1
  cases r1 with
  | cons r rr =>
    cases rr
    obtain ⟨t, rfl⟩ := r
    refine call_range_1 (PyProof.Rows.args_nil ?_)
    have I2 : Inv X pins σ H1 { s1 with heap := s1.heap.push { cls := .type "range", data := .fields #[.int 0 s1.toks, .int j t, .int 1 (s1.toks + 1)] }, toks := s1.toks + 1 + 1 } := I1.kept fun b o e => Heap.get?_push_of_some _ e
    have hz : Builtin.Range.rangeSize 0 j 1 = ((j.toNat : Nat) : Int) := by rw [rangeSize_one]; split <;> omega
    refine call_list_range (n := j.toNat) (I1.ok.hd hc) (IsRange.new s1.heap 0 j 1 s1.toks t (s1.toks + 1)) (small_one (by omega) (by omega) j0 (by omega)) hz (by omega) fun h' tk acc c' hk hs hi => ?_
    have hlen : ((List.range j.toNat).map fun (i : Nat) => V.int ((i : Nat) : Int)).length ≤ sizeLine := by
      rw [List.length_map, List.length_range, sizeLine_eq]
      omega
    refine ⟨.ref _, upd H1 _ (.lst ((List.range j.toNat).map fun (i : Nat) => V.int ((i : Nat) : Int))), I2.laid (t' := tk) hk (Nat.le_refl _) ⟨hlen, acc.toList, c', vals_items (by rw [Array.length_toList]; exact hi.1) (fun k v hv => hi.2 k v (by rw [← Array.getElem?_toList]; exact hv)), by simpa using hs⟩, rfl, q1 _ (I2.hok.fresh (Nat.le_refl _))⟩
def lrD (b : Bool) : List D → Store → Re D := one fun x st => match x with
  | .int j => if fitR j ∧ j ≤ 1000000 then mkNew b (rng 0 j.toNat) st else .bad
  | _ => .bad
theorem m_lr {W : WX} {ms : EMs} (b : Bool) (hc : X.calm = true) (hm : X.mg "list" = none) (hm2 : X.mg "range" = none) (ha : MA X W [a] ms) (hg : Gl X "list" := by rfl) (hg2 : Gl X "range" := by rfl)
    (na : starEach [a] X.env = [(false, eval a X.env)] := by rfl) : ME X W (.Call (.Name "list" p) [.Call (.Name "range" p2) [a] [] q] [] pos) (eN (lrD b) ms) := by
  refine (pe_listRange hc hg hm hg2 hm2 ha na).of fun σ H Q h => ?_
  obtain ⟨vs, st, μ, G, F, re, k, h⟩ := h
  refine ⟨vs, st, μ, G, F, re, k, (Done.bind h).mono fun μ1 G1 xs st1 H1 f1 k1 h1 ws rws => ?_⟩
  cases xs with
  | nil => exact h1.elim
  | cons x r =>
    cases r with
    | cons _ _ => exact h1.elim
    | nil =>
      obtain ⟨v, rfl, rv⟩ := reps_one rws
      cases x with
      | int j =>
        have h1 : Done X.K X.mg W σ μ1 G1 F (if fitR j ∧ j ≤ 1000000 then mkNew b (rng 0 j.toNat) st1 else .bad) (Fin X.K Q) := h1
        obtain ⟨hc', h2⟩ := ite_done h1
        rw [rep_int rv]
        refine ⟨j, rfl, hc'.1.1, hc'.2, new_list k1 ?_ h2⟩
        rw [rng0_map]
        have : ∀ (l : List Nat), Reps X.K μ1 G1 (l.map fun (i : Nat) => D.int ((i : Nat) : Int)) (l.map fun (i : Nat) => V.int ((i : Nat) : Int)) := fun l => by
          induction l with
          | nil => exact .nil
          | cons i l ih => exact .cons .int ih
        exact this _
      | _ => exact h1.elim
end
/-! ### name += e -/
def iaddD (x y : D) (st : Store) : Re D := match x, y with
  | .int i, .int j => .ok (.int (i + j)) st
  | _, _ => .bad
theorem s_iadd {K : PySem.W.Frag} {mg : Str → Option Value} : S2 K mg iaddD (rI0 fun i j => .int (i + j)) := by
  intro W σ μ G F st H x y v w Q k rx ry h
  cases x with
  | int i =>
    cases y with
    | int j =>
      rw [rep_int rx, rep_int ry]
      exact ⟨i, j, rfl, rfl, fin_here k h .int⟩
    | _ => exact h.elim
  | _ => exact h.elim
@[simp] theorem sAug_eq {i : Nat} {f : D → D → Store → Re D} {m : EM} {vs : Vars} {st : Store} : sAug i f m vs st = match getV vs i with | some x => (m vs st).thn vs fun y st => (f x y st).thn vs fun z st => .nx (vs.set i (some z)) st | none => .bad := rfl
end Dn
/-! Own errors: class CallError(ValueError) whose __init__ says super().__init__(code); self.code = code, and classes over it. -/
namespace Dn
open PySem PySem.W PySem.Calls PyProof.Rows PySem.HandSPX
/-! ### the text of __init__ -/
def erA (p1 p2 : Pos) : Arguments := { posonlyargs := [], args := [{ arg := "self", annotation := none, pos := p1 }, { arg := "code", annotation := none, pos := p2 }], vararg := none, kwonlyargs := [], kw_defaults := [], kwarg := none, defaults := [] }
def erB (a1 a2 a3 a4 a5 a6 q1 q2 q3 q4 : Pos) : List Stmt :=
  [.Expr (.Call (.Attribute (.Call (.Name "super" a1) [] [] a2) "__init__" a3) [.Name "code" a4] [] a5) a6, .Assign [.Attribute (.Name "self" q1) "code" q2] (.Name "code" q3) q4]
def erS : Scope := { kind := .function, names := [(PySem.Str.ofString "self", .local), (PySem.Str.ofString "code", .local), (PySem.Str.ofString "__class__", .free), (PySem.Str.ofString "super", .globalImplicit)], isGenerator := false, isCoroutine := false, more := [] }
theorem erS_super : erS.names.lookup ("super" : Str) = some .globalImplicit := by decide +kernel
theorem erS_class : erS.names.lookup ("__class__" : Str) = some .free := by decide +kernel
theorem erS_self : erS.names.lookup ("self" : Str) = some .local := by decide +kernel
theorem erS_code : erS.names.lookup ("code" : Str) = some .local := by decide +kernel
/-- what the written part says of an error's class nm, at C; D: CallError's own place, fI: its __init__ -/
structure ErrTxt (P : Program) (K : Frag) (mg : Str → Option Value) (nm : Str) (C D fI : Addr) : Prop where
  gC : mg nm = some (.ref C)
  cls : ∃ nm q N bs bm sn sub ab col dd k0 k1 k2 k3 k5, K.lookup C = some (excClassObj nm q C N bs bm true sn sub ab col dd k0 k1 k2 k3 k5 "ValueError.__new__") ∧ refsVE bm = true
  sa : findIn K (.ref C) "__setattr__" = some (some (.builtin "object.__setattr__"))
  ga : findIn K (.ref C) "__getattribute__" = some (some (.builtin "BaseException.__getattribute__"))
  gg : findIn K (.ref C) "__getattr__" = some none
  noN : findIn K (.ref C) "code" = some none
  iC : findIn K (.ref C) "__init__" = some (some (.ref fI))
  tC : typeIn K (.ref fI) = some (.type "function")
  kC : keepIn K (.ref C) = true
  exC : subIn K (.ref C) (.type "BaseException") = some true
  veC : subIn K (.ref C) (.type "ValueError") = some true
  tyC : typeIn K (.ref C) = some (.type "type")
  hdC : hasDictIn K C = true
  exI : excInitIn K C veTail "ValueError.__new__" = true
  sup : ks_superIn K C D "__init__" = some (some (.builtin "ValueError.__init__"))
  clD : ∃ cdD, clsIn K D = some cdD
  sbD : mroIn K C (.ref D) = some true
  noS : mg "super" = none
  noY : nsIn K cStatics "thirdparty.any" = some none
  top : (P.main.scope.names.lookup ("super" : Str)).isSome = false
  fn : ∃ (oc : Value) (od : Option Addr) (doc pm : Value) (an : Option Addr) (cda cc : Addr) (ct : Value) (osl : Array (Option Value)) (p1 p2 a1 a2 a3 a4 a5 a6 q1 q2 q3 q4 : Pos) (ccl : Value) (cdd : Option Addr) (vs : Array Value) (ccs : Array (Option Value)) (file : Str) (tf : Tok) (cl : Value) (cld : Option Addr) (csl : Array (Option Value)),
    (a3.endLine == a5.line) = true ∧ K.lookup fI = some ⟨oc, od, .func (ksFn "__init__" "CallError.__init__" (erA p1 p2) (erB a1 a2 a3 a4 a5 a6 q1 q2 q3 q4) erS .none .none doc pm an (.ref cda) ct cc), osl⟩ ∧ codeIn K (.ref cda) "CallError.__init__" = true ∧
    K.lookup cda = some ⟨ccl, cdd, .fields vs, ccs⟩ ∧ vs[2]? = some (.str file tf) ∧ ((P.main.file : Str) == file) = true ∧ K.lookup cc = some ⟨cl, cld, .cell (some (.ref D)), csl⟩
theorem one_size (v : Value) : [v].length ≤ sizeLine := by
  rw [sizeLine_eq]
  exact (by decide : 1 ≤ 16777216)
theorem kept_but {K : Frag} {h h' : Heap} {x : Addr} (X : K.In h) (hx : K.lookup x = none) (k : ∀ b o, b ≠ x → h.get? b = some o → h'.get? b = some o) : K.In h' := fun a o e =>
  k a o (fun z => by rw [z, hx] at e; cases e) (X a o e)
theorem ldX {M : Model} {s : Shared} {env : Env} {A : Around} {m : Str → Option Value} {x : Str} {pos : Pos} {v : Value} {Q : Value → Shared → Prop} {E : Value → Shared → Prop} (hn : s.heap.Ns env.locals m) (hv : m x = some v) (h : Q v s)
    (hk : env.scope.kind = .function := by rfl) (hl : env.kindOf x = some .local := by rfl) (hd : (x == ("__debug__" : Str)) = false := by decide) : wpAny M A (eval (.Name x pos) env) Q E s := wpAny_Name (wpAny_loadName_local hk hl hn hv h) hd
/-- what __init__ leaves of a fresh exception at x -/
structure ErrEnd (h h' : Heap) (x C dx : Addr) (v : Value) : Prop where
  keep : ∀ b o, b ≠ x → h.get? b = some o → h'.get? b = some o
  obj : ∃ t1, h'.get? x = some { cls := .ref C, dict := some dx, data := .fields #[.ref t1, .none, .none, .none, .bool false, .none] }
  dbig : h.objs.size ≤ dx
  dne : dx ≠ x
  ns : h'.Ns1 dx (fun y => if y = "code" then some v else none)
/-- a made one -/
structure ErrMade (h h' : Heap) (e C d : Addr) (v : Value) : Prop where
  keep : ∀ b o, h.get? b = some o → h'.get? b = some o
  new : h.objs.size ≤ e
  obj : ∃ oe vs, h'.get? e = some oe ∧ oe.cls = .ref C ∧ oe.dict = some d ∧ oe.data = .fields vs ∧ vs[1]? = some .none
  dbig : h.objs.size ≤ d
  dne : d ≠ e
  ns : h'.Ns1 d (fun y => if y = "code" then some v else none)
section
variable {P : Program} {w : World} {A : Around} {E : Value → Shared → Prop} {R : Result → Shared → Prop} {s : Shared} {K : Frag} {mg : Str → Option Value} {nm : Str} {C D fI : Addr}
theorem at_method {M : Model} {c : Code} {A : Around} {o e : Expr} {name : Str} {apos pos : Pos} {env : Env} {Q : Value → Shared → Prop} {E : Value → Shared → Prop} {s : Shared} (hline : (apos.endLine == pos.line) = true)
    (h : _root_.PySem.wpAt M A c (attributeBase o name env (eval o env)) (fun ov s₁ => wpAny M A (getMethod ov name (do return (← importBound o env).getD true)) (fun fx s₂ => wpAny M A (callWith pos fx.1 fx.2 (backTo pos (starEach [e] env)) []) Q E s₂) E s₁) E s)
    (hfew : methodCallForm 1 (backTo pos (starEach [e] env)) (backToKw pos (keywordEach [] env)) = true := by rfl) :
    _root_.PySem.wpAt M A c (eval (.Call (.Attribute o name apos) [e] [] pos) env) Q E s := by
  rw [arm_eval_Call]
  refine _root_.PySem.wpAt_bind (ks_wpAt_mono h (fun ov s₁ h₁ => wpAt_of_wpAny (wpAny_bind (wpAny_standAt ?_))) fun _ _ x => x)
  have hpos : methodCallPos true o env apos pos = pure pos := by unfold methodCallPos; simp [hline]
  show wpAny _ _ (methodCall o name apos pos env ov 1 (backTo pos (starEach [e] env)) (backToKw pos (keywordEach [] env))) _ _ _
  unfold methodCall
  rw [hfew]
  refine wpAny_bind (wpAny_holding (wpAny_mono h₁ (fun fx s₂ h₂ => ?_) fun _ _ x => x))
  exact wpAny_bind (wpAny_of_eq hpos h₂)
/-- super() in the body of __init__ -/
theorem err_super (T : ErrTxt P K mg nm C D fI) {body : List Stmt} {q : Str} {L cc cda x : Addr} {attr : Str} {whole : Sem Value} {fd : FuncData} {ar : Arg} {vs : Array Value} {file : Str} {tf : Tok} {oc ccl cl : Value} {od cdd cld : Option Addr} {osl ccs csl : Array (Option Value)} {ox : Obj} {mb m : Str → Option Value} {p0 p1 : Pos} {Q : Value → Shared → Prop}
    (X : K.In s.heap) (hg : s.heap.Ns mainGlobals mg) (hb : s.heap.Ns builtinsNs mb) (hmb : mb "super" = bootBuiltins "super")
    (hf : K.lookup fI = some ⟨oc, od, .func fd, osl⟩) (hp : (fd.params.posonlyargs ++ fd.params.args).head? = some ar) (hn : s.heap.Ns L m) (hv : m ar.arg = some (.ref x)) (hx : s.heap.get? x = some ox) (hxc : ox.cls = .ref C) (hnc : ∀ c, ox.data ≠ .cls c)
    (hcode : K.lookup cda = some ⟨ccl, cdd, .fields vs, ccs⟩) (hvs : vs[2]? = some (.str file tf)) (hfile : ((P.main.file : Str) == file) = true) (hcell : K.lookup cc = some ⟨cl, cld, .cell (some (.ref D)), csl⟩)
    (hka : erS.names.lookup ar.arg = some .local) (hat : (attr == ("__class__" : Str)) = false)
    (h : ∀ h', h'.get? s.heap.objs.size = some (ks_superObj D x C) → (∀ y o, s.heap.get? y = some o → h'.get? y = some o) → Q (.ref s.heap.objs.size) { s with heap := h' }) :
    _root_.PySem.wpAt (model P w) A (.func body (ksEnv q erS L fI (.ref cda) cc)) (attributeBase (.Call (.Name "super" p0) [] [] p1) attr (ksEnv q erS L fI (.ref cda) cc) whole) Q E s := by
  obtain ⟨cdD, hD⟩ := T.clD
  obtain ⟨oD, hD1, hD2⟩ : ∃ oD, s.heap.get? D = some oD ∧ oD.data = .cls cdD := by
    unfold clsIn at hD
    split at hD
    · rename_i c d cd' sl ho
      cases hD
      exact ⟨_, X _ _ ho, rfl⟩
    · cases hD
  refine ks_wpAt_super_base (env := ksEnv q erS L fI (.ref cda) cc) erS_super erS_class hat rfl (X _ _ hf) rfl hp rfl (X _ _ hcode) rfl hvs hfile T.top ?_
  refine ks_loadName_global rfl erS_super (loadGlobal_builtin (env := ksEnv q erS L fI (.ref cda) cc) hg T.noS hb (hmb.trans (by first | rfl | kernel_rfl)) ⟨rfl, ?_⟩)
  refine wpAny_loadName_free (by rfl) erS_class rfl ⟨_, X _ _ hcell, rfl⟩ ?_
  refine wpAny_loadName_local (by rfl) hka hn hv ?_
  refine ks_wpAny_isType_cls hD1 hD2 ⟨rfl, ?_⟩
  obtain ⟨hh, g, d, t, os⟩ := s
  exact ks_wpAny_call_super hD1 hD2 hx hxc hnc (looks_mroIn X T.sbD) h
/-- the built-in's __init__, bound to the exception, is called -/
theorem err_bound (T : ErrTxt P K mg nm C D fI) {u x t0 : Addr} {rest : List Value} {Q : Value → Shared → Prop} (X : K.In s.heap) (hu : s.heap.get? u = some (kxs_mw "ValueError.__init__" x)) (hx : s.heap.get? x = some (excO C t0)) (hz : rest.length ≤ sizeLine)
    (hq : ∀ h' t1, (∀ b o, b ≠ x → s.heap.get? b = some o → h'.get? b = some o) → h'.get? x = some (excO C t1) → Q .none { s with heap := h' }) :
    wpAny (model P w) A (call (.ref u) rest) Q E s := by
  obtain ⟨nm, N', qn, bs, bm, hdct, sn, sub, ab, col, dd, k0, k1, k2, k3, k5, hC, hT⟩ := excInit_of X T.exI
  obtain ⟨hh, g, d, tk, os⟩ := s
  refine wpAny_call (codeAny_of_tree ?_)
  show wpAny _ A.in1 (callAny (.ref u) ⟨rest, []⟩) _ _ _
  simp only [callAny]
  refine wpAny_bind (wpAny_load hu ?_)
  simp only [kxs_mw, show (Value.type "method-wrapper" == Value.type "method" || Value.type "method-wrapper" == Value.type "builtin_function_or_method" || Value.type "method-wrapper" == Value.type "method-wrapper") = true by decide, if_true]
  refine KFB.if_so (by decide) ?_
  refine wpAny_bind (check_bound_init F.excBase_ValueError.toExcCallFacts hC hx rfl ?_)
  refine wpAny_bind (wpAny_pure (wpAny_pure ?_))
  refine ⟨plainId_quiet F.excBase_ValueError.init.plain _, codeAny_builtin F.excBase_ValueError.initEntry ?_⟩
  exact exc_init_tree (cls := .ref C) (t0 := t0) (dv := none) (c2 := .none) (c3 := .none) (b4 := .bool false) hx hz fun h' k e' t' => hq h' _ k e'
theorem err_init (T : ErrTxt P K mg nm C D fI) {x t0 : Addr} {v : Value} {mb : Str → Option Value} (X : K.In s.heap) (hlim : s.heap.NoLimit) (hg : s.heap.Ns mainGlobals mg) (hb : s.heap.Ns builtinsNs mb) (hmb : mb "super" = bootBuiltins "super") (hx : s.heap.get? x = some (excO C t0)) (hnx : K.lookup x = none) (hroom : A.depth < recursionLimit)
    (hq : ∀ h' tk dx, ErrEnd s.heap h' x C dx v → R (.ok (.ret .none)) { s with heap := h', toks := tk }) :
    codeAny (model P w) A (.call (.ref fI) ⟨[.ref x, v], []⟩) R s := by
  obtain ⟨oc, od, doc, pm, an, cda, cc, ct, osl, p1, p2, a1, a2, a3, a4, a5, a6, q1, q2, q3, q4, ccl, cdd, vs, ccs, file, tf, cl, cld, csl, hline, ho, hcd, hcode, hvs, hfile, hcell⟩ := T.fn
  obtain ⟨nm, q, N, bs, bm, sn, sub, ab, col, dd, k0, k1, k2, k3, k5, hC, hbm⟩ := T.cls
  have hcl : clsIn K C = some { name := nm, bases := bs, mro := .ref C :: bm, ns := N, qualname := q, hasDict := true, slotNames := sn, subclasses := sub, abstract := ab, collection := col, hasDel := false } := by unfold clsIn; rw [hC] <;> rfl
  have hk1 : ∀ y ∈ erS.names, y.2 ≠ .cell := by decide
  have hk2 : ∀ y ∈ [(("self" : Str), Value.ref x), ("code", v)], erS.names.lookup y.1 = some .local := fun y hy => by
    rcases List.mem_cons.mp hy with rfl | hy
    · exact erS_self
    · rcases List.mem_cons.mp hy with rfl | hy
      · exact erS_code
      · cases hy
  refine ks_codeAny_call_defAt (fd := ksFn "__init__" "CallError.__init__" (erA p1 p2) (erB a1 a2 a3 a4 a5 a6 q1 q2 q3 q4) erS .none .none doc pm an (.ref cda) ct cc) (binds := [("self", .ref x), ("code", v)]) hroom (X _ _ ho) rfl hlim (codeRec_of X hcd) rfl
    (BindsTo.of_eq (by first | rfl | with_unfolding_all rfl)) hk1 hk2 (fun h₁ hns k => ?_) rfl rfl rfl
  have hxL : s.heap.objs.size ≠ x := Nat.ne_of_gt (Heap.lt_size hx)
  have X₁ : K.In h₁ := X.keeps k
  have hx₁ := k _ _ hx
  have z : s.heap.objs.size < h₁.objs.size := hns.lt
  obtain ⟨L, hL⟩ : ∃ L, L = s.heap.objs.size := ⟨_, rfl⟩
  rw [← hL] at hns hxL z ⊢
  show _root_.PySem.wpAt _ _ (.func _ (ksEnv "CallError.__init__" erS L fI (.ref cda) cc)) (execs (erB a1 a2 a3 a4 a5 a6 q1 q2 q3 q4) (ksEnv "CallError.__init__" erS L fI (.ref cda) cc)) _ _ _
  -- super().__init__(code)
  unfold erB
  refine ks_wpAt_execs_cons (ks_wpAt_Expr_any (at_method (e := .Name "code" a4) (env := ksEnv "CallError.__init__" erS L fI (.ref cda) cc) hline ?_))
  refine err_super T (ar := { arg := "self", annotation := none, pos := p1 }) (m := fun y => [(("self" : Str), Value.ref x), ("code", v)].reverse.lookup y) X₁ (hg.keeps k) (hb.keeps k) hmb ho rfl hns (by first | rfl | with_unfolding_all rfl | kernel_rfl) hx₁ rfl (fun c => by intro e; cases e) hcode hvs hfile hcell erS_self (by decide) ?_
  intro h₂ hso k2
  have X₂ : K.In h₂ := X₁.keeps k2
  have hx₂ := k2 _ _ hx₁
  have I₂ : InstAt h₂ x (excO C t0) C none := ⟨hx₂, rfl, rfl, trivial⟩
  refine kxs_getMethod kxs_ValueError (so := h₁.objs.size) (D := D) (x := x) (C := C) hso (looks_opaque X₂ T.noY) (l₀ := .ref C :: bm) ?_ (l := ((Value.ref C :: bm).dropWhile (· != .ref D)).drop 1) rfl X₂ ?_ (I₂.type.andThen (looks_subIn X₂ T.veC)) (ks_ne X₂ I₂ hcl) (by decide) ?_
  · exact fun A Q E s k q => wpAny_bind ((looks_clsIn X₂ hcl) A _ E s k (wpAny_pure q))
  · have := T.sup
    unfold ks_superIn at this
    rw [hcl] at this
    exact this
  have k3 : ∀ b o, h₂.get? b = some o → (h₂.push (kxs_mw "ValueError.__init__" x)).get? b = some o := fun b o e => Heap.get?_push_of_some _ e
  have hu : (h₂.push (kxs_mw "ValueError.__init__" x)).get? h₂.objs.size = some (kxs_mw "ValueError.__init__" x) := Heap.get?_push_at rfl rfl
  have hns3 := (hns.keeps k2).keeps k3
  refine kxs_callWith (i := "ValueError.__init__") (x := x) (by rfl) (evalArgs_plain ?_)
  refine spliced_more (ldX (v := v) hns3 (by first | rfl | with_unfolding_all rfl | kernel_rfl) (spliced_none ⟨hu, ?_⟩)) (by rfl)
  refine err_bound T (X₂.keeps k3) hu (k3 _ _ hx₂) (one_size v) ?_
  intro h₄ t1 k4 hx₄
  have X₄ : K.In h₄ := kept_but (X₂.keeps k3) hnx k4
  obtain ⟨oL, es, ep, hoL, rL⟩ := hns3
  have hns4 : h₄.Ns L (fun y => [(("self" : Str), Value.ref x), ("code", v)].reverse.lookup y) := ⟨oL, es, ep, k4 _ _ hxL hoL, rL⟩
  have kAll : ∀ b o, b ≠ x → s.heap.get? b = some o → h₄.get? b = some o := fun b o hb e => k4 b o hb (k3 b o (k2 b o (k b o e)))
  -- self.code = code
  refine ks_wpAt_execs_cons (wpAt_of_wpAny (plainObj_wpAny_Assign_Attribute ?_))
  refine ldX (v := v) hns4 (by first | rfl | with_unfolding_all rfl | kernel_rfl) (ldX (v := .ref x) hns4 (by first | rfl | with_unfolding_all rfl | kernel_rfl) ?_)
  refine set_plain X₄ (ox := excO C t1) (od := none) ⟨hx₄, rfl, rfl, trivial⟩ T.sa ?_
  refine exc_osa X₄ hx₄ hcl (show refsVE (.ref C :: bm) = true from hbm) rfl T.noN (fun h₅ tk₅ dx k₅ dn dne hx₅ hn₅ => ?_)
  have z4 : L < h₄.objs.size := hns4.lt
  refine wpAt_of_wpAny ?_
  exact wpAny_execs_nil (hq h₅ _ dx ⟨fun b o hb e => k₅ b o hb (kAll b o hb e), ⟨t1, hx₅⟩, by rw [← hL]; exact Nat.le_of_lt (Nat.lt_of_lt_of_le z4 dn), dne, hn₅⟩)
theorem err_made (T : ErrTxt P K mg nm C D fI) {v : Value} {mb : Str → Option Value} (X : K.In s.heap) (hlim : s.heap.NoLimit) (hg : s.heap.Ns mainGlobals mg) (hb : s.heap.Ns builtinsNs mb) (hmb : mb "super" = bootBuiltins "super") (hroom : A.depth + 1 < recursionLimit)
    (hq : ∀ h' tk e d, ErrMade s.heap h' e C d v → R (.ok (.ret (.ref e))) { s with heap := h', toks := tk }) :
    codeAny (model P w) A (.call (.ref C) ⟨[v], []⟩) R s := by
  obtain ⟨nm, q, N, bs, bm, sn, sub, ab, col, dd, k0, k1, k2, k3, k5, hC, hbm⟩ := T.cls
  obtain ⟨hp, g, dr, tk, os⟩ := s
  have k : ∀ b o, hp.get? b = some o → ((hp.push (kdv_tup [v])).push (excO C hp.objs.size)).get? b = some o := fun b o e => Heap.get?_push_of_some _ (Heap.get?_push_of_some _ e)
  have hget : ((hp.push (kdv_tup [v])).push (excO C hp.objs.size)).get? (hp.objs.size + 1) = some (excO C hp.objs.size) := by heap_get
  have hnx : K.lookup (hp.objs.size + 1) = none := by
    cases e : K.lookup (hp.objs.size + 1) with
    | none => rfl
    | some o =>
      have z : hp.get? (hp.objs.size + 1) = some o := X _ _ e
      exact absurd (Nat.lt_of_succ_lt (Heap.lt_size z)) (Nat.lt_irrefl _)
  refine call_own F.excBase_ValueError (fun X => refsVE_contains X bm hbm) (X _ _ hC) (looks_findIn X T.iC) (fun self => bind_fn X self T.tC) (one_size v) ?_
  refine err_init (s := ⟨(hp.push (kdv_tup [v])).push (excO C hp.objs.size), g, dr, tk, os⟩) T (X.keeps k) (hlim.keeps k) (hg.keeps k) (hb.keeps k) hmb hget hnx ?_ fun h' tk' dx ⟨k', ⟨t1, hx⟩, dn, dne, hns⟩ => ?_
  · show A.depth + 1 < recursionLimit
    exact hroom
  · have old : ∀ b o, hp.get? b = some o → h'.get? b = some o := fun b o e => k' b o (Nat.ne_of_lt (Nat.lt_succ_of_lt (Heap.lt_size e))) (k b o e)
    have z : hp.objs.size + 1 + 1 ≤ dx := by
      first
        | (simpa only [Heap.size_push] using dn)
        | exact dn
        | (have q := dn; rw [Heap.size_push, Heap.size_push] at q; exact q)
    exact ⟨rfl, hq h' tk' (hp.objs.size + 1) dx ⟨old, Nat.le_succ _, ⟨_, _, hx, rfl, rfl, rfl, rfl⟩, Nat.le_trans (Nat.le_trans (Nat.le_succ _) (Nat.le_succ _)) z, dne, hns⟩⟩
end
end Dn
namespace Dn
open PySem PySem.Spec PyProof.Rows L2
theorem relO_code {v : V} {v' : Value} (r : RelV v v') (f : Str) : RelO (List.lookup f [(("code" : Str), v)]) (if f = "code" then some v' else none) := by
  by_cases hw : f = "code"
  · subst hw
    rw [if_pos rfl]
    have q : List.lookup ("code" : Str) [(("code" : Str), v)] = some v := by simp [List.lookup]
    rw [q]
    exact r
  · rw [if_neg hw]
    have qw : (f == ("code" : Str)) = false := by simpa using hw
    have q2 : List.lookup f [(("code" : Str), v)] = none := by simp [List.lookup, qw]
    rw [q2]
    trivial
section
variable {X : Cx} {nm : Str} {C D fI : Addr}
/-- nm(e) -/
def tMkErr (C : Addr) (ta : TA) : L2.St → Hp → XK → Prop := fun σ H Q => ta σ H fun vs H1 => ∃ v, vs = [v] ∧ ∀ d, H1 d = none → Q (.ref C) (some d) (upd H1 d (.xd [(("code" : Str), v)]))
theorem pmk_err {a : Expr} {ta : TA} {p pos : Pos} {k : Nat} (T : ErrTxt X.prog X.K X.mg nm C D fI) (hr : Room (k + 1) X.A) (ha : PA X [a] ta) (hg : Gl X nm := by rfl) (hdb : (nm == ("__debug__" : Str)) = false := by decide)
    (he : starEach (a :: []) X.env = (false, eval a X.env) :: starEach [] X.env := by rfl) (hpl : (backTo pos (starEach [] X.env)).any (·.1) = false := by rfl) :
    PMk X (.Call (.Name nm p) [a] [] pos) (tMkErr C ta) := by
  intro pins s σ H Q I h
  refine wpAny_Call_Name_kw (ld_glob I hg T.gC ?_ hdb)
  refine PySem.W.callWith_K (h₀ := X.base) I.ok.mod.kin T.kC (thn (ha.run pos pins s σ H _ I h) fun us s1 hh => ?_) he hpl
  obtain ⟨vs, H1, I1, r1, v, ev, q1⟩ := hh
  subst ev
  refine ⟨I1.kIn, ?_⟩
  cases r1 with
  | cons rv rn =>
    rename_i v' us'
    cases rn
    show wpAny _ _ (call (.ref C) [v']) _ _ _
    have hlim := I1.nolimit
    obtain ⟨mb, hblt, hmb⟩ := I1.ok.mod.blt
    have hg1 := I1.ok.mod.glob.keeps I1.bk
    have hb1 := hblt.keeps I1.bk
    obtain ⟨hp, g, dr, tk, os⟩ := s1
    refine wpAny_call (err_made T I1.kIn hlim hg1 hb1 (hmb "super" (by decide)) (by have := hr.dp; omega) fun h' tk' e d M => ?_)
    show MkP X pins σ Q (.ref e) ⟨h', g, dr, tk', os⟩
    obtain ⟨oe, fv, hoe, hc, hd, hdat, h1⟩ := M.obj
    have hns := M.ns
    obtain ⟨G', g1, g2⟩ := restrict h' fun b => decide (b ≠ e)
    have gk : ∀ b, b ≠ e → G'.get? b = h'.get? b := fun b hb => g1 b (decide_eq_true hb)
    have ge : G'.get? e = none := g2 e (by simp)
    have old : ∀ b o, hp.get? b = some o → G'.get? b = some o := fun b o q => (gk b (Nat.ne_of_lt (Nat.lt_of_lt_of_le (Heap.lt_size q) M.new))).trans (M.keep b o q)
    have ob : ObjOk X.prog X.w (upd H1 d (.xd [(("code" : Str), v)])) G' d (.xd [(("code" : Str), v)]) :=
      ⟨_, hns.at (fun o q => (gk d M.dne).trans q), fun f => relO_code rv f⟩
    have J : Inv X pins σ (upd H1 d (.xd [(("code" : Str), v)])) ⟨G', g, dr, tk', os⟩ := I1.laid (t' := tk') old M.dbig ob
    refine ⟨e, oe, fv, ⟨G', g, dr, tk', os⟩, _, .ref C, some d, rfl, J, fun b o q => ?_, ge, hoe, ⟨hc, hd⟩, hdat, h1, ?_, rfl, I1.bare, raises_own T.exC T.tyC, q1 d (I1.hok.fresh M.dbig)⟩
    · by_cases hb : b = e
      · have q' : G'.get? b = some o := q
        rw [hb, ge] at q'; cases q'
      · exact (gk b hb).symm.trans q
    · rw [upd_ne (Ne.symm M.dne)]
      exact I1.hok.fresh M.new
/-- raise nm(m) -/
def sRaise (nm : Str) (m : EM) : SM := fun vs st => (m vs st).thn vs fun d st => .exc ⟨nm, [("code", d)]⟩ vs st
theorem st_raise {W : WX} {a : Expr} {m : EM} {p pos pos2 : Pos} {k : Nat} (hc : X.calm = true) (T : ErrTxt X.prog X.K X.mg nm C D fI) (hr : Room (k + 1) X.A) (tk : Takes X W) (ha : ME X W a m) (hg : Gl X nm := by rfl) (hdb : (nm == ("__debug__" : Str)) = false := by decide)
    (he : starEach (a :: []) X.env = (false, eval a X.env) :: starEach [] X.env := by rfl) (hpl : (backTo pos (starEach [] X.env)).any (·.1) = false := by rfl) :
    MS X W (.Raise (some (.Call (.Name nm p) [a] [] pos)) none pos2) (sRaise nm m) := (ps_raise hc tk (pmk_err T hr (ma_cons ha ma_nil he) hg hdb he hpl)).of fun E σ H h => by
  obtain ⟨vs, st, μ, G, F, re, k, h⟩ := h
  refine ⟨vs, st, μ, G, F, re, k, ?_⟩
  unfold sRaise at h
  unfold aCons aNil
  cases hd : m vs st with
  | bad => rw [hd] at h; exact h.elim
  | exc ex st1 => rw [hd] at h; exact fun μ1 G1 H1 cls dd f1 k1 x1 => h μ1 G1 H1 σ cls dd f1 k1 (re.fut f1) x1
  | ok d st1 =>
    rw [hd] at h
    intro μ1 G1 H1 f1 k1 ws rws
    obtain ⟨w, r, rfl, rw1, rr⟩ := reps_cons rws
    cases reps_nil rr
    refine ⟨w, rfl, fun d hd => ?_⟩
    have kn := k1.learn (o := .xd [(("code" : Str), w)]) hd
    have fut : Fut μ1 G1 μ1 (upd G1 d (.xd [(("code" : Str), w)])) := .know (.new (k1.ex.free hd))
    refine h _ _ _ σ _ _ (f1.trans fut) kn (re.fut (f1.trans fut)) ⟨C, rfl, T.gC, [(("code" : Str), w)], upd_same, w, [], rfl, rw1.fut fut, rfl⟩
end
end Dn
/-! try: .. except X as e: .. -/
namespace Dn
open PySem PySem.Spec PyProof.Rows L2
/-- what does not depend on where the exception stands -/
noncomputable def unif (f : Addr → Addr → Rs) : Rs := open Classical in if ∀ a b c d, f a b = f c d then f 0 0 else .bad
theorem unif_of {f : Addr → Addr → Rs} {r : Rs} (h : ∀ a b, f a b = r) : unif f = r := by
  unfold unif
  rw [if_pos fun a b c d => (h a b).trans (h c d).symm]
  exact h 0 0
theorem unif_bad {f : Addr → Addr → Rs} (a b : Addr) : unif f = f a b ∨ unif f = .bad := by
  unfold unif
  by_cases h : ∀ a b c d, f a b = f c d
  · rw [if_pos h]; exact .inl (h _ _ _ _)
  · rw [if_neg h]; exact .inr rfl
/-- the name of the exception is gone behind the suite -/
def dropI (i : Nat) : Rs → Rs
  | .nx vs st => .nx (vs.set i none) st
  | .ret d st => .ret d st
  | .brk vs st => .brk (vs.set i none) st
  | .ct vs st => .ct (vs.set i none) st
  | _ => .bad
/-- its fields -/
def exD (e : Exn) : Option (List D) := match e.fs with
  | [(n, d)] => if n = "code" then some [d] else none
  | _ => none
/-- what a clause takes: its own class; CallError takes all -/
def catches (c x : Str) : Bool := c == x || x == "CallError"
noncomputable def sTryAs (names : List Str) (x : Str) (i : Nat) (b : SM) (h : Addr → Addr → SM) : SM := fun vs st => match b vs st with
  | .exc e vs1 st1 => if names.contains e.c = true then (if catches e.c x = true then (match exD e with
      | some ds => unif fun a dd => dropI i (h a dd (vs1.set i (some (.exn a dd ds))) st1)
      | none => .bad) else .exc e vs1 st1) else .bad
  | r => r
noncomputable def sTryOn (names : List Str) (x : Str) (b : SM) (h : SM) : SM := fun vs st => match b vs st with
  | .exc e vs1 st1 => if names.contains e.c = true then (if catches e.c x = true then (match h vs1 st1 with
      | .exc _ _ _ => .bad
      | r => r) else .exc e vs1 st1) else .bad
  | r => r
/-- e.code, e the exception of this suite -/
def eExn (i : Nat) (a dd : Addr) : EM := fun vs st => match getV vs i with
  | some (.exn a' dd' (d :: ds)) => if a' = a ∧ dd' = dd then .ok d st else .bad
  | _ => .bad
/-- what is needed for reading a field of an error of the class at C -/
structure ErrFld (K : PySem.W.Frag) (C : Addr) : Prop where
  ga : PySem.W.findIn K (.ref C) "__getattribute__" = some (some (.builtin "BaseException.__getattribute__"))
  gg : PySem.W.findIn K (.ref C) "__getattr__" = some none
  exC : PySem.W.subIn K (.ref C) (.type "BaseException") = some true
  hdC : PySem.W.hasDictIn K C = true
  noN : PySem.W.findIn K (.ref C) "code" = some none
theorem ErrTxt.fld {P : Program} {K : PySem.W.Frag} {mg : Str → Option Value} {nm : Str} {C D fI : Addr} (T : ErrTxt P K mg nm C D fI) : ErrFld K C := ⟨T.ga, T.gg, T.exC, T.hdC, T.noN⟩
section
variable {X : Cx}
theorem m_code {a : Addr} {oe : Obj} {C dd : Addr} {pn : List (Addr × Obj)} {W : WX} {x : Str} {np pos : Pos} {i : Nat} (T : ErrFld X.K C) (hz : Zc (.ref C) (some dd) oe) (hf : ∃ vs, oe.data = .fields vs) (hN : (X.suite a ((a, oe) :: pn)).N[i]? = some x := by rfl)
    (hv : Vis (X.suite a ((a, oe) :: pn)).env.scope x := by first | exact Or.inl rfl | exact Or.inr (Or.inl rfl) | exact Or.inr (Or.inr rfl)) (hd : (x == ("__debug__" : Str)) = false := by decide) (hcd : (x == ("__classdict__" : Str)) = false := by decide)
    (hb : attributeBase (.Name x np) "code" X.env (eval (.Name x np) X.env) = eval (.Name x np) X.env := by rfl) :
    ME (X.suite a ((a, oe) :: pn)) W (.Attribute (.Name x np) "code" pos) (eExn i a dd) := by
  refine ⟨fun pins s σ H Q I h => ?_⟩
  refine attr_of hb (thn ((pe_var (X := X.suite a ((a, oe) :: pn)) hN hv hd hcd).run pins s σ H (fun v H' => H' = H ∧ σ[i]? = some (some v)) I ?_) fun u s1 hh => ?_)
  · obtain ⟨vs, st, μ, G, F, re, k, h⟩ := h
    unfold eExn getV at h
    cases hv : vs[i]? with
    | none => rw [hv] at h; exact h.elim
    | some o =>
      cases o with
      | none => rw [hv] at h; exact h.elim
      | some d =>
        obtain ⟨w, hw, _⟩ := re.get i d hv
        exact ⟨w, hw, rfl, hw⟩
  obtain ⟨v, H1, I1, rx, rfl, hσ⟩ := hh
  obtain ⟨vs, st, μ, G, F, re, k, h⟩ := h
  unfold eExn getV at h
  cases hv : vs[i]? with
  | none => rw [hv] at h; exact h.elim
  | some o =>
    cases o with
    | none => rw [hv] at h; exact h.elim
    | some d =>
      rw [hv] at h
      obtain ⟨w, hw, rw1⟩ := re.get i d hv
      rw [hσ] at hw
      cases hw
      cases d with
      | exn a' dd' ds =>
        cases ds with
        | nil => exact h.elim
        | cons d ds =>
          have h' : Done X.K X.mg W σ μ G F (if a' = a ∧ dd' = dd then Re.ok d st else .bad) (Fin X.K Q) := h
          by_cases hc : a' = a ∧ dd' = dd
          · obtain ⟨rfl, rfl⟩ := hc
            rw [if_pos ⟨rfl, rfl⟩] at h'
            obtain ⟨ws, rfl, hg, rs⟩ := rep_exn rw1
            obtain ⟨w, ws', rfl, rw2, _⟩ := reps_cons rs
            obtain rfl : u = Value.ref a' := rx
            obtain ⟨ha, _⟩ := I1.pin (a', oe) (List.mem_append_left _ List.mem_cons_self)
            obtain ⟨fv, hd⟩ := hf
            have hgs : H1 dd' = some (.xd (exN.zip (w :: ws'))) := k.ex _ _ hg
            obtain ⟨mA, hns, hr⟩ := I1.hok dd' _ hgs
            obtain ⟨od, ho, hl⟩ := lookIn_ns hns
            have l : List.lookup ("code" : Str) (exN.zip (w :: ws')) = some w := by simp [exN, List.lookup]
            obtain ⟨u, hu, ru⟩ := RelO.some_of (v := w) (o := mA "code") (by rw [← l]; exact hr "code")
            have J : PySem.W.InstAt s1.heap a' oe C (some od) := ⟨ha, hz.1, by unfold PySem.W.notCls; rw [hd] <;> rfl, by rw [hz.2]; exact ho⟩
            exact HandSPX.exc_get I1.kIn J T.ga T.gg T.exC (PySem.W.findObj_own T.hdC T.noN rfl (by rw [hl, hu])) (handed_of ru) ⟨w, H1, I1.tok _, ru, fin_here k h' rw2⟩
          · rw [if_neg hc] at h'; exact h'.elim
      | _ => exact h.elim
theorem RepE.clear {K : PySem.W.Frag} {μ : List Addr} {G : Hp} {vs : Vars} {σ : L2.St} {i : Nat} (re : RepE K μ G vs σ) : RepE K μ G (vs.set i none) (σ.set i none) := by
  refine ⟨by simp [re.len], fun j d e => ?_⟩
  by_cases hij : i = j
  · subst hij
    rw [List.getElem?_set] at e
    split at e
    · split at e <;> cases e
    · exact absurd rfl ‹_›
  · rw [List.getElem?_set_ne hij] at e ⊢
    exact re.get j d e
theorem RepX.get {K : PySem.W.Frag} {mg : Str → Option Value} {μ : List Addr} {G : Hp} {e : Exn} {cls : Value} {d : Option Addr} {ds : List D} {C : Addr} (h : RepX K mg μ G e cls d) (hC : mg e.c = some (.ref C)) (hx : exD e = some ds) (a : Addr) :
    cls = .ref C ∧ ∃ dd, d = some dd ∧ Rep K μ G (.exn a dd ds) (.ref a) := by
  obtain ⟨C', rfl, e2, h⟩ := h
  rw [hC] at e2
  cases e2
  refine ⟨rfl, ?_⟩
  unfold exD at hx
  split at hx
  · rename_i n d' hfs
    split at hx
    · rename_i hn
      cases hx
      subst hn
      cases d with
      | none =>
        rw [hfs] at h
        cases h
      | some dd =>
        obtain ⟨gs, hg, hr⟩ := h
        rw [hfs] at hr
        obtain ⟨v, s, rfl, rv, rfl⟩ := hr
        exact ⟨dd, rfl, .exn (vs := [v]) hg (.cons rv .nil)⟩
    · cases hx
  · cases hx
/-- what is known of the errors that may come: their classes, and whether the clause takes them -/
def ErrsOk (X : Cx) (names : List Str) (x : Str) (cv : Value) : Prop := ∀ c ∈ names, ∃ C, X.mg c = some (.ref C) ∧ ErrFld X.K C ∧ PySem.W.exmOne X.K (.ref C) cv = some (catches c x)
variable {W : WX} {x n : Str} {c : Value} {i : Nat} {body suite : List Stmt} {b₀ : Stmt} {np pos pos' : Pos} {mb : SM} {names : List Str}
theorem st_try_as {hm : Addr → Addr → SM} (hs : X.stack = X.env :: X.outer) (hf : X.env.frame = some X.env.locals) (hN : X.N.Nodup) (hi : X.N[i]? = some n) (hln : X.env.kindOf n = some .local) (hc : Names X x c) (tk : Takes X W) (he : ErrsOk X names x c)
    (hb : ∀ (W : WX) (pn : List (Addr × Obj)) (xe : Value → Shared → Prop), Takes (X.tr pn xe) W → PassesOwn (model X.prog X.w) X.A X.env xe → MSs (X.tr pn xe) W body mb)
    (hsu : ∀ (a : Addr) (oe : Obj) (C dd : Addr) (pn : List (Addr × Obj)), ErrFld X.K C → Zc (.ref C) (some dd) oe → (∃ vs, oe.data = .fields vs) → MSs (X.suite a ((a, oe) :: pn)) (fun _ _ _ _ => False) (b₀ :: suite) (hm a dd)) :
    MS X W (.Try body [.ExceptHandler (some (.Name x np)) (some n) (b₀ :: suite) pos'] [] [] pos) (sTryAs names x i mb hm) := by
  refine (ps_try_as (tb := fun W => tS X.K X.mg W mb) (ts := fun a cls d => fun E σ H => ∃ C dd, cls = .ref C ∧ d = some dd ∧ ErrFld X.K C ∧ tS X.K X.mg (fun _ _ _ _ => False) (hm a dd) E σ H) (Wout := W) hs hf hN hi hln hc tk hb
    (fun a oe cls d pn hz hv => ⟨fun pins s σ H D I ⟨C, dd, e1, e2, ef, h⟩ => by subst e1; subst e2; exact (hsu a oe C dd pn ef hz hv).run pins s σ H D I h⟩)).of fun E σ H h => ?_
  obtain ⟨vs, st, μ, G, F, re, k, h⟩ := h
  refine ⟨vs, st, μ, G, F, re, k, ?_⟩
  unfold sTryAs at h
  cases hr : mb vs st with
  | bad => rw [hr] at h; exact h
  | nx _ _ => rw [hr] at h; exact h
  | ret _ _ => rw [hr] at h; exact h
  | brk _ _ => rw [hr] at h; exact h
  | ct _ _ => rw [hr] at h; exact h
  | exc e vs1 st1 =>
    rw [hr] at h
    intro μ1 G1 H1 σ1 cls dd f1 k1 re1 x1
    have h : DoneS X.K X.mg W μ G F (if names.contains e.c = true then (if catches e.c x = true then (match exD e with
      | some ds => unif fun a dd => dropI i (hm a dd (vs1.set i (some (.exn a dd ds))) st1)
      | none => .bad) else .exc e vs1 st1) else .bad) E := h
    by_cases hn : names.contains e.c = true
    · rw [if_pos hn] at h
      obtain ⟨C, hC, hfl, hex⟩ := he e.c (by simpa using hn)
      obtain ⟨C', rfl, e2, hx⟩ := id x1
      rw [hC] at e2
      cases e2
      refine ⟨catches e.c x, hex, fun hy a ha => ?_, fun hno => ?_⟩
      · rw [if_pos hy] at h
        cases hd : exD e with
        | none => rw [hd] at h; exact h.elim
        | some ds =>
          rw [hd] at h
          obtain ⟨_, d1, rfl, rx⟩ := x1.get hC hd a
          refine ⟨C, d1, rfl, rfl, hfl, vs1.set i (some (.exn a d1 ds)), st1, μ1, G1, F, re1.set rx i, k1, ?_⟩
          have h : DoneS X.K X.mg W μ1 G1 F (unif fun a dd => dropI i (hm a dd (vs1.set i (some (.exn a dd ds))) st1)) E := DoneS.fut f1 h
          rcases unif_bad (f := fun a dd => dropI i (hm a dd (vs1.set i (some (.exn a dd ds))) st1)) a d1 with q | q
          · rw [q] at h
            cases hh : hm a d1 (vs1.set i (some (.exn a d1 ds))) st1 with
            | bad => rw [hh] at h; exact h.elim
            | exc _ _ _ => rw [hh] at h; exact h.elim
            | ret d st => rw [hh] at h; exact h
            | nx vs2 st2 => rw [hh] at h; exact fun a b c d e f g => h a b c _ e f g.clear
            | brk vs2 st2 => rw [hh] at h; exact fun a b c d e f g => h a b c _ e f g.clear
            | ct vs2 st2 => rw [hh] at h; exact fun a b c d e f g => h a b c _ e f g.clear
          · rw [q] at h; exact h.elim
      · rw [if_neg (by rw [hno]; decide)] at h
        exact h μ1 G1 H1 σ1 _ dd f1 k1 re1 x1
    · rw [if_neg hn] at h; exact h.elim
theorem st_try_on {hm : SM} (hs : X.stack = X.env :: X.outer) (hf : X.env.frame = some X.env.locals) (hc : Names X x c) (tk : Takes X W) (he : ErrsOk X names x c)
    (hb : ∀ (W : WX) (pn : List (Addr × Obj)) (xe : Value → Shared → Prop), Takes (X.tr pn xe) W → PassesOwn (model X.prog X.w) X.A X.env xe → MSs (X.tr pn xe) W body mb)
    (hsu : ∀ (a : Addr) (oe : Obj) (pn : List (Addr × Obj)), MSs (X.suite a ((a, oe) :: pn)) (fun _ _ _ _ => False) (b₀ :: suite) hm) :
    MS X W (.Try body [.ExceptHandler (some (.Name x np)) none (b₀ :: suite) pos'] [] [] pos) (sTryOn names x mb hm) := by
  refine (ps_try_only (tb := fun W => tS X.K X.mg W mb) (ts := fun a cls d => tS X.K X.mg (fun _ _ _ _ => False) hm) (Wout := W) hs hf hc tk hb (fun a oe cls d pn hz hv => hsu a oe pn)).of fun E σ H h => ?_
  obtain ⟨vs, st, μ, G, F, re, k, h⟩ := h
  refine ⟨vs, st, μ, G, F, re, k, ?_⟩
  unfold sTryOn at h
  cases hr : mb vs st with
  | bad => rw [hr] at h; exact h
  | nx _ _ => rw [hr] at h; exact h
  | ret _ _ => rw [hr] at h; exact h
  | brk _ _ => rw [hr] at h; exact h
  | ct _ _ => rw [hr] at h; exact h
  | exc e vs1 st1 =>
    rw [hr] at h
    intro μ1 G1 H1 σ1 cls dd f1 k1 re1 x1
    have h : DoneS X.K X.mg W μ G F (if names.contains e.c = true then (if catches e.c x = true then (match hm vs1 st1 with
      | .exc _ _ _ => .bad
      | r => r) else .exc e vs1 st1) else .bad) E := h
    by_cases hn : names.contains e.c = true
    · rw [if_pos hn] at h
      obtain ⟨C, hC, hfl, hex⟩ := he e.c (by simpa using hn)
      obtain ⟨C', rfl, e2, hx⟩ := id x1
      rw [hC] at e2
      cases e2
      refine ⟨catches e.c x, hex, fun hy a ha => ?_, fun hno => ?_⟩
      · rw [if_pos hy] at h
        refine ⟨vs1, st1, μ1, G1, F, re1, k1, ?_⟩
        have h := DoneS.fut f1 h
        cases hh : hm vs1 st1 with
        | exc _ _ _ => rw [hh] at h; exact h.elim
        | bad => rw [hh] at h; exact h
        | nx _ _ => rw [hh] at h; exact h
        | ret _ _ => rw [hh] at h; exact h
        | brk _ _ => rw [hh] at h; exact h
        | ct _ _ => rw [hh] at h; exact h
      · rw [if_neg (by rw [hno]; decide)] at h
        exact h μ1 G1 H1 σ1 _ dd f1 k1 re1 x1
    · rw [if_neg hn] at h; exact h.elim
end
end Dn
/-! Answers that may be exceptions. -/
namespace Dn
open PySem PySem.Spec PyProof.Rows L2
def wpXQ {α : Type} (r : Re α) (Q : α → Store → Prop) (E : Exn → Store → Prop) : Prop := match r with
  | .ok a st => Q a st
  | .exc e st => E e st
  | _ => False
structure wpX {α : Type} (r : Re α) (Q : α → Store → Prop) (E : Exn → Store → Prop) (_ : Lk Q := Unit.unit) (_ : Lk E := Unit.unit) : Prop where
  of : wpXQ r Q E
def wpSXQ (r : Rs) (P : Po) (E : Exn → Vars → Store → Prop) : Prop := match r with
  | .nx vs st => P.n vs st
  | .ret d st => P.r d st
  | .brk vs st => P.b vs st
  | .ct vs st => P.c vs st
  | .exc e vs st => E e vs st
  | _ => False
structure wpSX (r : Rs) (P : Po) (E : Exn → Vars → Store → Prop) (_ : Lk P := Unit.unit) (_ : Lk E := Unit.unit) : Prop where
  of : wpSXQ r P E
theorem wpX_q {α : Type} {r : Re α} {Q : α → Store → Prop} {E : Exn → Store → Prop} : wpX r Q E = wpXQ r Q E := propext ⟨fun h => h.of, fun h => ⟨h⟩⟩
theorem wpSX_q {r : Rs} {P : Po} {E : Exn → Vars → Store → Prop} : wpSX r P E = wpSXQ r P E := propext ⟨fun h => h.of, fun h => ⟨h⟩⟩
section
variable {α β : Type} {r : Re α} {Q Q' : α → Store → Prop} {E E' : Exn → Store → Prop}
theorem wpX_mono (h : wpX r Q E) (k : ∀ a st, Q a st → Q' a st) (k2 : ∀ e st, E e st → E' e st) : wpX r Q' E' := by
  cases r with
  | ok a st => exact ⟨k a st h.of⟩
  | exc e st => exact ⟨k2 e st h.of⟩
  | bad => exact ⟨h.of⟩
@[simp] theorem wpX_ok {a : α} {st : Store} : wpX (.ok a st) Q E = Q a st := by rw [wpX_q]; rfl
@[simp] theorem wpX_exc {e : Exn} {st : Store} : wpX (.exc e st : Re α) Q E = E e st := by rw [wpX_q]; rfl
theorem wpX_bad : wpX (.bad : Re α) Q E = False := by rw [wpX_q]; rfl
@[simp] theorem wpX_bind {k : α → Store → Re β} {Q : β → Store → Prop} : wpX (r.bind k) Q E = wpX r (fun a st => wpX (k a st) Q E) E := by
  cases r with
  | bad => rw [wpX_bad]; exact wpX_bad
  | exc e st => rw [wpX_exc]; exact wpX_exc
  | ok a st => rw [wpX_ok]; rfl
theorem wpX_of (h : wp r Q) : wpX r Q E := by
  cases r with
  | ok a st => rw [wpX_ok]; rw [wp_ok] at h; exact h
  | bad => exact h.of.elim
  | exc _ _ => exact h.of.elim
theorem wp_of (h : wpX r Q fun _ _ => False) : wp r Q := by
  cases r with
  | ok a st => rw [wp_ok]; rw [wpX_ok] at h; exact h
  | bad => exact h.of.elim
  | exc _ _ => exact h.of.elim
theorem wpX_cases (h : wpX r Q E) : (∃ a st, r = .ok a st ∧ Q a st) ∨ ∃ e st, r = .exc e st ∧ E e st := by
  cases r with
  | ok a st => exact .inl ⟨a, st, rfl, h.of⟩
  | exc e st => exact .inr ⟨e, st, rfl, h.of⟩
  | bad => exact h.of.elim
@[simp] theorem wpSX_thn {vs : Vars} {k : α → Store → Rs} {P : Po} {E : Exn → Vars → Store → Prop} : wpSX (r.thn vs k) P E = wpX r (fun a st => wpSX (k a st) P E) (fun e st => E e vs st) := by
  cases r with
  | bad => rw [wpX_bad, wpSX_q]; rfl
  | exc e st => rw [wpX_exc, wpSX_q]; rfl
  | ok a st => rw [wpX_ok]; rfl
end
section
variable {r : Rs} {P P' : Po} {vs : Vars} {st : Store} {d : D} {b : SM} {E E' : Exn → Vars → Store → Prop}
theorem wpSX_mono (h : wpSX r P E) (k1 : ∀ vs st, P.n vs st → P'.n vs st) (k2 : ∀ d st, P.r d st → P'.r d st) (k3 : ∀ vs st, P.b vs st → P'.b vs st) (k4 : ∀ vs st, P.c vs st → P'.c vs st) (k5 : ∀ e vs st, E e vs st → E' e vs st) : wpSX r P' E' := by
  cases r with
  | nx vs st => exact ⟨k1 _ _ h.of⟩
  | ret d st => exact ⟨k2 _ _ h.of⟩
  | brk vs st => exact ⟨k3 _ _ h.of⟩
  | ct vs st => exact ⟨k4 _ _ h.of⟩
  | exc e vs st => exact ⟨k5 _ _ _ h.of⟩
  | bad => exact ⟨h.of⟩
@[simp] theorem wpSX_nx : wpSX (.nx vs st) P E = P.n vs st := wpSX_q
@[simp] theorem wpSX_ret : wpSX (.ret d st) P E = P.r d st := wpSX_q
@[simp] theorem wpSX_brk : wpSX (.brk vs st) P E = P.b vs st := wpSX_q
@[simp] theorem wpSX_ct : wpSX (.ct vs st) P E = P.c vs st := wpSX_q
@[simp] theorem wpSX_exc {e : Exn} : wpSX (.exc e vs st) P E = E e vs st := wpSX_q
theorem wpSX_bad : wpSX .bad P E = False := wpSX_q
@[simp] theorem wpSX_seq : wpSX (r.seq b) P E = wpSX r { P with n := fun vs st => wpSX (b vs st) P E } E := by
  cases r with
  | nx vs st => rw [wpSX_nx]; rfl
  | bad => rw [wpSX_bad]; exact wpSX_bad
  | ret d st => rw [wpSX_ret]; exact wpSX_ret
  | brk d st => rw [wpSX_brk]; exact wpSX_brk
  | ct d st => rw [wpSX_ct]; exact wpSX_ct
  | exc e d st => rw [wpSX_exc]; exact wpSX_exc
theorem wpSX_of (h : wpS r P) : wpSX r P E := by
  cases r with
  | nx vs st => exact ⟨h.of⟩
  | ret d st => exact ⟨h.of⟩
  | brk vs st => exact ⟨h.of⟩
  | ct vs st => exact ⟨h.of⟩
  | exc e vs st => exact h.of.elim
  | bad => exact h.of.elim
theorem wpS_of (h : wpSX r P fun _ _ _ => False) : wpS r P := by
  cases r with
  | nx vs st => exact ⟨h.of⟩
  | ret d st => exact ⟨h.of⟩
  | brk vs st => exact ⟨h.of⟩
  | ct vs st => exact ⟨h.of⟩
  | exc e vs st => exact h.of.elim
  | bad => exact h.of.elim
end
@[simp] theorem sRaise_eq {nm : Str} {m : EM} {vs : Vars} {st : Store} : sRaise nm m vs st = (m vs st).thn vs fun d st => .exc ⟨nm, [("code", d)]⟩ vs st := rfl
theorem gc_exn {st0 : Store} {e : Exn} {st : Store} (k : keepOk st0 st) (h : (e.fs.all fun p => lf p.2) = true) : gcExc st0 e st = .exc e (st.take st0.length) := by
  unfold gcExc
  rw [if_pos ⟨k, List.all_eq_true.mpr fun p hp => locsLt_mono (Nat.zero_le _) (List.all_eq_true.mp h p hp)⟩]
@[simp] theorem gc_exn_app {st0 l : Store} {c : Str} {d : D} (h : lf d = true) : gcExc st0 ⟨c, [("code", d)]⟩ (st0 ++ l) = .exc ⟨c, [("code", d)]⟩ st0 := by
  rw [gc_exn keepOk_app (by simp [h]), List.take_left']; rfl
@[simp] theorem gc_exn_same {st0 : Store} {c : Str} {d : D} (h : lf d = true) : gcExc st0 ⟨c, [("code", d)]⟩ st0 = .exc ⟨c, [("code", d)]⟩ st0 := by
  have := gc_exn_app (st0 := st0) (l := []) (c := c) h
  rw [List.append_nil] at this
  exact this
theorem wpX_fnD {n : Nat} {s : SM} {ds : List D} {st : Store} {Q : D → Store → Prop} {E : Exn → Store → Prop} : wpX (fnD n s ds st) Q E = wpSX (s (vars n ds) st) ⟨fun _ st' => wpX (gcRet st .non st') Q E, fun d st' => wpX (gcRet st d st') Q E, fun _ _ => False, fun _ _ => False⟩ (fun e _ st' => wpX (gcExc st e st') Q E) := by
  unfold fnD
  cases s (vars n ds) st with
  | exc e vs' st' => rw [wpSX_exc]
  | nx vs' st' => rw [wpSX_nx]
  | ret d st' => rw [wpSX_ret]
  | bad => rw [wpSX_bad]; exact wpX_bad
  | brk vs' st' => rw [wpSX_brk]; exact wpX_bad
  | ct vs' st' => rw [wpSX_ct]; exact wpX_bad
theorem wpX_fnK {n : Nat} {s : SM} {ds : List D} {st : Store} {Q : D → Store → Prop} {E : Exn → Store → Prop} : wpX (fnK n s ds st) Q E = wpSX (s (vars n ds) st) ⟨fun _ st' => Q .non st', fun d st' => Q d st', fun _ _ => False, fun _ _ => False⟩ (fun e _ st' => E e st') := by
  unfold fnK
  cases s (vars n ds) st with
  | exc e vs' st' => rw [wpSX_exc]; exact wpX_exc
  | nx vs' st' => rw [wpSX_nx]; exact wpX_ok
  | ret d st' => rw [wpSX_ret]; exact wpX_ok
  | bad => rw [wpSX_bad]; exact wpX_bad
  | brk vs' st' => rw [wpSX_brk]; exact wpX_bad
  | ct vs' st' => rw [wpSX_ct]; exact wpX_bad
theorem wpX_eq {α : Type} {r : Re α} {e : Exn} {st : Store} (h : wpX r (fun _ _ => False) fun x s => x = e ∧ s = st) : r = .exc e st := by
  cases r with
  | exc x s => obtain ⟨⟨rfl, rfl⟩⟩ := h; rfl
  | ok a s => exact h.of.elim
  | bad => exact h.of.elim
theorem wpSX_onS {bb : Bool} {t f : Rs} {P : Po} {E : Exn → Vars → Store → Prop} : wpSX (onS (.bl bb) t f) P E ↔ (bb = true → wpSX t P E) ∧ (bb = false → wpSX f P E) := by cases bb <;> simp
/-- a try whose clause takes it -/
theorem wpS_try {names : List Str} {x : Str} {i : Nat} {b : SM} {h : Addr → Addr → SM} {vs : Vars} {st : Store} {P : Po}
    (hb : wpSX (b vs st) P fun e vs1 st1 => names.contains e.c = true ∧ catches e.c x = true ∧ ∃ ds r, exD e = some ds ∧ (∀ a dd, dropI i (h a dd (vs1.set i (some (.exn a dd ds))) st1) = r) ∧ wpS r P) : wpS (sTryAs names x i b h vs st) P := by
  unfold sTryAs
  cases hr : b vs st with
  | bad => rw [hr] at hb; exact hb.of.elim
  | exc e vs1 st1 =>
    rw [hr, wpSX_exc] at hb
    obtain ⟨h1, h2, ds, r, h3, h4, h5⟩ := hb
    simp only [h1, h2, h3, if_true]
    rw [unif_of h4]
    exact h5
  | nx _ _ => rw [hr] at hb; exact ⟨hb.of⟩
  | ret _ _ => rw [hr] at hb; exact ⟨hb.of⟩
  | brk _ _ => rw [hr] at hb; exact ⟨hb.of⟩
  | ct _ _ => rw [hr] at hb; exact ⟨hb.of⟩
theorem wpS_tryOn {names : List Str} {x : Str} {b h : SM} {vs : Vars} {st : Store} {P : Po}
    (hb : wpSX (b vs st) P fun e vs1 st1 => names.contains e.c = true ∧ catches e.c x = true ∧ wpS (h vs1 st1) P) : wpS (sTryOn names x b h vs st) P := by
  unfold sTryOn
  cases hr : b vs st with
  | bad => rw [hr] at hb; exact hb.of.elim
  | exc e vs1 st1 =>
    rw [hr, wpSX_exc] at hb
    obtain ⟨h1, h2, h3⟩ := hb
    simp only [h1, h2, if_true]
    cases hh : h vs1 st1 with
    | exc _ _ _ => rw [hh] at h3; exact h3.of.elim
    | bad => rw [hh] at h3; exact h3
    | nx _ _ => rw [hh] at h3; exact h3
    | ret _ _ => rw [hh] at h3; exact h3
    | brk _ _ => rw [hh] at h3; exact h3
    | ct _ _ => rw [hh] at h3; exact h3
  | nx _ _ => rw [hr] at hb; exact ⟨hb.of⟩
  | ret _ _ => rw [hr] at hb; exact ⟨hb.of⟩
  | brk _ _ => rw [hr] at hb; exact ⟨hb.of⟩
  | ct _ _ => rw [hr] at hb; exact ⟨hb.of⟩
@[simp] theorem dropI_nx {i : Nat} {vs : Vars} {st : Store} : dropI i (.nx vs st) = .nx (vs.set i none) st := rfl
@[simp] theorem dropI_ret {i : Nat} {d : D} {st : Store} : dropI i (.ret d st) = .ret d st := rfl
@[simp] theorem exD_one {c : Str} {d : D} : exD ⟨c, [("code", d)]⟩ = some [d] := rfl
@[simp] theorem eExn_eq {i : Nat} {a dd : Addr} {vs : Vars} {st : Store} : eExn i a dd vs st = match getV vs i with
  | some (.exn a' dd' (d :: ds)) => if a' = a ∧ dd' = dd then .ok d st else .bad
  | _ => .bad := rfl
theorem forGo_wpX {g : TM} {b : SM} {fg : List Nat} {gd : Store → Prop} {P : Po} {E : Exn → Vars → Store → Prop} (Inv : List D → Vars → Store → Prop)
    (hg : ∀ r vs st, Inv r vs st → gd st)
    (step : ∀ d r vs st, Inv (d :: r) vs st → ∃ vs1, g d vs = some vs1 ∧ wpSX (b vs1 st) ⟨fun vs2 st2 => Inv r (drp fg vs2) st2, P.r, fun vs2 st2 => P.n (drp fg vs2) st2, fun vs2 st2 => Inv r (drp fg vs2) st2⟩ E)
    (fin : ∀ vs st, Inv [] vs st → P.n vs st) : ∀ (ds : List D) (vs : Vars) (st : Store), Inv ds vs st → wpSX (forGo g b fg gd ds vs st) P E
  | [], vs, st, h => by
    unfold forGo
    rw [if_pos (hg _ _ _ h)]
    exact ⟨fin _ _ h⟩
  | d :: ds, vs, st, h => by
    unfold forGo
    rw [if_pos (hg _ _ _ h)]
    obtain ⟨vs1, e, w⟩ := step d ds vs st h
    rw [e]
    simp only
    cases hb : b vs1 st with
    | nx vs2 st2 => rw [hb] at w; exact forGo_wpX Inv hg step fin ds _ _ w.of
    | ct vs2 st2 => rw [hb] at w; exact forGo_wpX Inv hg step fin ds _ _ w.of
    | brk vs2 st2 => rw [hb] at w; exact ⟨w.of⟩
    | ret d2 st2 => rw [hb] at w; exact ⟨w.of⟩
    | bad => rw [hb] at w; exact w.of.elim
    | exc e vs2 st2 => rw [hb] at w; exact ⟨w.of⟩
theorem sFor_wpX {im : IM} {g : TM} {b : SM} {fg : List Nat} {vs : Vars} {st : Store} {P : Po} {E : Exn → Vars → Store → Prop} :
    wpSX (sFor im g b fg vs st) P E = wpX (im vs st) (fun it st => wpSX (forGo g b fg (grd it) it.1 (drp fg vs) st) P E) (fun e st => E e vs st) := by
  unfold sFor
  exact wpSX_thn
/-- a loop step by step -/
theorem forGo_nil {g : TM} {b : SM} {fg : List Nat} {gd : Store → Prop} {vs : Vars} {st : Store} (h : gd st) : forGo g b fg gd [] vs st = .nx vs st := by
  unfold forGo
  rw [if_pos h]
theorem forGo_cons {g : TM} {b : SM} {fg : List Nat} {gd : Store → Prop} {d : D} {ds : List D} {vs vs1 : Vars} {st : Store} {P : Po} {E : Exn → Vars → Store → Prop} (h : gd st) (hg : g d vs = some vs1)
    (hb : wpSX (b vs1 st) ⟨fun vs2 st2 => wpSX (forGo g b fg gd ds (drp fg vs2) st2) P E, P.r, fun vs2 st2 => P.n (drp fg vs2) st2, fun vs2 st2 => wpSX (forGo g b fg gd ds (drp fg vs2) st2) P E⟩ E) : wpSX (forGo g b fg gd (d :: ds) vs st) P E := by
  rw [forGo, if_pos h, hg]
  simp only
  cases hb1 : b vs1 st with
  | nx vs2 st2 => rw [hb1] at hb; exact hb.of
  | ct vs2 st2 => rw [hb1] at hb; exact hb.of
  | brk vs2 st2 => rw [hb1] at hb; exact ⟨hb.of⟩
  | ret d2 st2 => rw [hb1] at hb; exact ⟨hb.of⟩
  | bad => rw [hb1] at hb; exact hb.of.elim
  | exc e vs2 st2 => rw [hb1] at hb; exact ⟨hb.of⟩
end Dn
/-! Own errors: what the written part says of them. -/
namespace Dn
open PySem PySem.Spec PyProof.Rows L2 PySem.W PySem.HandSPX
def ErrT (P : Program) (K : PySem.W.Frag) (mg : Str → Option Value) (nm : Str) : Prop := ∃ C D fI, ErrTxt P K mg nm C D fI
/-- c's exceptions before a clause that names x -/
def ExmT (K : PySem.W.Frag) (mg : Str → Option Value) (c x : Str) : Prop := ∃ C Cx, mg c = some (.ref C) ∧ mg x = some (.ref Cx) ∧ ErrFld K C ∧ PySem.W.exmOne K (.ref C) (.ref Cx) = some (catches c x)
theorem errs_nil {X : Cx} {x : Str} {cv : Value} : ErrsOk X [] x cv := fun _ h => nomatch h
theorem errs_cons {X : Cx} {c x : Str} {l : List Str} {cv : Value} (hx : X.mg x = some cv) (h : ExmT X.K X.mg c x) (r : ErrsOk X l x cv) : ErrsOk X (c :: l) x cv := fun c' h' => by
  rcases List.mem_cons.mp h' with rfl | h'
  · obtain ⟨C, Cx, h1, h2, h3, h4⟩ := h
    rw [hx] at h2
    cases h2
    exact ⟨C, h1, h3, h4⟩
  · exact r c' h'
/-- all of a list of names before a clause -/
def ExmsT (K : PySem.W.Frag) (mg : Str → Option Value) (l : List Str) (x : Str) : Prop := (∃ Cx, mg x = some (.ref Cx)) ∧ ∀ c ∈ l, ExmT K mg c x
theorem ExmsT.ok {X : Cx} {l : List Str} {x : Str} (h : ExmsT X.K X.mg l x) : ∃ cv, X.mg x = some cv ∧ ErrsOk X l x cv := by
  obtain ⟨⟨Cx, hx⟩, h⟩ := h
  refine ⟨_, hx, ?_⟩
  induction l with
  | nil => exact errs_nil
  | cons c l ih => exact errs_cons hx (h c List.mem_cons_self) (ih fun c' h' => h c' (List.mem_cons_of_mem _ h'))
section
variable {X : Cx} {W : WX} {x n : Str} {i : Nat} {body suite : List Stmt} {b₀ : Stmt} {np pos pos' pos2 p : Pos} {mb : SM} {names : List Str} {nm : Str} {a : Expr} {m : EM} {k : Nat}
theorem st_raiseE (hc : X.calm = true) (T : ErrT X.prog X.K X.mg nm) (hr : Room (k + 1) X.A) (tk : Takes X W) (ha : ME X W a m) (hg : Gl X nm := by rfl) (hdb : (nm == ("__debug__" : Str)) = false := by decide)
    (he : starEach (a :: []) X.env = (false, eval a X.env) :: starEach [] X.env := by rfl) (hpl : (backTo pos (starEach [] X.env)).any (·.1) = false := by rfl) :
    MS X W (.Raise (some (.Call (.Name nm p) [a] [] pos)) none pos2) (sRaise nm m) := by
  obtain ⟨C, D, fI, T⟩ := T
  exact st_raise hc T hr tk ha hg hdb he hpl
theorem st_try_asE {hm : Addr → Addr → SM} (hs : X.stack = X.env :: X.outer) (hf : X.env.frame = some X.env.locals) (hN : X.N.Nodup) (hi : X.N[i]? = some n) (hln : X.env.kindOf n = some .local) (T : ExmsT X.K X.mg names x) (tk : Takes X W)
    (hb : ∀ (W : WX) (pn : List (Addr × Obj)) (xe : Value → Shared → Prop), Takes (X.tr pn xe) W → PassesOwn (model X.prog X.w) X.A X.env xe → MSs (X.tr pn xe) W body mb)
    (hsu : ∀ (a : Addr) (oe : Obj) (C dd : Addr) (pn : List (Addr × Obj)), ErrFld X.K C → Zc (.ref C) (some dd) oe → (∃ vs, oe.data = .fields vs) → MSs (X.suite a ((a, oe) :: pn)) (fun _ _ _ _ => False) (b₀ :: suite) (hm a dd))
    (hg : Gl X x := by rfl) (hdb : (x == ("__debug__" : Str)) = false := by decide) :
    MS X W (.Try body [.ExceptHandler (some (.Name x np)) (some n) (b₀ :: suite) pos'] [] [] pos) (sTryAs names x i mb hm) := by
  obtain ⟨cv, hx, he⟩ := T.ok
  exact st_try_as hs hf hN hi hln ⟨hg, hdb, .inl hx⟩ tk he hb hsu
theorem st_try_onE {hm : SM} (hs : X.stack = X.env :: X.outer) (hf : X.env.frame = some X.env.locals) (T : ExmsT X.K X.mg names x) (tk : Takes X W)
    (hb : ∀ (W : WX) (pn : List (Addr × Obj)) (xe : Value → Shared → Prop), Takes (X.tr pn xe) W → PassesOwn (model X.prog X.w) X.A X.env xe → MSs (X.tr pn xe) W body mb)
    (hsu : ∀ (a : Addr) (oe : Obj) (pn : List (Addr × Obj)), MSs (X.suite a ((a, oe) :: pn)) (fun _ _ _ _ => False) (b₀ :: suite) hm)
    (hg : Gl X x := by rfl) (hdb : (x == ("__debug__" : Str)) = false := by decide) :
    MS X W (.Try body [.ExceptHandler (some (.Name x np)) none (b₀ :: suite) pos'] [] [] pos) (sTryOn names x mb hm) := by
  obtain ⟨cv, hx, he⟩ := T.ok
  exact st_try_on hs hf ⟨hg, hdb, .inl hx⟩ tk he hb hsu
end
theorem along_ve (K : Frag) : alongIn K "__init__" veTail = some (some (.builtin "ValueError.__init__")) := by kernel_rfl
theorem err_mk {P : Program} {K : Frag} {h : Heap} {mg : Str → Option Value} {nm n q : Str} {C D fI N : Addr} {bs : List Value} {sn : List Str} {sub : List Value} {ab : Bool} {col : Option Bool} {dd : Option Addr} {m0 m1 m2 m3 m5 : Option Value}
    {oc : Value} {od : Option Addr} {doc pm : Value} {an : Option Addr} {cda cc : Addr} {ct : Value} {osl : Array (Option Value)} {p1 p2 a1 a2 a3 a4 a5 a6 q1 q2 q3 q4 : Pos} {ccl : Value} {cdd : Option Addr} {vs : Array Value} {ccs : Array (Option Value)} {file : Str} {tf : Tok} {cl : Value} {cld : Option Addr} {csl : Array (Option Value)} {cdD : ClassData}
    (X : K.In h) (G : h.Ns mainGlobals mg)
    (aC : nsIn K mainGlobals nm = some (some (.ref C)))
    (xC : K.lookup C = some (excClassObj n q C N bs (.ref D :: veTail) true sn sub ab col dd m0 m1 m2 m3 m5 "ValueError.__new__"))
    (sa : findIn K (.ref C) "__setattr__" = some (some (.builtin "object.__setattr__"))) (ga : findIn K (.ref C) "__getattribute__" = some (some (.builtin "BaseException.__getattribute__"))) (gg : findIn K (.ref C) "__getattr__" = some none) (nb : findIn K (.ref C) "code" = some none)
    (iC : findIn K (.ref C) "__init__" = some (some (.ref fI))) (tI : typeIn K (.ref fI) = some (.type "function"))
    (lI : K.lookup fI = some ⟨oc, od, .func (ksFn "__init__" "CallError.__init__" (erA p1 p2) (erB a1 a2 a3 a4 a5 a6 q1 q2 q3 q4) erS .none .none doc pm an (.ref cda) ct cc), osl⟩) (cI : codeIn K (.ref cda) "CallError.__init__" = true)
    (lc : K.lookup cda = some ⟨ccl, cdd, .fields vs, ccs⟩) (lcc : K.lookup cc = some ⟨cl, cld, .cell (some (.ref D)), csl⟩)
    (kC : keepIn K (.ref C) = true) (eC : subIn K (.ref C) (.type "BaseException") = some true) (vC : subIn K (.ref C) (.type "ValueError") = some true) (tC : typeIn K (.ref C) = some (.type "type")) (hC : hasDictIn K C = true)
    (clD : clsIn K D = some cdD) (sbD : mroIn K C (.ref D) = some true) (zs : nsIn K mainGlobals "super" = some none) (zy : nsIn K cStatics "thirdparty.any" = some none)
    (hne : (Value.ref C != Value.ref D) = true) (hv : vs[2]? = some (.str file tf)) (hfile : ((P.main.file : Str) == file) = true) (hline : (a3.endLine == a5.line) = true) (htop : (P.main.scope.names.lookup ("super" : Str)).isSome = false) :
    ErrTxt P K mg nm C D fI :=
  { gC := mg_of X G aC, cls := ⟨n, q, N, bs, _, sn, sub, ab, col, dd, m0, m1, m2, m3, m5, xC, by show refsVE veTail = true; decide +kernel⟩, sa := sa, ga := ga, gg := gg, noN := nb, iC := iC, tC := tI, kC := kC, exC := eC, veC := vC, tyC := tC, hdC := hC,
    exI := by
      unfold excInitIn
      rw [xC]
      have e : excTail veTail (Value.ref D :: veTail) = true := by
        show excTail veTail veTail = true
        decide +kernel
      simp [excClassObj, e],
    sup := by
      have hcl : (clsIn K C).map (·.mro) = some (.ref C :: .ref D :: veTail) := by unfold clsIn; rw [xC] <;> rfl
      unfold ks_superIn
      cases hc : clsIn K C with
      | none => rw [hc] at hcl; cases hcl
      | some cd =>
        rw [hc] at hcl
        have e : cd.mro = .ref C :: .ref D :: veTail := Option.some.inj hcl
        show alongIn K "__init__" ((cd.mro.dropWhile (· != .ref D)).drop 1) = _
        rw [e, List.dropWhile_cons, if_pos hne, List.dropWhile_cons, if_neg (by simp)]
        exact along_ve K,
    clD := ⟨cdD, clD⟩, sbD := sbD, noS := mg_none_of X G zs, noY := zy, top := htop,
    fn := ⟨_, _, _, _, _, _, _, _, _, _, _, _, _, _, _, _, _, _, _, _, _, _, _, _, _, _, _, _, _, _, hline, lI, cI, lc, hv, hfile, lcc⟩ }
theorem exm_of {K : Frag} {C S : Addr} {b : Bool} (h1 : subIn K (.ref S) (.type "BaseException") = some true) (h2 : isClsIn K S = true) (h3 : typeIn K (.ref S) = some (.type "type")) (h4 : subIn K (.ref C) (.ref S) = some b) : exmOne K (.ref C) (.ref S) = some b := by
  have e1 : (subIn K (.ref S) (.type "BaseException") == some true) = true := by rw [h1] <;> rfl
  have e2 : ((clsIn K S).isSome && typeIn K (.ref S) == some (.type "type")) = true := by
    have h2' : (clsIn K S).isSome = true := h2
    rw [h2', h3] <;> rfl
  show (if (subIn K (.ref S) (.type "BaseException") == some true) = true then (if ((clsIn K S).isSome && typeIn K (.ref S) == some (.type "type")) = true then subIn K (.ref C) (.ref S) else none) else none) = some b
  rw [if_pos e1, if_pos e2]
  exact h4
theorem exm_mk {P : Program} {K : Frag} {mg : Str → Option Value} {c x : Str} {C D fI S : Addr} {b : Bool} (T : ErrTxt P K mg c C D fI) (hx : mg x = some (.ref S)) (h1 : subIn K (.ref S) (.type "BaseException") = some true) (h2 : isClsIn K S = true) (h3 : typeIn K (.ref S) = some (.type "type")) (h4 : subIn K (.ref C) (.ref S) = some b)
    (hb : catches c x = b := by decide +kernel) : ExmT K mg c x := ⟨C, S, T.gC, hx, T.fld, by rw [hb]; exact exm_of h1 h2 h3 h4⟩
end Dn
/-! Instances of own classes: fields, methods, new ones. -/
namespace Dn
open PySem PySem.Spec PyProof.Rows L2
/-- classes and the names of their fields -/
abbrev Flds := List (Str × List Str)
def FldsT (K : PySem.W.Frag) (mg : Str → Option Value) (tab : Flds) : Prop := ∀ p ∈ tab, ∃ C, mg p.1 = some (.ref C) ∧ Cls K C ∧ ∀ f ∈ p.2, NoAttr K C f
def hasF (tab : Flds) (c f : Str) : Bool := tab.any fun p => p.1 == c && p.2.contains f
theorem FldsT.get {K : PySem.W.Frag} {mg : Str → Option Value} {tab : Flds} (h : FldsT K mg tab) {c f : Str} {C : Addr} (hC : mg c = some (.ref C)) (hf : hasF tab c f = true) : Cls K C ∧ NoAttr K C f := by
  unfold hasF at hf
  obtain ⟨p, hp, hq⟩ := List.any_eq_true.mp hf
  rw [Bool.and_eq_true] at hq
  obtain ⟨C', h1, h2, h3⟩ := h p hp
  have e : p.1 = c := by simpa using hq.1
  rw [e, hC] at h1
  cases h1
  exact ⟨h2, h3 f (by simpa using hq.2)⟩
def insAt (st : Store) (x : D) : Option (Str × List (Str × D)) := match x with
  | .loc n => match cell st n with
    | some (.ins c fs) => some (c, fs)
    | _ => none
  | _ => none
theorem insAt_is {st : Store} {x : D} {c : Str} {fs : List (Str × D)} (h : insAt st x = some (c, fs)) : ∃ n, x = .loc n ∧ cell st n = some (.ins c fs) := by
  cases x with
  | loc n =>
    refine ⟨n, rfl, ?_⟩
    unfold insAt at h
    simp only at h
    split at h
    · rename_i h1
      cases h
      exact h1
    · cases h
  | _ => cases h
def fldD (tab : Flds) (f : Str) (x : D) (st : Store) : Re D := match insAt st x with
  | some (c, fs) => if hasF tab c f = true then (match fs.lookup f with
    | some d => .ok d st
    | none => .bad) else .bad
  | none => .bad
def putD (f : Str) (d : D) : List (Str × D) → List (Str × D)
  | [] => [(f, d)]
  | (g, x) :: r => if g = f then (g, d) :: r else (g, x) :: putD f d r
def putI (tab : Flds) (f : Str) (d x : D) (st : Store) : Option Store := match x with
  | .loc n => match cell st n with
    | some (.ins c fs) => if hasF tab c f = true ∧ fs.length < 900 then some (st.set n (some (.ins c (putD f d fs)))) else none
    | _ => none
  | _ => none
def sFldM (tab : Flds) (f : Str) (mo mv : EM) : SM := fun vs st => (mv vs st).thn vs fun d st => (mo vs st).thn vs fun x st => match putI tab f d x st with
  | some st => .nx vs st
  | none => .bad
def sFldA (tab : Flds) (f : Str) (op : D → D → Store → Re D) (mo mv : EM) : SM := fun vs st => (mo vs st).thn vs fun x st0 => (fldD tab f x st0).thn vs fun v st => (mv vs st).thn vs fun y st => (op v y st).thn vs fun z st' => if (insAt st' x).map (·.1) = (insAt st0 x).map (·.1) then (match putI tab f z x st' with
  | some st => .nx vs st
  | none => .bad) else .bad
def insOk (c m : Str) (x : D) (st : Store) : Bool := match insAt st x with
  | some (c', fs) => c' == c && (fs.lookup m).isNone
  | none => false
def eMeth (c m : Str) (md : FnD) (mo : EM) (ms : EMs) : EM := fun vs st => (mo vs st).bind fun x st => if insOk c m x st = true then (ms vs st).bind fun ds st => md (x :: ds) st else .bad
def eMake (c : Str) (md : FnD) (ms : EMs) : EM := fun vs st => (ms vs st).bind fun ds st => match md (.loc st.length :: ds) (st ++ [some (.ins c [])]) with
  | .ok .non st' => .ok (.loc st.length) st'
  | _ => .bad
section
variable {K : PySem.W.Frag} {mg : Str → Option Value} {μ : List Addr} {G : Hp}
theorem repF_get : ∀ {fs : List (Str × D)} {gs : List (Str × V)} {f : Str} {d : D}, RepF K μ G fs gs → fs.lookup f = some d → ∃ v, gs.lookup f = some v ∧ Rep K μ G d v
  | [], _, _, _, _, e => by cases e
  | (g, x) :: r, gs, f, d, h, e => by
    obtain ⟨v, s, rfl, hv, hr⟩ := h
    rw [List.lookup_cons] at e ⊢
    split at e
    · cases e; exact ⟨v, rfl, hv⟩
    · exact repF_get hr e
theorem repF_none : ∀ {fs : List (Str × D)} {gs : List (Str × V)} {f : Str}, RepF K μ G fs gs → fs.lookup f = none → gs.lookup f = none
  | [], _, _, h, e => by
    have h' : _ = [] := h
    subst h'
    rfl
  | (g, x) :: r, gs, f, h, e => by
    obtain ⟨v, s, rfl, hv, hr⟩ := h
    rw [List.lookup_cons] at e ⊢
    split at e
    · cases e
    · exact repF_none hr e
theorem repF_len : ∀ {fs : List (Str × D)} {gs : List (Str × V)}, RepF K μ G fs gs → gs.length = fs.length
  | [], _, h => by
    have h' : _ = [] := h
    subst h'
    rfl
  | (g, x) :: r, gs, h => by
    obtain ⟨v, s, rfl, hv, hr⟩ := h
    rw [List.length_cons, List.length_cons, repF_len hr]
theorem repF_put {f : Str} {d : D} {v : V} (hd : Rep K μ G d v) : ∀ {fs : List (Str × D)} {gs : List (Str × V)}, RepF K μ G fs gs → RepF K μ G (putD f d fs) (putF f v gs)
  | [], _, h => by
    have h' : _ = [] := h
    subst h'
    exact ⟨v, [], rfl, hd, rfl⟩
  | (g, x) :: r, gs, h => by
    obtain ⟨w, s, rfl, hv, hr⟩ := h
    by_cases e : g = f
    · simp only [putD, putF, if_pos e]
      exact ⟨v, s, rfl, hd, hr⟩
    · simp only [putD, putF, if_neg e]
      exact ⟨w, _, rfl, hv, repF_put hd hr⟩
end
section
variable {X : Cx} {W : WX} {o e : Expr} {es : List Expr} {mo mv : EM} {ms : EMs} {f : Str} {tab : Flds} {pos pos' p apos : Pos}
theorem m_fld (hT : FldsT X.K X.mg tab) (ho : ME X W o mo) (hb : attributeBase o f X.env (eval o X.env) = eval o X.env := by rfl) : ME X W (.Attribute o f pos) (e1 (fldD tab f) mo) := (pe_fld ho hb).of fun σ H Q h => by
  obtain ⟨vs, st, μ, G, F, re, k, h⟩ := h
  refine ⟨vs, st, μ, G, F, re, k, (Done.bind h).mono fun μ1 G1 x st1 H1 f1 k1 h1 v rv => ?_⟩
  unfold fldD at h1
  split at h1
  · rename_i c fs e
    obtain ⟨n, rfl, hc⟩ := insAt_is e
    split at h1
    · rename_i hf
      split at h1
      · rename_i d hd
        obtain ⟨a, rfl, ha⟩ := rep_loc rv
        obtain ⟨a', ob, h1', h2, h3, h4, C, dx, gs, rfl, hC, hr⟩ := k1.cell n _ (cell_some hc)
        rw [ha] at h1'
        cases h1'
        obtain ⟨hc1, hn⟩ := hT.get hC hf
        obtain ⟨w, hw, rw1⟩ := repF_get hr hd
        exact ⟨a, C, dx, gs, w, rfl, h4, hc1, hn, hw, fin_here k1 h1 rw1⟩
      · exact h1.elim
    · exact h1.elim
  · exact h1.elim
theorem put_kn {K : PySem.W.Frag} {mg : Str → Option Value} {μ : List Addr} {G F H : Hp} {st st' : Store} {d x : D} {v w : V} (hT : FldsT K mg tab) (k : Kn K mg μ G F st H) (rx : Rep K μ G x v) (rd : Rep K μ G d w) (h : putI tab f d x st = some st') :
    ∃ a C dx gs, v = .ref a ∧ H a = some (.ins C dx gs) ∧ Cls K C ∧ NoAttr K C f ∧ gs.length < 900 ∧ Kn K mg μ G F st' (upd H a (.ins C dx (putF f w gs))) ∧ ∃ c fs, insAt st x = some (c, fs) ∧ mg c = some (.ref C) := by
  cases x with
  | loc n =>
    unfold putI at h
    simp only at h
    split at h
    · rename_i c fs hc
      split at h
      · rename_i hh
        cases h
        obtain ⟨a, rfl, ha⟩ := rep_loc rx
        obtain ⟨a', ob, h1', h2, h3, h4, C, dx, gs, rfl, hC, hr⟩ := k.cell n _ (cell_some hc)
        rw [ha] at h1'
        cases h1'
        obtain ⟨hc1, hn⟩ := hT.get hC hh.1
        refine ⟨a, C, dx, gs, rfl, h4, hc1, hn, by rw [repF_len hr]; exact hh.2, k.write (cell_some hc) ha ⟨C, dx, _, rfl, hC, repF_put rd hr⟩, c, fs, ?_, hC⟩
        unfold insAt
        simp only [hc]
      · cases h
    · cases h
  | _ => cases h
theorem st_fld (hT : FldsT X.K X.mg tab) (ho : ME X W o mo) (hv : ME X W e mv) (hs : swapsWith e (some (.Attribute o f pos')) pos.line X.env = pure false := by rfl) : MS X W (.Assign [.Attribute o f pos'] e pos) (sFldM tab f mo mv) := (ps_fld ho hv hs).of fun E σ H h => by
  obtain ⟨vs, st, μ, G, F, re, k, h⟩ := h
  refine ⟨vs, st, μ, G, F, re, k, (DoneS.thn re h).mono fun μ1 G1 y st1 H1 f1 k1 h1 v rv => ?_⟩
  have re1 := re.fut f1
  refine ⟨vs, st1, μ1, G1, F, re1, k1, (DoneS.thn re1 h1).mono fun μ2 G2 x st2 H2 f2 k2 h2 u ru => ?_⟩
  split at h2
  · rename_i st3 hp
    obtain ⟨a, C, dx, gs, rfl, hH, hc, hn, hl, k3, _⟩ := put_kn hT k2 ru (rv.fut f2) hp
    refine ⟨a, C, dx, gs, rfl, hH, hc, hn, by omega, ?_⟩
    exact h2 μ2 G2 _ σ (.refl μ2 G2) k3 (re1.fut f2)
  · exact h2.elim
theorem st_flda {op : Operator} {r : R2} {g : D → D → Store → Re D} (hT : FldsT X.K X.mg tab) (hop : OpR X (inplaceOp op) r) (hsf : S2 X.K X.mg g r) (ho : ME X W o mo) (hv : ME X W e mv) : MS X W (.AugAssign (.Attribute o f pos') op e pos) (sFldA tab f g mo mv) :=
  (ps_fldaug (rd := r) ho hv (fun pins s σ H x y u v Q I rx ry h => hop pins s σ H x y u v Q I rx ry h)).of fun E σ H h => by
  obtain ⟨vs, st, μ, G, F, re, k, h⟩ := h
  refine ⟨vs, st, μ, G, F, re, k, (DoneS.thn re h).mono fun μ1 G1 x st1 H1 f1 k1 h1 v rv => ?_⟩
  have re1 := re.fut f1
  unfold fldD at h1
  split at h1
  · rename_i c fs e
    obtain ⟨n, rfl, hc⟩ := insAt_is e
    split at h1
    · rename_i hf
      split at h1
      · rename_i d hd
        obtain ⟨a, rfl, ha⟩ := rep_loc rv
        obtain ⟨a', ob, h1', h2, h3, h4, C, dx, gs, rfl, hC, hr⟩ := k1.cell n _ (cell_some hc)
        rw [ha] at h1'
        cases h1'
        obtain ⟨hc1, hn⟩ := hT.get hC hf
        obtain ⟨w, hw, rw1⟩ := repF_get hr hd
        refine ⟨a, C, dx, gs, w, rfl, h4, hc1, hn, hw, ?_⟩
        have h1 : DoneS X.K X.mg W μ1 G1 F ((mv vs st1).thn vs fun y st => (g d y st).thn vs fun z st' => if (insAt st' (.loc n)).map (·.1) = (insAt st1 (.loc n)).map (·.1) then (match putI tab f z (.loc n) st' with
          | some st => .nx vs st
          | none => .bad) else .bad) E := h1
        refine ⟨vs, st1, μ1, G1, F, re1, k1, (DoneS.thn re1 h1).mono fun μ2 G2 y st2 H2 f2 k2 h2 u ru => ?_⟩
        have re2 := re1.fut f2
        refine hsf W σ μ2 G2 F st2 H2 d y w u _ k2 (rw1.fut f2) ru ((DoneS.thn re2 h2).mono fun μ3 G3 z st3 H3 f3 k3 h3 zz rz => ?_)
        by_cases hsame : (insAt st3 (.loc n)).map (·.1) = (insAt st1 (.loc n)).map (·.1)
        · rw [if_pos hsame] at h3
          split at h3
          · rename_i st4 hp
            obtain ⟨a2, C2, dx2, gs2, e2, hH, hc2, hn2, hl2, k4, c2, fs2, hi2, hm2⟩ := put_kn hT k3 (((rv).fut f2).fut f3) rz hp
            cases e2
            rw [hi2, e] at hsame
            have hcc : c2 = c := Option.some.inj hsame
            rw [hcc, hC] at hm2
            cases hm2
            refine ⟨dx2, gs2, hH, by omega, ?_⟩
            exact h3 μ3 G3 _ σ (.refl μ3 G3) k4 (re2.fut f3)
          · exact h3.elim
        · rw [if_neg hsame] at h3; exact h3.elim
      · exact h1.elim
    · exact h1.elim
  · exact h1.elim
/-- o.m(..), what leaves it goes on -/
theorem pe_methSD {CX : CXT} {k : Nat} {C g : Addr} {fd : FuncData} {ps : List Str} {sp : Sp} {E : L2.St → XK} {m : Str} {pl : Sem Bool} {ta : TE} {t : TA} (he : PE X o ta) (c : Cls X.K C) (hm : Meth X.K C m g) (F : FnOk X.prog X.w X.K X.mg X.base CX k g fd ps sp) (hr : Room k X.A) (hb : Binds X.K fd ps [])
    (hx : ∀ σ, PassesAt CX X σ (E σ)) (ha : PA X (e :: es) t)
    (hst : starEach (e :: es) X.env = (false, eval e X.env) :: starEach es X.env := by rfl) (hpl : (backTo pos (starEach es X.env)).any (·.1) = false := by rfl)
    (ht : eval (.Call (.Attribute o m apos) (e :: es) [] pos) X.env = (do
      let ov ← eval o X.env
      standAt apos.atName
      let (f, first) ← holding [ov] (getMethod ov m pl)
      callWith pos f first (backTo pos (starEach (e :: es) X.env)) (backToKw pos (keywordEach [] X.env))) := by rfl) :
    PE X (.Call (.Attribute o m apos) (e :: es) [] pos) (fun σ H Q => ta σ H fun x H1 => ∃ a dx fs, x = .ref a ∧ H1 a = some (.ins C dx fs) ∧ fs.lookup m = none ∧ t σ H1 fun vs H2 => sp (x :: vs) H2 Q (E σ)) := by
  refine ⟨fun pins s σ H Q I h => ?_⟩
  refine PySem.W.methodCall_KW (pl := pl) (thn (he.run pins s σ H _ I h) fun u s1 ⟨x, H1, I1, rx, a, dx, fs, ex, ea, l, q⟩ => ?_) ht
  subst ex
  obtain rfl : u = Value.ref a := rx
  refine getmeth_ok I1 ea c hm l ?_
  refine PySem.W.callWith_K (first := [.ref a]) (h₀ := X.base) I.ok.mod.kin hm.kp (thn (ha.run pos pins s1 σ H1 _ I1 q) fun us s2 ⟨vs, H2, I2, r, q2⟩ => ⟨I2.kIn, ?_⟩) hst hpl
  exact run_fnSD (us := .ref a :: us) (vs := .ref a :: vs) F hr hb .nil (hx σ) I2 (.cons rfl r) (by rw [List.append_nil]; exact q2)
theorem pe_methSD0 {CX : CXT} {k : Nat} {C g : Addr} {fd : FuncData} {ps : List Str} {sp : Sp} {E : L2.St → XK} {m : Str} {pl : Sem Bool} {ta : TE} (he : PE X o ta) (c : Cls X.K C) (hm : Meth X.K C m g) (F : FnOk X.prog X.w X.K X.mg X.base CX k g fd ps sp) (hr : Room k X.A) (hb : Binds X.K fd ps [])
    (hx : ∀ σ, PassesAt CX X σ (E σ))
    (ht : eval (.Call (.Attribute o m apos) [] [] pos) X.env = (do
      let ov ← eval o X.env
      standAt apos.atName
      let (f, first) ← holding [ov] (getMethod ov m pl)
      callWith pos f first (backTo pos (starEach [] X.env)) (backToKw pos (keywordEach [] X.env))) := by rfl) :
    PE X (.Call (.Attribute o m apos) [] [] pos) (fun σ H Q => ta σ H fun x H1 => ∃ a dx fs, x = .ref a ∧ H1 a = some (.ins C dx fs) ∧ fs.lookup m = none ∧ sp [x] H1 Q (E σ)) := by
  refine ⟨fun pins s σ H Q I h => ?_⟩
  refine PySem.W.methodCall_KW (pl := pl) (thn (he.run pins s σ H _ I h) fun u s1 ⟨x, H1, I1, rx, a, dx, fs, ex, ea, l, q⟩ => ?_) ht
  subst ex
  obtain rfl : u = Value.ref a := rx
  refine getmeth_ok I1 ea c hm l ?_
  refine PySem.W.callWith_K0 I1.kIn hm.kp ?_
  exact run_fnSD (us := [.ref a]) (vs := [.ref a]) F hr hb .nil (hx σ) I1 (.cons rfl .nil) (by rw [List.append_nil]; exact q)
/-- the method m of the class named c -/
def CalM (P : Program) (w : World) (K : PySem.W.Frag) (mg : Str → Option Value) (base : Heap) (c m : Str) (k : Nat) (ps : List Str) (md : FnD) : Prop :=
  ∃ C fa fd, FnM P w K mg base k fa fd ps md ∧ mg c = some (.ref C) ∧ Cls K C ∧ Meth K C m fa ∧ Binds K fd ps []
def CalI (P : Program) (w : World) (K : PySem.W.Frag) (mg : Str → Option Value) (base : Heap) (c : Str) (k : Nat) (ps : List Str) (md : FnD) : Prop :=
  ∃ C fa fd, FnM P w K mg base k fa fd ps md ∧ mg c = some (.ref C) ∧ Mk K C fa ∧ Binds K fd ps []
theorem insOk_rep {K : PySem.W.Frag} {mg : Str → Option Value} {μ : List Addr} {G F H : Hp} {st : Store} {x : D} {v : V} {c m : Str} {C : Addr} (k : Kn K mg μ G F st H) (rx : Rep K μ G x v) (hC : mg c = some (.ref C)) (h : insOk c m x st = true) :
    ∃ a dx gs, v = .ref a ∧ H a = some (.ins C dx gs) ∧ gs.lookup m = none := by
  unfold insOk at h
  split at h
  · rename_i c' fs e
    obtain ⟨n, rfl, hc⟩ := insAt_is e
    rw [Bool.and_eq_true] at h
    have e1 : c' = c := by simpa using h.1
    have e2 : fs.lookup m = none := by simpa using h.2
    obtain ⟨a, rfl, ha⟩ := rep_loc rx
    obtain ⟨a', ob, h1', h2, h3, h4, C', dx, gs, rfl, hC', hr⟩ := k.cell n _ (cell_some hc)
    rw [ha] at h1'
    cases h1'
    rw [e1, hC] at hC'
    cases hC'
    exact ⟨a, dx, gs, rfl, h4, repF_none hr e2⟩
  · cases h
variable {k : Nat} {c m x : Str} {ps : List Str} {md : FnD} {a : Expr}
theorem m_mcal (Ck : CalM X.prog X.w X.K X.mg X.base c m k ps md) (hr : Room k X.A) (tk : Takes X W) (ho : ME X W o mo) (ha : MA X W (e :: es) ms) {pl : Sem Bool} (hms : ALen ms (ps.length - 1) := by repeat constructor) (hps : 1 ≤ ps.length := by decide)
    (hst : starEach (e :: es) X.env = (false, eval e X.env) :: starEach es X.env := by rfl) (hpl : (backTo pos (starEach es X.env)).any (·.1) = false := by rfl)
    (ht : eval (.Call (.Attribute o m apos) (e :: es) [] pos) X.env = (do
      let ov ← eval o X.env
      standAt apos.atName
      let (f, first) ← holding [ov] (getMethod ov m pl)
      callWith pos f first (backTo pos (starEach (e :: es) X.env)) (backToKw pos (keywordEach [] X.env))) := by rfl) : ME X W (.Call (.Attribute o m apos) (e :: es) [] pos) (eMeth c m md mo ms) := by
  obtain ⟨C, fa, fd, Fk, hC, hcl, hm, hb⟩ := Ck
  refine (pe_methSD (pl := pl) ho hcl hm Fk hr hb (fun σ => passAt tk σ) ha hst hpl ht).of fun σ H Q h => ?_
  obtain ⟨vs, st, μ, G, F, re, kn, h⟩ := h
  refine ⟨vs, st, μ, G, F, re, kn, (Done.bind h).mono fun μ1 G1 x st1 H1 f1 k1 h1 v rv => ?_⟩
  by_cases hi : insOk c m x st1 = true
  · rw [if_pos hi] at h1
    obtain ⟨a, dx, gs, rfl, hH, hl⟩ := insOk_rep k1 rv hC hi
    refine ⟨a, dx, gs, rfl, hH, hl, ?_⟩
    cases hd : ms vs st1 with
    | bad => rw [hd] at h1; exact h1.elim
    | exc ex st2 =>
      rw [hd] at h1
      exact ⟨vs, st1, μ1, G1, F, re.fut f1, k1, by rw [hd]; exact h1⟩
    | ok ds st2 =>
      rw [hd] at h1
      refine ⟨vs, st1, μ1, G1, F, re.fut f1, k1, ?_⟩
      rw [hd]
      intro μ2 G2 H2 f2 k2 ws rws
      refine ⟨by rw [List.length_cons, rws.length, hms.len hd]; omega, x :: ds, st2, μ2, G2, F, .cons (rv.fut f2) rws, k2, ?_⟩
      exact done_wish (Done.fut f2 h1) fun cls d H hw => hw
  · rw [if_neg hi] at h1; exact h1.elim
theorem m_mcal0 (Ck : CalM X.prog X.w X.K X.mg X.base c m k ps md) (hr : Room k X.A) (tk : Takes X W) (ho : ME X W o mo) {pl : Sem Bool} (hps : ps.length = 1 := by decide)
    (ht : eval (.Call (.Attribute o m apos) [] [] pos) X.env = (do
      let ov ← eval o X.env
      standAt apos.atName
      let (f, first) ← holding [ov] (getMethod ov m pl)
      callWith pos f first (backTo pos (starEach [] X.env)) (backToKw pos (keywordEach [] X.env))) := by rfl) : ME X W (.Call (.Attribute o m apos) [] [] pos) (eMeth c m md mo aNil) := by
  obtain ⟨C, fa, fd, Fk, hC, hcl, hm, hb⟩ := Ck
  refine (pe_methSD0 (pl := pl) ho hcl hm Fk hr hb (fun σ => passAt tk σ) ht).of fun σ H Q h => ?_
  obtain ⟨vs, st, μ, G, F, re, kn, h⟩ := h
  refine ⟨vs, st, μ, G, F, re, kn, (Done.bind h).mono fun μ1 G1 x st1 H1 f1 k1 h1 v rv => ?_⟩
  by_cases hi : insOk c m x st1 = true
  · rw [if_pos hi] at h1
    obtain ⟨a, dx, gs, rfl, hH, hl⟩ := insOk_rep k1 rv hC hi
    refine ⟨a, dx, gs, rfl, hH, hl, ?_⟩
    refine ⟨by rw [hps]; rfl, [x], st1, μ1, G1, F, .cons rv .nil, k1, ?_⟩
    exact done_wish h1 fun cls d H hw => hw
  · rw [if_neg hi] at h1; exact h1.elim
theorem m_make (Ck : CalI X.prog X.w X.K X.mg X.base c k ps md) (hr : Room (k + 1) X.A) (ha : MA X W (e :: es) ms) (hms : ALen ms (ps.length - 1) := by repeat constructor) (hps : 1 ≤ ps.length := by decide) (hg : Gl X c := by rfl) (hdb : (c == ("__debug__" : Str)) = false := by decide)
    (he : starEach (e :: es) X.env = (false, eval e X.env) :: starEach es X.env := by rfl) (hpl : (backTo pos (starEach es X.env)).any (·.1) = false := by rfl) : ME X W (.Call (.Name c p) (e :: es) [] pos) (eMake c md ms) := by
  obtain ⟨C, fa, fd, Fk, hC, hm, hb⟩ := Ck
  refine (pe_make (dvs := []) (E := fun _ _ _ => False) hm Fk hr hg hC hb .nil (fun pins σ H s e s' I h => ?_) ha hdb he hpl).of fun σ H Q h => ?_
  · obtain ⟨_, _, _, _, _, _, _, _, _, _, _, _, z⟩ := h
    exact z.elim
  obtain ⟨vs, st, μ, G, F, re, kn, h⟩ := h
  unfold eMake at h
  refine ⟨vs, st, μ, G, F, re, kn, ?_⟩
  cases hd : ms vs st with
  | bad => rw [hd] at h; exact h.elim
  | exc ex st2 => rw [hd] at h; exact h
  | ok ds st1 =>
    rw [hd] at h
    intro μ1 G1 H1 f1 k1 ws rws x dx hx hdx hne
    have h : Done X.K X.mg W σ μ G F (match md (.loc st1.length :: ds) (st1 ++ [some (.ins c [])]) with
      | .ok .non st' => Re.ok (.loc st1.length) st'
      | _ => .bad) (Fin X.K Q) := h
    have kj := k1.junk (o := .own (x)) hdx
    have hx2 : upd H1 dx (.own x) x = none := by rw [upd_ne (Ne.symm hne)]; exact hx
    have ka := kj.alloc (o := .ins C dx []) (ob := .ins c []) hx2 ⟨C, dx, [], rfl, hC, rfl⟩
    have fa : Fut μ1 G1 (μ1 ++ [x]) G1 := ⟨⟨[x], rfl⟩, .refl G1⟩
    have hat : (μ1 ++ [x])[st1.length]? = some x := by rw [← k1.len, List.getElem?_append_right (Nat.le_refl _), Nat.sub_self]; rfl
    refine ⟨by rw [List.append_nil, List.length_cons, rws.length, hms.len hd]; omega, .loc st1.length :: ds, _, μ1 ++ [x], G1, F, by rw [List.append_nil]; exact .cons (.loc hat) (rws.fut fa), ka, ?_⟩
    cases hr2 : md (.loc st1.length :: ds) (st1 ++ [some (.ins c [])]) with
    | bad => rw [hr2] at h; exact h.elim
    | exc ex st2 => rw [hr2] at h; exact h.elim
    | ok d2 st2 =>
      rw [hr2] at h
      cases d2 with
      | non =>
        intro μ2 G2 H2 f2 k2 v rv
        rw [rep_non rv]
        exact ⟨rfl, h μ2 G2 H2 ((f1.trans fa).trans f2) k2 _ (.loc (f2.at hat))⟩
      | _ => exact h.elim
end
end Dn
/-! Instances: how their denotations are evaluated. -/
namespace Dn
open PySem PySem.Spec PyProof.Rows L2
section
variable {vs : Vars} {st : Store} {mo mv : EM} {ms : EMs} {md : FnD} {c f m : Str} {tab : Flds} {n : Nat} {d x : D} {op : D → D → Store → Re D}
@[simp] theorem insAt_loc : insAt st (.loc n) = match cell st n with | some (.ins c fs) => some (c, fs) | _ => none := rfl
@[simp] theorem eMeth_eq : eMeth c m md mo ms vs st = (mo vs st).bind fun x st => if insOk c m x st = true then (ms vs st).bind fun ds st => md (x :: ds) st else .bad := rfl
@[simp] theorem sFldM_eq : sFldM tab f mo mv vs st = (mv vs st).thn vs fun d st => (mo vs st).thn vs fun x st => match putI tab f d x st with | some st => .nx vs st | none => .bad := rfl
@[simp] theorem sFldA_eq : sFldA tab f op mo mv vs st = (mo vs st).thn vs fun x st0 => (fldD tab f x st0).thn vs fun v st => (mv vs st).thn vs fun y st => (op v y st).thn vs fun z st' => if (insAt st' x).map (·.1) = (insAt st0 x).map (·.1) then (match putI tab f z x st' with | some st => .nx vs st | none => .bad) else .bad := rfl
@[simp] theorem lookup_nilF {β : Type} {f : Str} : List.lookup f ([] : List (Str × β)) = none := rfl
theorem lookup_consF {β : Type} {f g : Str} {b : β} {r : List (Str × β)} : List.lookup f ((g, b) :: r) = if f = g then some b else List.lookup f r := by
  rw [List.lookup_cons]
  by_cases h : f = g
  · subst h; simp
  · have : (f == g) = false := by simpa using h
    rw [this, if_neg h]
@[simp] theorem putD_nil : putD f d [] = [(f, d)] := rfl
@[simp] theorem putD_cons {g : Str} {r : List (Str × D)} : putD f d ((g, x) :: r) = if g = f then (g, d) :: r else (g, x) :: putD f d r := rfl
theorem fld_ins {fs : List (Str × D)} (h : cell st n = some (.ins c fs)) (hf : hasF tab c f = true) (hl : fs.lookup f = some d) : fldD tab f (.loc n) st = .ok d st := by
  unfold fldD
  simp only [insAt_loc, h, hf, hl, if_true]
theorem put_ins {fs : List (Str × D)} (h : cell st n = some (.ins c fs)) (hf : hasF tab c f = true) (hl : fs.length < 900) : putI tab f d (.loc n) st = some (st.set n (some (.ins c (putD f d fs)))) := by
  unfold putI
  simp only [h, hf, hl, and_self, if_true]
theorem insOk_ins {fs : List (Str × D)} (h : cell st n = some (.ins c fs)) (hl : fs.lookup m = none) : insOk c m (.loc n) st = true := by
  unfold insOk
  simp [h, hl]
theorem make_wp {Q : D → Store → Prop} (h : wp (ms vs st) fun ds st1 => wp (md (.loc st1.length :: ds) (st1 ++ [some (.ins c [])])) fun d st2 => d = .non ∧ Q (.loc st1.length) st2) : wp (eMake c md ms vs st) Q := by
  unfold eMake
  rw [wp_bind]
  refine wp_mono h fun ds st1 h1 => ?_
  obtain ⟨a, st2, e, rfl, q⟩ := wp_ex h1
  rw [e]
  simp only [wp_ok]
  exact q
end
end Dn
/-! sorted(xs) of a tuple of like data -/
namespace Dn
open PySem PySem.Spec PyProof PyProof.Rows PySem.W L2
section
variable {prog : Program} {w : World} {A : Around} {E : Value → Shared → Prop} {s : Shared}
theorem collect_tup {l : Addr} {vs : List Value} {Q : List Value → Shared → Prop} (hl : IsTup s.heap l vs.toArray)
    (h : Q vs { s with heap := (s.heap.push (seqObj "list" #[] 0)).update s.heap.objs.size (Obj.mapSeq (· ++ vs.toArray)) }) (hsz : vs.length ≤ sizeLine) :
    wpAny (model prog w) A (collect (.ref l)) Q E s := by
  obtain ⟨o, ho, hc, n, hd⟩ := id hl
  unfold collect
  refine wpAny_bind (wpAny_runValue (codeAny_builtin entry_proto_collect' ?_))
  show wpAny _ _ (do again (.builtin "list.__iadd__" ⟨[← newList [], .ref l], []⟩)) _ _ s
  refine wpAny_bind (wpAny_newList (wpAny_pure ⟨Code.quiet_builtin _ (by decide +kernel), codeAny_builtin entry_list_iadd' ?_⟩))
  show wpAny _ _ (Builtin.List.listExtendWith (.ref s.heap.objs.size) (.ref l) (.ref s.heap.objs.size)) _ _ { s with heap := s.heap.push (seqObj "list" #[] 0) }
  unfold Builtin.List.listExtendWith
  have ho' : (s.heap.push (seqObj "list" #[] 0)).get? l = some o := Heap.get?_push_of_some _ ho
  refine wpAny_bind (wpAny_typeOf (T := "tuple") ⟨o, ho', hc⟩ ?_)
  have ht : (Value.type "tuple" == Value.type "tuple") = true := by rfl
  rw [if_pos (by rw [ht]; simp)]
  refine wpAny_bind (listItems_at ho' hd ?_)
  refine wpAny_bind (listItems_at (xs := #[]) (n := 0) (Heap.get?_push_size _ rfl) rfl ?_)
  rw [if_neg (by simp)]
  refine wpAny_bind (listUpdate_at (xs := #[]) (n := 0) (Heap.get?_push_size _ rfl) rfl ?_ (Nat.zero_le _) (by show (#[] ++ vs.toArray).size ≤ sizeLine + 1; simp only [Array.size_append, List.size_toArray, List.length_nil]; omega))
  refine wpAny_pure ?_
  show wpAny (model prog w) A (do
      let o ← load s.heap.objs.size
      match o.data with
      | .seq xs _ => pure xs.toList
      | _ => unsupported "internal:collect") Q E { s with heap := (s.heap.push (seqObj "list" #[] 0)).update s.heap.objs.size (Obj.mapSeq (· ++ vs.toArray)) }
  refine wpAny_bind (wpAny_load (get?_update_seq (Heap.get?_push_size _ rfl) _) ?_)
  show wpAny _ _ (pure ((#[] : Array Value) ++ vs.toArray).toList) Q E _
  rw [show ((#[] : Array Value) ++ vs.toArray).toList = vs by simp]
  exact wpAny_pure h
theorem sorted_tup_vals {κ : PyProof.Rows.KeyKind} {l : Addr} {vs : List Value} {Q : Value → Shared → Prop} (hl : IsTup s.heap l vs.toArray) (S : SortsAt prog w A.in1.in1 { s with heap := sortingHeap (copyHeap s.heap vs) (s.heap.objs.size + 1) vs } κ vs) (hL : vs.length ≤ sizeLine)
    (h : Q (.ref (s.heap.objs.size + 1)) { s with heap := sortedAll s.heap vs (sortVals κ false vs vs).toArray }) : wpAny (model prog w) A (call (.builtin "sorted") [.ref l]) Q E s := by
  refine PyProof.Rows.call_function_entry_kw kind_sorted plain_sorted entry_sorted (args_sorted1 _) ?_
  unfold Builtin.«sorted»
  refine wpAny_bind (m := checkCount "sorted" 1 1 _) (wpAny_pure ?_)
  refine wpAny_bind (collect_tup hl ?_ hL)
  refine wpAny_bind (wpAny_newList ?_ hL)
  have hsz : ((s.heap.push (seqObj "list" #[] 0)).update s.heap.objs.size (Obj.mapSeq (· ++ vs.toArray))).objs.size = s.heap.objs.size + 1 := by
    rw [Heap.size_update, size_push']
  show wpAny _ _ _ _ _ { s with heap := copyHeap s.heap vs }
  rw [hsz]
  refine wpAny_bind (wpAny_holding (wpAny_call_entry_kw slot_list_sort ⟨_, copyHeap_at s.heap vs, rfl⟩ entry_list_sort ?body (args_list_sort _)))
  case body =>
    show wpAny (model prog w) A.in1.in1 (Builtin.«list.sort» ⟨[.ref (s.heap.objs.size + 1)], []⟩) _ _ _
    refine wpAny_mono (list_sort_vals (P := fun f s' => f = .done (.ret .none) ∧ Q (.ref (s.heap.objs.size + 1)) s') (s := { s with heap := copyHeap s.heap vs }) (copyHeap_at s.heap vs) S hL ⟨rfl, h⟩) (fun f s' hf => ?_) fun _ _ e => e
    obtain ⟨rfl, hq⟩ := hf
    exact ⟨_, rfl, wpAny_pure ⟨_, rfl, hq⟩⟩
theorem sorted_tup_data {β : Type} {vs : List Value} {bs : List β} {enc : β → PyData} {R : Value → β → Prop} {l : Addr} {Q : Value → Shared → Prop} (hl : IsTup s.heap l vs.toArray) (e : EachIs R vs bs) (er : EachIs (fun v b => ∃ as, Reads s.heap v (enc b) as) vs bs) (hal : AllAlike (bs.map enc)) (hk : Sortable (bs.map enc)) (hL : bs.length ≤ sizeLine)
    (hu : ∀ b, b ∈ bs → A.units + 2 + (enc b).depth < cLine) (h : ∀ out, out.length = bs.length → EachIs R out (bs.mergeSort (dataLe false enc)) → Q (.ref (s.heap.objs.size + 1)) { s with heap := sortedAll s.heap vs (List.toArray out) }) :
    wpAny (model prog w) A (call (.builtin "sorted") [.ref l]) Q E s := by
  have er' : EachIs (fun v b => ∃ as, Reads (sortingHeap (copyHeap s.heap vs) (s.heap.objs.size + 1) vs) v (enc b) as) vs bs := er.mono fun _ _ ⟨as, r⟩ => ⟨as, PyProof.Rows.Reads.keeps (fun _ _ => sorting_copy_old) r⟩
  exact sorted_tup_vals hl (SortsAt.data (s := { s with heap := sortingHeap (copyHeap s.heap vs) (s.heap.objs.size + 1) vs }) (each_map (R := fun v d => ∃ as, Reads (sortingHeap (copyHeap s.heap vs) (s.heap.objs.size + 1) vs) v d as) enc er') hal hk (bound_map hu)) (by rw [e.length]; exact hL)
    (h _ (by rw [sortVals_length false rfl]; exact e.length) (sortVals_data false e er' hal))
end
def rSortU (K : PySem.W.Frag) : List V → Hp → VK → Prop := fun vs H Q => ∃ (a : Addr) (ps : List (V × D)), vs = [V.ref a] ∧ SqT K H a (ps.map Prod.fst) ∧ DpAll K H (ps.map Prod.fst) ((ps.map Prod.snd).map pd) ∧ srtOk (ps.map Prod.snd) = true ∧
  ∀ p, H p = none → Q (.ref p) (upd H p (.lst ((ps.mergeSort (PySem.W.dataLe false fun p => pd p.2)).map Prod.fst)))
theorem cr_sortU {X : Cx} (hu : X.A.units + 65 < cLine) : CallR X (.builtin "sorted") (rSortU X.K) := by
  intro pins s σ H vs us Q I r h
  obtain ⟨a, ps, rfl, hs, hd, ho, q⟩ := h
  obtain ⟨its, rv, hl, hz⟩ := I.tuple hs
  rw [Vals.ref1 r]
  have e := each_vals rv
  obtain ⟨as, hra⟩ := Dp.readsAll I _ _ its hd rv
  rw [List.map_map] at hra
  have er : PySem.W.EachIs (fun v (p : V × D) => ∃ as, Reads s.heap v (pd p.2) as) its ps := PySem.W.readsAll_each (fun p : V × D => pd p.2) hra
  unfold srtOk at ho
  rw [Bool.and_eq_true, Bool.and_eq_true] at ho
  obtain ⟨h1, h2, h3⟩ := ho
  have e2 : ps.map (fun p : V × D => pd p.2) = (ps.map Prod.snd).map pd := by rw [List.map_map]; rfl
  have hal : PySem.W.AllAlike (ps.map fun p : V × D => pd p.2) := by rw [e2]; exact likes_all h2
  have hk : PySem.W.Sortable (ps.map fun p : V × D => pd p.2) := by rw [e2]; exact sortable_of h3
  rw [List.length_map] at hz
  refine sorted_tup_data hl e er hal hk hz (fun p hp => ?_) fun out hol eo => ?_
  · have := (okd_shape 40 p.2 (List.all_eq_true.mp h1 p.2 (List.mem_map_of_mem hp))).2
    omega
  · obtain ⟨ep, he'⟩ := PyProof.Rows.sortedAll_at s.heap its out.toArray
    have hlen : ((ps.mergeSort (PySem.W.dataLe false fun p : V × D => pd p.2)).map Prod.fst).length ≤ sizeLine := by
      rw [List.length_map, (List.mergeSort_perm _ _).length_eq]
      exact hz
    exact ⟨.ref _, upd H (s.heap.objs.size + 1) (.lst ((ps.mergeSort (PySem.W.dataLe false fun p : V × D => pd p.2)).map Prod.fst)), I.laid (t' := s.toks) (fun _ _ => PyProof.Rows.sortedAll_old) (Nat.le_succ _) ⟨hlen, out, ep, vals_each eo, he'⟩, rfl, q _ (I.hok.fresh (Nat.le_succ _))⟩
abbrev rSortQ (K : PySem.W.Frag) : List V → Hp → VK → Prop := fun xs H Q => rSortA K xs H Q ∨ rSortU K xs H Q
theorem cr_sortQ {X : Cx} (hu : X.A.units + 65 < cLine) : CallR X (.builtin "sorted") (rSortQ X.K) := (cr_sortA hu).or (cr_sortU hu)
def sortQ (b : Bool) : List D → Store → Re D := one fun x st => opt (seqOf st x) fun ds => if srtOk ds = true then mkNew b (ds.mergeSort leDt) st else .bad
theorem s_sortQ {K : PySem.W.Frag} {mg : Str → Option Value} (b : Bool) : SN K mg (sortQ b) (rSortQ K) := sn_one fun W σ μ G F st H x v Q k rv h => by
  obtain ⟨ds, e, h⟩ := opt_done h
  obtain ⟨ho, h⟩ := ite_done h
  obtain ⟨a, ws, rfl, hs, rw'⟩ := seqOf_rep k rv e
  obtain ⟨ps, rfl, rfl, hp⟩ := reps_zip rw'
  have ho2 := ho
  unfold srtOk at ho2
  rw [Bool.and_eq_true] at ho2
  have hn := new_list (Q := Q) k (ds := (ps.map Prod.snd).mergeSort leDt) (vs := (ps.mergeSort (PySem.W.dataLe false fun p => pd p.2)).map Prod.fst) (by
    rw [← sort_snd]
    exact zip_reps fun p h' => hp p ((List.mergeSort_perm _ _).mem_iff.mp h')) h
  rcases hs with hs | hs
  · exact .inl ⟨a, ps, rfl, hs, zip_dp k.ex hp ho2.1, ho, hn⟩
  · exact .inr ⟨a, ps, rfl, hs, zip_dp k.ex hp ho2.1, ho, hn⟩
@[simp] theorem sortQ_eq {b : Bool} {x : D} {st : Store} : sortQ b [x] st = opt (seqOf st x) fun ds => if srtOk ds = true then mkNew b (ds.mergeSort leDt) st else .bad := rfl
end Dn
/-! tuple * 1 -/
namespace Dn
open PySem PySem.Spec PyProof.Rows L2
theorem tuple_mul1W (l : Addr) (items : Array Value) (n : Nat) (dd : Option Addr) (sl : Array (Option Value)) (u : Tok) :
    Meets (Builtin.«tuple.__mul__» ⟨[.ref l, .int 1 u], []⟩) (fun _ R s => s.heap.get? l = some { cls := .type "tuple", dict := dd, data := .seq items n, slots := sl } ∧
      R (.ok (.ret (Value.ref l))) s) :=
  .of_wp fun prog w A R s h => by
    obtain ⟨hp, g, d, tk, os⟩ := s
    obtain ⟨hl, h⟩ := h
    have f1 := AutoSeq1.idx_int
    have c0 : (decide ((1 : Int) < -(2 ^ 63)) || decide ((1 : Int) ≥ 2 ^ 63)) = false := by decide
    have c1 : (items.isEmpty || (1 : Int) == 1) = true := by simp
    wp_walk using wpAny_loadPart' hl
    repeat (first
      | (refine wpAny_ite_false (decide_eq_false (by rw [c0]; exact Bool.false_ne_true)) ?_; wp_walk using wpAny_loadPart' hl)
      | (refine wpAny_ite_true (decide_eq_true c1) ?_; wp_walk using wpAny_loadPart' hl))
    exact ⟨_, rfl, h⟩
def rRepT1 (K : PySem.W.Frag) : R2 := fun x y H Q => ∃ l xs, x = .ref l ∧ y = .int 1 ∧ SqT K H l xs ∧ Q (.ref l) H
theorem op_repT1 {X : Cx} : OpR X (binaryOp .Mult) (rRepT1 X.K) := by
  intro pins s σ H x y v u Q I rx ry h
  obtain ⟨l, xs, rfl, rfl, hT, q⟩ := h
  cases rx
  obtain ⟨t, rfl⟩ := ry
  obtain ⟨its, r, ⟨⟨cls, dd, data, sl⟩, ho, hc, n, hd⟩, hs⟩ := I.tuple hT
  simp only at hc hd
  subst hc hd
  refine wpAny_binaryOp_repeat_ref (T := "tuple") (U := "int") (by decide) ⟨_, ho, rfl⟩ (fun s' => typeIs_int s' 1 t) noFill_tuple_mul F.fills_int_mul F.slot_int_rmul repeat_tuple F.slot_int_index.lookup
    (call_meets F.slot_int_rmul (typeIs_int s 1 t) F.entry_int_rmul (F.args_int_rmul_2 _ _) (int_rmul_tuple 1 t l its.toArray n dd sl)
      ⟨ho, rfl, ⟨_, ho, rfl⟩, call_meets F.slot_tuple_mul ⟨_, ho, rfl⟩ F.entry_tuple_mul (F.args_tuple_mul_2 _ _) (tuple_mul1W l its.toArray n dd sl t) ⟨ho, ?_⟩⟩)
  exact ⟨.ref l, H, I, rfl, q⟩
abbrev rMulQ (K : PySem.W.Frag) : R2 := fun x y H Q => rMulA K x y H Q ∨ rRepT1 K x y H Q
theorem or_mulQ {X : Cx} : OpR X (binaryOp .Mult) (rMulQ X.K) := or_mul.or op_repT1
def mulQ (b : Bool) (x y : D) (st : Store) : Re D := match x, y with
  | .tup u, .int k => if k = 1 then .ok (.tup u) st else mulD b (.tup u) (.int k) st
  | x, y => mulD b x y st
theorem s_mulQ {K : PySem.W.Frag} {mg : Str → Option Value} (b : Bool) : S2 K mg (mulQ b) (rMulQ K) := by
  intro W σ μ G F st H x y v w Q k rx ry h
  unfold mulQ at h
  split at h
  · split at h
    · rename_i e
      subst e
      obtain ⟨a, vs, rfl, ha, ru⟩ := rep_tup rx
      rw [rep_int ry]
      exact .inr ⟨a, vs, rfl, rfl, k.ex.sqt ha, fin_here k h rx⟩
    · exact .inl (s_mul b W σ μ G F st H _ _ v w Q k rx ry h)
  · exact .inl (s_mul b W σ μ G F st H _ _ v w Q k rx ry h)
@[simp] theorem mulQ_tup {b : Bool} {u : List D} {n : Nat} {st : Store} (hu : u ≠ []) (h1 : 1 ≤ n) (h2 : n ≤ 1000) (h3 : u.length ≤ 1000) : mulQ b (.tup u) (.int (n : Nat)) st = .ok (.tup (List.replicate n u).flatten) st := by
  show (if (n : Int) = 1 then _ else mulD b (.tup u) (.int (n : Nat)) st) = _
  split
  · rename_i e
    have : n = 1 := by omega
    subst this
    simp
  · unfold mulD
    simp only
    rw [if_pos ⟨hu, by omega, by omega, h3⟩, Int.toNat_natCast]
end Dn
/-! sum(xs) of a tuple or list of numbers -/
namespace Dn
open PySem PySem.Spec PyProof.Rows L2
theorem sum_tup_raw {prog : Program} {w : World} {A : Around} {E : Value → Shared → Prop} {s : Shared} {l : Addr} {its : List Value} {ns : List Int} {Q : Value → Shared → Prop} (hh : A.handled = none) (hl : IsTup s.heap l its.toArray) (hi : IntsAre its ns)
    (h : ∀ h' tk t', (∀ b o, s.heap.get? b = some o → h'.get? b = some o) → Q (.int ns.sum t') { s with heap := h', toks := tk }) : wpAny (model prog w) A (call (.builtin "sum") [.ref l]) Q E s := by
  have hl' : s.heap.IsTuple l its.toArray := hl
  obtain ⟨xs, hx⟩ := hi.allInts.items
  have hn : numsOf its.toArray.toList = ns := by rw [show its.toArray.toList = its from rfl, hi.numsOf]
  rw [hx] at hl' hn
  rw [nums_intItems] at hn
  refine PySem.W.ktm_sumG hh hl' fun h' tk t' hk => ?_
  have := h h' tk t' hk
  rw [preSum_eq, List.take_of_length_le (by simp), hn]
  exact this
def rSumT (K : PySem.W.Frag) : List V → Hp → VK → Prop := fun vs H Q => ∃ (a : Addr) (ns : List Int), vs = [V.ref a] ∧ SqT K H a (ns.map V.int) ∧ Q (.int ns.sum) H
theorem cr_sumT {X : Cx} (hc : X.calm = true) : CallR X (.builtin "sum") (rSumT X.K) := by
  intro pins s σ H vs us Q I r h
  obtain ⟨a, ns, rfl, hs, q⟩ := h
  obtain ⟨its, rv, hl, _⟩ := I.tuple hs
  rw [Vals.ref1 r]
  exact sum_tup_raw (I.ok.hd hc) hl rv.ints fun h' tk t' hk => ⟨.int _, H, I.kept hk, ⟨_, rfl⟩, q⟩
abbrev rSumQ (K : PySem.W.Frag) : List V → Hp → VK → Prop := fun xs H Q => rSum K xs H Q ∨ rSumT K xs H Q
theorem cr_sumQ {X : Cx} (hc : X.calm = true) : CallR X (.builtin "sum") (rSumQ X.K) := (cr_sum hc).or (cr_sumT hc)
def sumQ : List D → Store → Re D := one fun x st => opt ((seqOf st x).bind intsOf) fun ns => .ok (.int ns.sum) st
theorem s_sumQ {K : PySem.W.Frag} {mg : Str → Option Value} : SN K mg sumQ (rSumQ K) := sn_one fun W σ μ G F st H x v Q k rv h => by
  obtain ⟨ns, e, h⟩ := opt_done h
  cases e1 : seqOf st x with
  | none => rw [e1] at e; cases e
  | some ds =>
    rw [e1] at e
    obtain ⟨a, ws, rfl, hs, rs⟩ := seqOf_rep k rv e1
    have e2 := intsOf_map e
    subst e2
    rw [reps_ints rs] at hs
    rcases hs with hs | hs
    · exact .inl ⟨a, ns, rfl, hs, fin_here k h .int⟩
    · exact .inr ⟨a, ns, rfl, hs, fin_here k h .int⟩
@[simp] theorem sumQ_eq {x : D} {st : Store} : sumQ [x] st = opt ((seqOf st x).bind intsOf) fun ns => .ok (.int ns.sum) st := rfl
end Dn
/-! tuple(range(n)), tuple(range(a, b)), list(range(a, b)) -/
namespace Dn
open PySem PySem.Spec PyProof.Rows L2
section
variable {X : Cx} {W : WX} {a b : Expr} {p p2 q pos : Pos} {ma mb : EM}
theorem reps_rg {K : PySem.W.Frag} {μ : List Addr} {G : Hp} (i j : Int) : Reps K μ G (rng i (j - i).toNat) (rgV i j) := by
  unfold rng rgV
  have : ∀ l : List Nat, Reps K μ G (l.map fun (n : Nat) => D.int (i + n)) (l.map fun (n : Nat) => V.int (i + (n : Nat))) := fun l => by
    induction l with
    | nil => exact .nil
    | cons n l ih => exact .cons .int ih
  exact this _
def tr2 (x y : D) (st : Store) : Re D := match x, y with
  | .int i, .int j => if fitR i ∧ fitR j ∧ (j - i).toNat ≤ 1000000 then .ok (.tup (rng i (j - i).toNat)) st else .bad
  | _, _ => .bad
def tr1 (x : D) (st : Store) : Re D := tr2 (.int 0) x st
def lr2 (bb : Bool) (x y : D) (st : Store) : Re D := match x, y with
  | .int i, .int j => if fitR i ∧ fitR j ∧ (j - i).toNat ≤ 1000000 then mkNew bb (rng i (j - i).toNat) st else .bad
  | _, _ => .bad
theorem rg_ok {i j : Int} (h : fitR i ∧ fitR j ∧ (j - i).toNat ≤ 1000000) : RgOk i j := by
  obtain ⟨⟨h1, h2⟩, ⟨h3, h4⟩, h5⟩ := h
  refine ⟨by omega, by omega, by omega, by omega, by omega⟩
theorem m_tr1 (hc : X.calm = true) (hm : X.mg "tuple" = none) (hm2 : X.mg "range" = none) (ha : ME X W a ma) (hg : Gl X "tuple" := by rfl) (hg2 : Gl X "range" := by rfl)
    (na : starEach [a] X.env = (false, eval a X.env) :: starEach [] X.env := by rfl) (ne : starEach [Expr.Call (.Name "range" p2) [a] [] q] X.env = (false, eval (Expr.Call (.Name "range" p2) [a] [] q) X.env) :: starEach [] X.env := by rfl) : ME X W (.Call (.Name "tuple" p) [.Call (.Name "range" p2) [a] [] q] [] pos) (e1 tr1 ma) := by
  refine (pe_tupRg hc hg hm (prg_1 hg2 hm2 ha na) ne).of fun σ H Q h => ?_
  obtain ⟨vs, st, μ, G, F, re, k, h⟩ := h
  refine ⟨vs, st, μ, G, F, re, k, (Done.bind h).mono fun μ1 G1 x st1 H1 f1 k1 h1 v rv => ?_⟩
  cases x with
  | int j =>
    have h1 : Done X.K X.mg W σ μ1 G1 F (if fitR 0 ∧ fitR j ∧ (j - 0).toNat ≤ 1000000 then .ok (.tup (rng 0 (j - 0).toNat)) st1 else .bad) (Fin X.K Q) := h1
    obtain ⟨hc', h2⟩ := ite_done h1
    rw [rep_int rv]
    exact ⟨j, rfl, rg_ok hc', new_tup k1 (reps_rg 0 j) h2⟩
  | _ => exact h1.elim
theorem m_tr2 (hc : X.calm = true) (hm : X.mg "tuple" = none) (hm2 : X.mg "range" = none) (ha : ME X W a ma) (hb : ME X W b mb) (hg : Gl X "tuple" := by rfl) (hg2 : Gl X "range" := by rfl)
    (na : starEach [a, b] X.env = (false, eval a X.env) :: starEach [b] X.env := by rfl) (nb : starEach [b] X.env = (false, eval b X.env) :: starEach [] X.env := by rfl) (hp : (backTo q (starEach [b] X.env)).any (·.1) = false := by rfl) (ne : starEach [Expr.Call (.Name "range" p2) [a, b] [] q] X.env = (false, eval (Expr.Call (.Name "range" p2) [a, b] [] q) X.env) :: starEach [] X.env := by rfl) : ME X W (.Call (.Name "tuple" p) [.Call (.Name "range" p2) [a, b] [] q] [] pos) (e2 tr2 ma mb) := by
  refine (pe_tupRg hc hg hm (prg_2 hg2 hm2 ha hb na nb hp) ne).of fun σ H Q h => ?_
  obtain ⟨vs, st, μ, G, F, re, k, h⟩ := h
  refine ⟨vs, st, μ, G, F, re, k, (Done.bind h).mono fun μ1 G1 x st1 H1 f1 k1 h1 v rv => ?_⟩
  refine ⟨vs, st1, μ1, G1, F, re.fut f1, k1, (Done.bind h1).mono fun μ2 G2 y st2 H2 f2 k2 h2 w rw' => ?_⟩
  cases x with
  | int i =>
    cases y with
    | int j =>
      have h2 : Done X.K X.mg W σ μ2 G2 F (if fitR i ∧ fitR j ∧ (j - i).toNat ≤ 1000000 then .ok (.tup (rng i (j - i).toNat)) st2 else .bad) (Fin X.K Q) := h2
      obtain ⟨hc', h3⟩ := ite_done h2
      rw [rep_int rv, rep_int rw']
      exact ⟨i, j, rfl, rfl, rg_ok hc', new_tup k2 (reps_rg i j) h3⟩
    | _ => exact h2.elim
  | _ => exact h2.elim
theorem m_lr2 (bb : Bool) (hc : X.calm = true) (hm : X.mg "list" = none) (hm2 : X.mg "range" = none) (ha : ME X W a ma) (hb : ME X W b mb) (hg : Gl X "list" := by rfl) (hg2 : Gl X "range" := by rfl)
    (na : starEach [a, b] X.env = (false, eval a X.env) :: starEach [b] X.env := by rfl) (nb : starEach [b] X.env = (false, eval b X.env) :: starEach [] X.env := by rfl) (hp : (backTo q (starEach [b] X.env)).any (·.1) = false := by rfl) (ne : starEach [Expr.Call (.Name "range" p2) [a, b] [] q] X.env = (false, eval (Expr.Call (.Name "range" p2) [a, b] [] q) X.env) :: starEach [] X.env := by rfl) : ME X W (.Call (.Name "list" p) [.Call (.Name "range" p2) [a, b] [] q] [] pos) (e2 (lr2 bb) ma mb) := by
  refine (pe_listRg hc hg hm (prg_2 hg2 hm2 ha hb na nb hp) ne).of fun σ H Q h => ?_
  obtain ⟨vs, st, μ, G, F, re, k, h⟩ := h
  refine ⟨vs, st, μ, G, F, re, k, (Done.bind h).mono fun μ1 G1 x st1 H1 f1 k1 h1 v rv => ?_⟩
  refine ⟨vs, st1, μ1, G1, F, re.fut f1, k1, (Done.bind h1).mono fun μ2 G2 y st2 H2 f2 k2 h2 w rw' => ?_⟩
  cases x with
  | int i =>
    cases y with
    | int j =>
      have h2 : Done X.K X.mg W σ μ2 G2 F (if fitR i ∧ fitR j ∧ (j - i).toNat ≤ 1000000 then mkNew bb (rng i (j - i).toNat) st2 else .bad) (Fin X.K Q) := h2
      obtain ⟨hc', h3⟩ := ite_done h2
      rw [rep_int rv, rep_int rw']
      exact ⟨i, j, rfl, rfl, rg_ok hc', new_list k2 (reps_rg i j) h3⟩
    | _ => exact h2.elim
  | _ => exact h2.elim
theorem tr1_int {j : Int} {st : Store} (h0 : -1000000 ≤ j) (h1 : j ≤ 1000000) : tr1 (.int j) st = .ok (.tup (rng 0 j.toNat)) st := by
  show (if fitR 0 ∧ fitR j ∧ (j - 0).toNat ≤ 1000000 then _ else _) = _
  rw [if_pos ⟨fitR_of (by omega) (by omega), fitR_of (by omega) (by omega), by omega⟩, Int.sub_zero]
end
end Dn
/-! xs[::-1] -/
namespace Dn
open PySem PySem.Spec PyProof PyProof.Rows L2
section
variable {prog : Program} {w : World} {A : Around} {E : Value → Shared → Prop} {s : Shared}
theorem adjust_rev (n : Nat) : Builtin.Slice.sliceAdjust none none (-1) (n : Int) = ((n : Int) - 1, -1) := by
  unfold Builtin.Slice.sliceAdjust
  simp
theorem places_rev (n : Nat) : Builtin.Slice.slicePlaces ((n : Int) - 1) (-1) (-1) = n := by
  unfold Builtin.Slice.slicePlaces
  have h1 : ¬ (-1 : Int) > 0 := by omega
  simp only [h1, if_false]
  split
  · rw [show (n : Int) - 1 - -1 - 1 = (n : Int) - 1 by omega, show (-(-1) : Int) = 1 from rfl, Int.ediv_one]
    omega
  · simp
    omega
theorem filt_congr {α β : Type} {f g : α → Option β} : ∀ {l : List α}, (∀ a ∈ l, f a = g a) → l.filterMap f = l.filterMap g
  | [], _ => rfl
  | a :: l, h => by
    rw [List.filterMap_cons, List.filterMap_cons, h a List.mem_cons_self, filt_congr fun b hb => h b (List.mem_cons_of_mem _ hb)]
theorem pick_rev (xs : Array Value) : ((List.range xs.size).filterMap fun (k : Nat) => xs[((xs.size : Int) - 1 + (k : Int) * (-1)).toNat]?).toArray = xs.toList.reverse.toArray := by
  have h := PySem.W.krv_pick xs
  unfold slicePick at h
  rw [PySem.W.krv_bounds] at h
  rw [← h]
  show _ = ((sliceRange ((xs.size : Int) - 1) (-1) (-1)).filterMap (xs[·]?)).toArray
  rw [PySem.W.krv_sliceRange, List.filterMap_map]
  congr 1
  refine filt_congr fun k hk => ?_
  have := List.mem_range.mp hk
  show xs[((xs.size : Int) - 1 + (k : Int) * (-1)).toNat]? = xs[xs.size - 1 - k]?
  congr 1
  omega
theorem sliceApplied_rev {sl : Addr} {u : Tok} {n : Nat} {Q : Int × Int × Nat → Shared → Prop} (hs : s.heap.IsSliceOf sl .none .none (.int (-1) u))
    (h : Q ((n : Int) - 1, -1, n) s) : wpAny (model prog w) A (Builtin.Slice.sliceApplied (.ref sl) (pure (n : Int))) Q E s := by
  obtain ⟨os, hos, hcs, hds⟩ := id hs
  unfold Builtin.Slice.sliceApplied Builtin.Slice.sliceFields
  refine wpAny_bind (wpAny_bind (wpAny_field hos hds (x := .none) rfl (wpAny_bind (wpAny_field hos hds (x := .none) rfl (wpAny_bind (wpAny_field hos hds (x := .int (-1) u) rfl (wpAny_pure ?_)))))))
  refine wpAny_bind (slicePart_int ?_)
  show wpAny _ _ (if ((-1 : Int) == 0) = true then _ else _) _ _ s
  rw [if_neg (by decide)]
  refine wpAny_bind (slicePart_none (wpAny_bind (slicePart_none (wpAny_bind (wpAny_pure ?_)))))
  show wpAny _ _ (match Builtin.Slice.sliceAdjust none none (-1) (n : Int) with | (lo, hi) => pure (lo, (-1 : Int), Builtin.Slice.slicePlaces lo hi (-1))) _ _ s
  rw [adjust_rev n]
  show wpAny _ _ (pure ((n : Int) - 1, (-1 : Int), Builtin.Slice.slicePlaces ((n : Int) - 1) (-1) (-1))) _ _ s
  rw [places_rev]
  exact wpAny_pure h
theorem getItem_tuple_rev {t sl : Addr} {items : Array Value} {u : Tok} {Q : Value → Shared → Prop} (ht : IsTup s.heap t items) (hs : s.heap.IsSliceOf sl .none .none (.int (-1) u))
    (h : Q (.ref s.heap.objs.size) { s with heap := s.heap.push { cls := .type "tuple", data := .seq items.toList.reverse.toArray } })
    (hsz : items.size ≤ sizeLine) : wpAny (model prog w) A (getItem (.ref t) (.ref sl)) Q E s := by
  have htake : sizeOk (.seq items.toList.reverse.toArray) := by
    show items.toList.reverse.toArray.size ≤ sizeLine
    rw [List.size_toArray, List.length_reverse, Array.length_toList]
    exact hsz
  obtain ⟨os, hos, hcs, hds⟩ := id hs
  have hTs : s.TypeIs (.ref sl) "slice" := ⟨os, hos, hcs⟩
  unfold getItem
  try with_reducible refine wpAny_holding ?_
  first | refine wpAny_bind (wpAny_pure ?_) | skip
  refine wpAny_bind (wpAny_sequenceKey (IsTup.typeIs ht) (by decide) ?_)
  refine wpAny_bind (wpAny_callSpecial?_slot (name := Str.ofString "__getitem__") (IsTup.typeIs ht) PyProof.Rows.slot_tuple_getitem
    (wpAny_call_entry PyProof.Rows.slot_tuple_getitem (IsTup.typeIs ht) entry_tuple_getitem ?_ (args_tuple_getitem _ _)))
  show wpAny _ _ (Builtin.Tuple.tupleItemsOf (.ref t) >>= _) _ _ s
  refine wpAny_bind (PyProof.Rows.tupleItemsOf_ ht ?_)
  refine wpAny_bind (wpAny_typeOf hTs ?_)
  rw [if_pos (by decide)]
  refine wpAny_bind (sliceApplied_rev hs ?_)
  have hno : ¬ ((((items.size : Int) - 1) == 0 && (-1 : Int) == 1 && items.size == items.size) = true) := by
    rw [show ((-1 : Int) == 1) = false from rfl]
    simp
  show wpAny _ _ (if ((((items.size : Int) - 1) == 0 && (-1 : Int) == 1 && items.size == items.size) = true) then _ else _) _ _ s
  rw [if_neg hno, pick_rev]
  first
    | exact wpAny_bind (m := Builtin.Tuple.tupleExact _) (wpAny_newObj_type (wpAny_pure ⟨_, rfl, wpAny_pure h⟩) htake)
    | exact wpAny_bind (m := Builtin.Tuple.tupleExact _) (wpAny_newObj_type (wpAny_bind (wpAny_pure (wpAny_pure ⟨_, rfl, wpAny_pure h⟩))) htake)
    | exact wpAny_bind (wpAny_bind (m := Builtin.Tuple.tupleExact _) (wpAny_newObj_type (wpAny_pure (wpAny_pure ⟨_, rfl, wpAny_pure h⟩)) htake))
    | exact wpAny_bind (wpAny_bind (m := Builtin.Tuple.tupleExact _) (wpAny_newObj_type (wpAny_pure ⟨_, rfl, wpAny_pure h⟩) htake))
end

def rRev (K : PySem.W.Frag) : V → V → Hp → VK → Prop := fun x y H Q => ∃ a xs, x = .ref a ∧ y = .int (-1) ∧ ((SqT K H a xs ∧ ∀ p, H p = none → Q (.ref p) (upd H p (.tup xs.reverse))) ∨ (SqL K H a xs ∧ ∀ p, H p = none → Q (.ref p) (upd H p (.lst xs.reverse))))
theorem vals_reverse : ∀ {xs : List V} {us : List Value}, Vals xs us → Vals xs.reverse us.reverse
  | [], _, r => by
    cases r
    exact .nil
  | x :: xs, _, r => by
    cases r with
    | cons r1 r2 =>
      rw [List.reverse_cons, List.reverse_cons]
      exact (vals_reverse r2).append (.cons r1 .nil)
section
variable {X : Cx} {W : WX} {e stp : Expr} {ma mb : EM} {pos p2 : Pos}
theorem pe_rev {te ts : TE} (he : PE X e te) (hs : PE X stp ts) (hsub : ∀ a sl : Addr, ∃ ops, subscripted (.Slice none none (some stp) p2) false (.ref a) (.ref sl) = operate ops (getItem (.ref a) (.ref sl))) : PE X (.Subscript e (.Slice none none (some stp) p2) pos) (fun σ H Q => te σ H fun x H1 => ts σ H1 fun y H2 => rRev X.K x y H2 Q) := by
  refine ⟨fun pins s σ H Q I h => ?_⟩
  refine Subscript_ (thn (he.run pins s σ H _ I h) fun v s1 ⟨x, H1, I1, r1, q1⟩ => ?_)
  refine wpAny_Slice ?_
  rw [evalPart_none]
  refine wpAny_pure ?_
  refine wpAny_pure ?_
  rw [evalPart_some]
  refine thn (hs.run pins s1 σ H1 _ I1 q1) fun vs s3 ⟨y, H3, I3, r3, q3⟩ => ?_
  obtain ⟨a, xs, rfl, rfl, q⟩ := q3
  cases r1
  obtain ⟨u, rfl⟩ := r3
  have I4 : Inv X pins σ H3 { s3 with heap := s3.heap.push { cls := .type "slice", data := .fields #[.none, .none, .int (-1) u] } } := I3.kept (t' := s3.toks) fun b ob q => Heap.get?_push_of_some _ q
  have hsl := Heap.IsSliceOf.new s3.heap .none .none (.int (-1) u)
  show wpAny (model X.prog X.w) X.A (subscriptTail e (.Slice none none (some stp) p2) (.ref a) (.ref s3.heap.objs.size)) (EP X pins σ Q) X.xe { s3 with heap := s3.heap.push { cls := .type "slice", data := .fields #[.none, .none, .int (-1) u] } }
  obtain ⟨ops, hops⟩ := hsub a s3.heap.objs.size
  rcases q with ⟨hT, q⟩ | ⟨hL, q⟩
  · obtain ⟨its, r, ht, hz⟩ := I4.tuple hT
    have hlen : its.toArray.size = xs.length := by rw [List.size_toArray]; exact r.length.symm
    refine tail_any (ops := ops) (IsTup.typeIs ht) PyProof.Rows.slot_tuple_getitem.lookup ?_ hops
    refine getItem_tuple_rev ht hsl ?_ (by rw [hlen]; exact hz)
    refine ⟨.ref _, _, I4.laid (t' := s3.toks) (o := .tup xs.reverse) (fun b ob q => Heap.get?_push_of_some _ q) (Nat.le_refl _) ?_, rfl, q _ (I4.hok.fresh (Nat.le_refl _))⟩
    exact ⟨by rw [List.length_reverse]; exact hz, _, vals_reverse r, IsTup.new _ _⟩
  · obtain ⟨its, r, hp, hz⟩ := I4.list hL
    have hlen : its.toArray.size = xs.length := by rw [List.size_toArray]; exact r.length.symm
    refine tail_any (ops := ops) hp.isList.typeIs PySem.list_getitem_lookup ?_ hops
    refine PySem.wpAny_getItem_list_slice hp.isList hsl .none .none (.int (-1) u) (by decide) ?_ (by rw [hlen]; exact hz)
    rw [PySem.W.krv_pick]
    refine ⟨.ref _, _, I4.laid (t' := s3.toks) (o := .lst xs.reverse) (fun b ob q => Heap.get?_push_of_some _ q) (Nat.le_refl _) ?_, rfl, q _ (I4.hok.fresh (Nat.le_refl _))⟩
    exact ⟨by rw [List.length_reverse]; exact hz, its.reverse, 0, vals_reverse r, by rw [Heap.get?_push_size _ rfl]⟩
def revD (b : Bool) (x : D) (st : Store) : Re D := match x with
  | .tup ds => .ok (.tup ds.reverse) st
  | x => opt (lstOf st x) fun ds => mkNew b ds.reverse st
theorem revD_cases (b : Bool) (x : D) (st : Store) : (∃ ds, x = .tup ds ∧ revD b x st = .ok (.tup ds.reverse) st) ∨ revD b x st = opt (lstOf st x) fun ds => mkNew b ds.reverse st := by
  cases x with
  | tup ds => exact .inl ⟨_, rfl, rfl⟩
  | _ => exact .inr rfl
def revQ (b : Bool) (x y : D) (st : Store) : Re D := match y with
  | .int i => if i = -1 then revD b x st else .bad
  | _ => .bad
theorem reps_reverse {K : PySem.W.Frag} {μ : List Addr} {G : Hp} : ∀ {ds : List D} {vs : List V}, Reps K μ G ds vs → Reps K μ G ds.reverse vs.reverse
  | [], vs, h => by
    rw [reps_nil h]
    exact .nil
  | d :: ds, vs, h => by
    obtain ⟨v, r, rfl, hv, t⟩ := reps_cons h
    rw [List.reverse_cons, List.reverse_cons]
    exact (reps_reverse t).append (.cons hv .nil)
theorem s_rev (b : Bool) : S2 X.K X.mg (revQ b) (rRev X.K) := by
  intro W σ μ G F st H x y v w Q k rx ry h
  unfold revQ at h
  split at h
  · obtain ⟨e, h2⟩ := ite_done h
    clear h
    subst e
    rw [rep_int ry]
    rcases revD_cases b x st with ⟨us, rfl, e⟩ | e
    · rw [e] at h2
      obtain ⟨a, vs, rfl, ha, ru⟩ := rep_tup rx
      exact ⟨a, vs, rfl, rfl, .inl ⟨k.ex.sqt ha, new_tup k (reps_reverse ru) h2⟩⟩
    · rw [e] at h2
      obtain ⟨us, e, h3⟩ := opt_done h2
      obtain ⟨a, vs, rfl, ha, ru⟩ := lstOf_rep k rx e
      exact ⟨a, vs, rfl, rfl, .inr ⟨.of ha, new_list k (reps_reverse ru) h3⟩⟩
  · exact h.elim
theorem m_rev (b : Bool) (ha : ME X W e ma) (hb : ME X W stp mb) (hsub : ∀ a sl : Addr, ∃ ops, subscripted (.Slice none none (some stp) p2) false (.ref a) (.ref sl) = operate ops (getItem (.ref a) (.ref sl)) := by intro a sl; exact ⟨_, by with_unfolding_all rfl⟩) : ME X W (.Subscript e (.Slice none none (some stp) p2) pos) (e2 (revQ b) ma mb) := (pe_rev ha hb hsub).of (two_of (s_rev b) ha hb)
end
@[simp] theorem revQ_tup {b : Bool} {ds : List D} {st : Store} : revQ b (.tup ds) (.int (-1)) st = .ok (.tup ds.reverse) st := rfl
@[simp] theorem revQ_lst {b : Bool} {ds : List D} {st : Store} : revQ b (.lst ds) (.int (-1)) st = mkNew b ds.reverse st := rfl
@[simp] theorem revQ_loc {b : Bool} {n : Nat} {st : Store} : revQ b (.loc n) (.int (-1)) st = opt (lstAt st n) fun ds => mkNew b ds.reverse st := rfl
end Dn
/-! x < y of like data; zip of two tuples or two lists -/
namespace Dn
open PySem PySem.Spec PyProof PyProof.Rows L2
def rLtDt (K : PySem.W.Frag) : R2 := fun x y H Q => ∃ d e, Dp K H x d ∧ Dp K H y e ∧ PySem.W.alike d e = true ∧ d ≠ .none ∧ d.depth ≤ 40 ∧ Q (.bl (PySem.W.dataLt d e)) H
theorem op_ltDt {X : Cx} (hu : X.A.units + 64 < cLine) : OpR X (compareOp .Lt) (rLtDt X.K) := by
  intro pins s σ H x y v u Q I rx ry h
  obtain ⟨d, e, hd, he, ha, hn, hz, q⟩ := h
  obtain ⟨as, r1⟩ := Dp.reads I d x v hd rx
  obtain ⟨bs, r2⟩ := Dp.reads I e y u he ry
  exact PySem.W.rcLt_alike d e X.A s v u as bs r1 r2 ha hn (by omega) _ _ _ _ ⟨.bl _, H, I, rfl, q⟩
abbrev rLtQ (K : PySem.W.Frag) : R2 := fun x y H Q => rLtA x y H Q ∨ rLtDt K x y H Q
theorem or_ltQ {X : Cx} (hu : X.A.units + 64 < cLine) : OpR X (compareOp .Lt) (rLtQ X.K) := or_lt.or (op_ltDt hu)
def ltQ (x y : D) (st : Store) : Re D := if (okd 40 x && (okd 40 y && (PySem.W.alike (pd x) (pd y) && (notNon x && notNon y)))) = true then .ok (.bl (ltDt x y)) st else .bad
theorem notNon_pd {x : D} (h : notNon x = true) (hk : okd 40 x = true) : pd x ≠ .none := by
  cases x with
  | non => cases h
  | loc n => cases hk
  | exn a b c => cases hk
  | frz ds => simp [okd] at hk
  | _ => intro e; simp [pd] at e
theorem s_ltQ {K : PySem.W.Frag} {mg : Str → Option Value} : S2 K mg ltQ (rLtQ K) := by
  intro W σ μ G F st H x y v w Q k rx ry h
  obtain ⟨hc, h⟩ := ite_done h
  simp only [Bool.and_eq_true] at hc
  obtain ⟨h1, h2, h3, h4, h5⟩ := hc
  exact .inr ⟨_, _, rep_dp k.ex 40 x v h1 rx, rep_dp k.ex 40 y w h2 ry, h3, notNon_pd h4 h1, (okd_shape 40 x h1).2, fin_here k h .bl⟩
/-! zip -/
def zipP (xs ys : List D) : List D := (xs.zip ys).map fun p => D.tup [p.1, p.2]
theorem zipP_length {xs ys : List D} : (zipP xs ys).length = min xs.length ys.length := by simp [zipP]
theorem zipP_get {xs ys : List D} {i : Nat} {d : D} (h : (zipP xs ys)[i]? = some d) : ∃ x y, xs[i]? = some x ∧ ys[i]? = some y ∧ d = .tup [x, y] := by
  unfold zipP at h
  rw [List.getElem?_map] at h
  cases e : (xs.zip ys)[i]? with
  | none => rw [e] at h; cases h
  | some p =>
    rw [e] at h
    obtain ⟨h1, h2⟩ := List.getElem?_zip_eq_some.mp e
    exact ⟨p.1, p.2, h1, h2, by simpa using h.symm⟩
def isTupD : D → Bool
  | .tup _ => true
  | _ => false
theorem grdL_app {st : Store} {a b : List (Nat × Ob)} (h : grdL st (a ++ b)) : grdL st a ∧ grdL st b := by
  induction a with
  | nil => exact ⟨trivial, h⟩
  | cons p a ih =>
    obtain ⟨h1, h2⟩ := h
    obtain ⟨h3, h4⟩ := ih h2
    exact ⟨⟨h1, h3⟩, h4⟩
theorem its_tup {K : PySem.W.Frag} {mg : Str → Option Value} {μ1 : List Addr} {G1 F1 : Hp} {st1 : Store} {H1 : Hp} {x : D} {v : V} {it : Its} (k1 : Kn K mg μ1 G1 F1 st1 H1) (rv : Rep K μ1 G1 x v) (e : itsOf st1 x = some it) (ht : isTupD x = true) :
    ∃ a, v = .ref a ∧ (∃ xs, SqT K H1 a xs) ∧ ∀ μ2 G2 F2 st2 H2, Fut μ1 G1 μ2 G2 → Kn K mg μ2 G2 F2 st2 H2 → grd it st2 → ∃ xs, SqT K H2 a xs ∧ Reps K μ2 G2 it.1 xs := by
  cases x with
  | tup ds =>
    injection e with e
    subst e
    obtain ⟨a, vs', rfl, hs, rs⟩ := rep_tup rv
    exact ⟨a, rfl, ⟨vs', k1.ex.sqt hs⟩, fun μ2 G2 F2 st2 H2 f2 k2 _ => ⟨vs', k2.ex.sqt (f2.ex.sqt hs), rs.fut f2⟩⟩
  | _ => cases ht
theorem its_lst {K : PySem.W.Frag} {mg : Str → Option Value} {μ1 : List Addr} {G1 F1 : Hp} {st1 : Store} {H1 : Hp} {x : D} {v : V} {it : Its} (k1 : Kn K mg μ1 G1 F1 st1 H1) (rv : Rep K μ1 G1 x v) (e : itsOf st1 x = some it) (ht : isTupD x = false) :
    ∃ a, v = .ref a ∧ (∃ xs, SqL K H1 a xs) ∧ ∀ μ2 G2 F2 st2 H2, Fut μ1 G1 μ2 G2 → Kn K mg μ2 G2 F2 st2 H2 → grd it st2 → ∃ xs, SqL K H2 a xs ∧ Reps K μ2 G2 it.1 xs := by
  cases x with
  | tup ds => cases ht
  | lst ds =>
    injection e with e
    subst e
    obtain ⟨a, vs', rfl, hs, rs⟩ := rep_lst rv
    exact ⟨a, rfl, ⟨vs', .of (k1.ex _ _ hs)⟩, fun μ2 G2 F2 st2 H2 f2 k2 _ => ⟨vs', .of (k2.ex _ _ (f2.ex _ _ hs)), rs.fut f2⟩⟩
  | frz ds =>
    injection e with e
    subst e
    obtain ⟨a, vs', rfl, hs, rs⟩ := rep_frz rv
    exact ⟨a, rfl, ⟨vs', k1.ex.sql hs⟩, fun μ2 G2 F2 st2 H2 f2 k2 _ => ⟨vs', k2.ex.sql (f2.ex.sql hs), rs.fut f2⟩⟩
  | loc n =>
    unfold itsOf at e
    cases hc : lstAt st1 n with
    | none => simp only [hc] at e; cases e
    | some ds =>
      simp only [hc] at e
      injection e with e
      subst e
      obtain ⟨a, rfl, ha⟩ := rep_loc rv
      obtain ⟨a', vs', e', hs, rs⟩ := lstOf_rep (ds := ds) k1 rv hc
      cases e'
      refine ⟨a, rfl, ⟨vs', .of hs⟩, fun μ2 G2 F2 st2 H2 f2 k2 g2 => ?_⟩
      obtain ⟨a2, vs2, e2, hs2, rs2⟩ := lstOf_rep (d := .loc n) (ds := ds) k2 (.loc (f2.at ha)) (lstAt_of g2.1)
      cases e2
      exact ⟨vs2, .of hs2, rs2⟩
  | _ => cases e
def zipI (x y : D) (st : Store) : Re Its := match itsOf st x, itsOf st y with
  | some a, some b => if isTupD x = isTupD y then .ok (zipP a.1 b.1, a.2 ++ b.2) st else .bad
  | _, _ => .bad
def iZp (m : EMs) : IM := fun vs st => (m vs st).bind fun xs st => match xs with
  | [x, y] => zipI x y st
  | _ => .bad
section
variable {X : Cx} {W : WX} {e e2 : Expr} {elts : List Expr} {kk : Nat} {ms : EMs} {p pos tpos : Pos}
theorem i_zp (hm : X.mg "zip" = none) (ha : MA X W [e, e2] ms) (hms : ALen ms 2 := by repeat constructor) (hg : Gl X "zip" := by rfl)
    (hs : starEach [e, e2] X.env = (false, eval e X.env) :: starEach [e2] X.env := by rfl) (hpl : (backTo pos (starEach [e2] X.env)).any (·.1) = false := by rfl) :
    MI X W (.Tuple elts kk tpos) (.Call (.Name "zip" p) [e, e2] [] pos) (iZp ms) := (RZ.pi_zipA hg hm ha hs hpl).of fun σ H R h => by
  obtain ⟨vs, st, μ, G, F, re, k, h⟩ := h
  unfold iZp at h
  cases hd : ms vs st with
  | bad => rw [hd] at h; exact h.elim
  | exc ex st1 => rw [hd] at h; exact ⟨vs, st, μ, G, F, re, k, by rw [hd]; exact h⟩
  | ok ds st1 =>
    rw [hd] at h
    refine ⟨vs, st, μ, G, F, re, k, ?_⟩
    rw [hd]
    intro μ1 G1 H1 f1 k1 ws rws
    have hl := hms.len hd
    have h1 := Done.fut f1 h
    obtain ⟨d, d', rfl⟩ : ∃ d d', ds = [d, d'] := by
      match ds, hl with
      | [d, d'], _ => exact ⟨d, d', rfl⟩
    obtain ⟨v, w, rfl, rv, rw'⟩ := reps_two rws
    simp only [Re.bind] at h1
    unfold zipI at h1
    cases hi : itsOf st1 d with
    | none => simp only [hi] at h1; exact h1.elim
    | some it =>
      cases hi2 : itsOf st1 d' with
      | none => simp only [hi, hi2] at h1; exact h1.elim
      | some it2 =>
        simp only [hi, hi2] at h1
        obtain ⟨hk, h1⟩ := ite_done' h1
        obtain ⟨g, q⟩ := Done.here k1 h1
        cases ht : isTupD d with
        | true =>
          obtain ⟨a, rfl, ⟨xs0, hx0⟩, hq⟩ := its_tup k1 rv hi ht
          obtain ⟨b, rfl, ⟨ys0, hy0⟩, hq2⟩ := its_tup k1 rw' hi2 (by rw [← hk]; exact ht)
          refine ⟨a, b, xs0, ys0, rfl, .inr ⟨hx0, hy0, q _ fun μ2 G2 F2 st2 H2 f2 k2 g2 => ?_⟩⟩
          obtain ⟨g21, g22⟩ := grdL_app g2
          obtain ⟨xs, hx, rx⟩ := hq μ2 G2 F2 st2 H2 f2 k2 g21
          obtain ⟨ys, hy, ry⟩ := hq2 μ2 G2 F2 st2 H2 f2 k2 g22
          refine ⟨⟨xs, ys, hx, hy, ?_⟩, fun i d hd => ?_⟩
          · have e1 := rx.length
            have e2 := ry.length
            have e3 := zipP_length (xs := it.1) (ys := it2.1)
            show xs.length ≤ (zipP it.1 it2.1).length ∨ ys.length ≤ (zipP it.1 it2.1).length
            omega
          · obtain ⟨x, y, h1', h2', rfl⟩ := zipP_get hd
            obtain ⟨u, hu, ru⟩ := rx.get h1'
            obtain ⟨u2, hu2, ru2⟩ := ry.get h2'
            refine ⟨⟨xs, ys, u, u2, hx, hy, hu, hu2⟩, fun z H3 hz => ?_⟩
            obtain ⟨T, x', y', rfl, hT, rfl, hall, hall2⟩ := hz
            have q1 := hall xs hx
            have q2 := hall2 ys hy
            rw [hu] at q1
            rw [hu2] at q2
            cases q1
            cases q2
            exact pair_new k2 hT (.cons ru (.cons ru2 .nil))
        | false =>
          obtain ⟨a, rfl, ⟨xs0, hx0⟩, hq⟩ := its_lst k1 rv hi ht
          obtain ⟨b, rfl, ⟨ys0, hy0⟩, hq2⟩ := its_lst k1 rw' hi2 (by rw [← hk]; exact ht)
          refine ⟨a, b, xs0, ys0, rfl, .inl ⟨hx0, hy0, q _ fun μ2 G2 F2 st2 H2 f2 k2 g2 => ?_⟩⟩
          obtain ⟨g21, g22⟩ := grdL_app g2
          obtain ⟨xs, hx, rx⟩ := hq μ2 G2 F2 st2 H2 f2 k2 g21
          obtain ⟨ys, hy, ry⟩ := hq2 μ2 G2 F2 st2 H2 f2 k2 g22
          refine ⟨⟨xs, ys, hx, hy, ?_⟩, fun i d hd => ?_⟩
          · have e1 := rx.length
            have e2 := ry.length
            have e3 := zipP_length (xs := it.1) (ys := it2.1)
            show xs.length ≤ (zipP it.1 it2.1).length ∨ ys.length ≤ (zipP it.1 it2.1).length
            omega
          · obtain ⟨x, y, h1', h2', rfl⟩ := zipP_get hd
            obtain ⟨u, hu, ru⟩ := rx.get h1'
            obtain ⟨u2, hu2, ru2⟩ := ry.get h2'
            refine ⟨⟨xs, ys, u, u2, hx, hy, hu, hu2⟩, fun z H3 hz => ?_⟩
            obtain ⟨T, x', y', rfl, hT, rfl, hall, hall2⟩ := hz
            have q1 := hall xs hx
            have q2 := hall2 ys hy
            rw [hu] at q1
            rw [hu2] at q2
            cases q1
            cases q2
            exact pair_new k2 hT (.cons ru (.cons ru2 .nil))
end
@[simp] theorem iZp_eq {ms : EMs} {vs : Vars} {st : Store} : iZp ms vs st = (ms vs st).bind fun xs st => match xs with
  | [x, y] => zipI x y st
  | _ => .bad := rfl
@[simp] theorem zipI_tup {xs ys : List D} {st : Store} : zipI (.tup xs) (.tup ys) st = .ok (zipP xs ys, []) st := rfl
theorem exms_cons {K : PySem.W.Frag} {mg : Str → Option Value} {c x : Str} {l : List Str} (h : ExmT K mg c x) (r : ∀ c' ∈ l, ExmT K mg c' x) : ∀ c' ∈ c :: l, ExmT K mg c' x := fun c' h' => by
  rcases List.mem_cons.mp h' with rfl | h'
  · exact h
  · exact r c' h'
end Dn
namespace Lk72
open PySem PySem.Spec PyProof.Rows L2 Dn
def topS (i : Nat) : Stmt := PySem.Challenge.pw_callsheets_k72_days_of_courses.main.body.getD i (.Pass ⟨0, 0, 0, 0⟩)
def d_MEAL : D := (.int (-1))
def d_DAY : D := (.int 1440)
def d_NO_REST : D := (.int 9999)
def d_HALF_HOUR : D := (.int 30)
def d_IDLE : D := (.tup [(.int (-1)), (.int 0)])
def d_MOST_LAB : D := (.int 9)
def d_MOST_MINUTES : D := (.int 999)
def t_FIGURES : List Str := ["call", "wrap", "span", "work", "rest", "row", "dark", "stretch", "scenes"]
def clsB : Stmt → List Stmt
  | .ClassDef _ _ _ b _ _ _ _ _ _ _ => b
  | _ => []
def methS (i j : Nat) : Stmt := (clsB (topS i)).getD j (.Pass ⟨0, 0, 0, 0⟩)
def fldT : Flds := [("Clock", ["film", "minute", "place", "rows"])]
@[simp] theorem hf_Clock_film : hasF fldT "Clock" "film" = true := by decide +kernel
@[simp] theorem hf_Clock_minute : hasF fldT "Clock" "minute" = true := by decide +kernel
@[simp] theorem hf_Clock_place : hasF fldT "Clock" "place" = true := by decide +kernel
@[simp] theorem hf_Clock_rows : hasF fldT "Clock" "rows" = true := by decide +kernel
structure Zs (P : Program) (K : PySem.W.Frag) (mg : Str → Option Value) : Prop where
  abs : mg "abs" = none
  all : mg "all" = none
  any : mg "any" = none
  enumerate : mg "enumerate" = none
  int : mg "int" = none
  len : mg "len" = none
  list : mg "list" = none
  max : mg "max" = none
  min : mg "min" = none
  range : mg "range" = none
  sorted : mg "sorted" = none
  str : mg "str" = none
  sum : mg "sum" = none
  tuple : mg "tuple" = none
  zip : mg "zip" = none
  c_MEAL : Cst K mg "MEAL" d_MEAL
  c_DAY : Cst K mg "DAY" d_DAY
  c_NO_REST : Cst K mg "NO_REST" d_NO_REST
  c_HALF_HOUR : Cst K mg "HALF_HOUR" d_HALF_HOUR
  c_IDLE : Cst K mg "IDLE" d_IDLE
  c_MOST_LAB : Cst K mg "MOST_LAB" d_MOST_LAB
  c_MOST_MINUTES : Cst K mg "MOST_MINUTES" d_MOST_MINUTES
  t_FIGURES : CstT K mg "FIGURES" t_FIGURES
  fl : FldsT K mg fldT
  x_CaseError : ErrT P K mg "CaseError"
  x_StockError : ErrT P K mg "StockError"
  y0 : ExmsT K mg ["CaseError", "StockError"] "StockError"
abbrev s_ascends : Stmt := topS 5
theorem sc_ascends : FnScope ["row", "one", "other"] ["row"] (defScope s_ascends) := ⟨rfl, rfl, rfl, by decide +kernel, rfl, by decide +kernel, by decide +kernel⟩
abbrev s_Clock_init : Stmt := methS 9 0
theorem sc_Clock_init : FnScope ["self", "film", "minute"] ["self", "film", "minute"] (defScope s_Clock_init) := ⟨rfl, rfl, rfl, by decide +kernel, rfl, by decide +kernel, by decide +kernel⟩
abbrev s_Clock_take : Stmt := methS 9 1
theorem sc_Clock_take : FnScope ["self", "item", "minutes"] ["self", "item", "minutes"] (defScope s_Clock_take) := ⟨rfl, rfl, rfl, by decide +kernel, rfl, by decide +kernel, by decide +kernel⟩
abbrev s_Clock_shoot : Stmt := methS 9 2
theorem sc_Clock_shoot : FnScope ["self", "scene", "_", "place", "minutes"] ["self", "scene"] (defScope s_Clock_shoot) := ⟨rfl, rfl, rfl, by decide +kernel, rfl, by decide +kernel, by decide +kernel⟩
abbrev s_hours : Stmt := topS 10
theorem sc_hours : FnScope ["film", "sheet", "shot", "news", "weather", "ill", "late", "clock", "fallen", "item"] ["film", "sheet", "shot", "news"] (defScope s_hours) := ⟨rfl, rfl, rfl, by decide +kernel, rfl, by decide +kernel, by decide +kernel⟩
abbrev s_compared : Stmt := topS 12
theorem sc_compared : FnScope ["number", "sign", "other"] ["number", "sign", "other"] (defScope s_compared) := ⟨rfl, rfl, rfl, by decide +kernel, rfl, by decide +kernel, by decide +kernel⟩
abbrev s_holds : Stmt := topS 15
theorem sc_holds : FnScope ["condition", "figures", "kind", "first"] ["condition", "figures"] (defScope s_holds) := ⟨rfl, rfl, rfl, by decide +kernel, rfl, by decide +kernel, by decide +kernel⟩
abbrev s_is_for : Stmt := topS 16
theorem sc_is_for : FnScope ["film", "who", "actor"] ["film", "who", "actor"] (defScope s_is_for) := ⟨rfl, rfl, rfl, by decide +kernel, rfl, by decide +kernel, by decide +kernel⟩
abbrev s_broken : Stmt := topS 17
theorem sc_broken : FnScope ["film", "rules", "actor", "figures", "found", "k", "_", "who", "condition"] ["film", "rules", "actor", "figures"] (defScope s_broken) := ⟨rfl, rfl, rfl, by decide +kernel, rfl, by decide +kernel, by decide +kernel⟩
abbrev s_is_there : Stmt := topS 19
theorem sc_is_there : FnScope ["calendar", "actor", "day", "one", "first", "last"] ["calendar", "actor", "day"] (defScope s_is_there) := ⟨rfl, rfl, rfl, by decide +kernel, rfl, by decide +kernel, by decide +kernel⟩
abbrev s_is_open : Stmt := topS 20
theorem sc_is_open : FnScope ["calendar", "place", "day", "one", "first", "last"] ["calendar", "place", "day"] (defScope s_is_open) := ⟨rfl, rfl, rfl, by decide +kernel, rfl, by decide +kernel, by decide +kernel⟩
abbrev s_dark_minutes : Stmt := topS 23
theorem sc_dark_minutes : FnScope ["light", "dark", "begin", "end"] ["light", "dark", "begin", "end"] (defScope s_dark_minutes) := ⟨rfl, rfl, rfl, by decide +kernel, rfl, by decide +kernel, by decide +kernel⟩
abbrev s_longest_stretch : Stmt := topS 24
theorem sc_longest_stretch : FnScope ["rows", "call", "wrap", "longest", "start", "item", "begin", "end"] ["rows", "call", "wrap"] (defScope s_longest_stretch) := ⟨rfl, rfl, rfl, by decide +kernel, rfl, by decide +kernel, by decide +kernel⟩
abbrev s_figures_of : Stmt := topS 25
theorem sc_figures_of : FnScope ["film", "calendar", "day", "rows", "actor", "before", "own", "item", "begin", "end", "call", "wrap", "light", "dark", "is_on", "rest"] ["film", "calendar", "day", "rows", "actor", "before"] (defScope s_figures_of) := ⟨rfl, rfl, rfl, by decide +kernel, rfl, by decide +kernel, by decide +kernel⟩
abbrev s_is_lit : Stmt := topS 26
theorem sc_is_lit : FnScope ["light", "ends", "begin", "end"] ["light", "ends", "begin", "end"] (defScope s_is_lit) := ⟨rfl, rfl, rfl, by decide +kernel, rfl, by decide +kernel, by decide +kernel⟩
abbrev s_scene_break : Stmt := topS 27
theorem sc_scene_break : FnScope ["film", "calendar", "day", "row", "done", "is_rain", "scene", "begin", "end", "_", "place", "light", "is_dry", "cast", "actor", "first", "second"] ["film", "calendar", "day", "row", "done", "is_rain"] (defScope s_scene_break) := ⟨rfl, rfl, rfl, by decide +kernel, rfl, by decide +kernel, by decide +kernel⟩
abbrev s_rule_break : Stmt := topS 28
theorem sc_rule_break : FnScope ["film", "calendar", "rules", "day", "rows", "befores", "actor", "figures", "found"] ["film", "calendar", "rules", "day", "rows", "befores"] (defScope s_rule_break) := ⟨rfl, rfl, rfl, by decide +kernel, rfl, by decide +kernel, by decide +kernel⟩
abbrev s_rows_break : Stmt := topS 29
theorem sc_rows_break : FnScope ["film", "calendar", "rules", "day", "rows", "shot", "befores", "is_rain", "done", "row", "found"] ["film", "calendar", "rules", "day", "rows", "shot", "befores", "is_rain"] (defScope s_rows_break) := ⟨rfl, rfl, rfl, by decide +kernel, rfl, by decide +kernel, by decide +kernel⟩
abbrev s_day_cost : Stmt := topS 32
theorem sc_day_cost : FnScope ["fee", "span", "total", "base", "pay"] ["fee", "span"] (defScope s_day_cost) := ⟨rfl, rfl, rfl, by decide +kernel, rfl, by decide +kernel, by decide +kernel⟩
abbrev s_first_stand : Stmt := topS 35
theorem sc_first_stand : FnScope ["case"] ["case"] (defScope s_first_stand) := ⟨rfl, rfl, rfl, by decide +kernel, rfl, by decide +kernel, by decide +kernel⟩
abbrev s_is_through : Stmt := topS 36
theorem sc_is_through : FnScope ["case", "stand"] ["case", "stand"] (defScope s_is_through) := ⟨rfl, rfl, rfl, by decide +kernel, rfl, by decide +kernel, by decide +kernel⟩
abbrev s_used_by : Stmt := topS 37
theorem sc_used_by : FnScope ["nature", "weather", "ill", "late"] ["nature"] (defScope s_used_by) := ⟨rfl, rfl, rfl, by decide +kernel, rfl, by decide +kernel, by decide +kernel⟩
abbrev s_may_choose : Stmt := topS 38
theorem sc_may_choose : FnScope ["case", "stand", "nature", "bounds", "weather", "ill", "late", "used", "k"] ["case", "stand", "nature"] (defScope s_may_choose) := ⟨rfl, rfl, rfl, by decide +kernel, rfl, by decide +kernel, by decide +kernel⟩
abbrev s_natures : Stmt := topS 39
theorem sc_natures : FnScope ["case", "stand", "found", "weather", "ill", "late", "keyed", "nature", "_"] ["case", "stand"] (defScope s_natures) := ⟨rfl, rfl, rfl, by decide +kernel, rfl, by decide +kernel, by decide +kernel⟩
abbrev s_check_step : Stmt := topS 40
theorem sc_check_step : FnScope ["case", "stand", "number"] ["case", "stand", "number"] (defScope s_check_step) := ⟨rfl, rfl, rfl, by decide +kernel, rfl, by decide +kernel, by decide +kernel⟩
abbrev s_step : Stmt := topS 41
theorem sc_step : FnScope ["case", "stand", "number", "nature", "film", "calendar", "rules", "menu", "_", "fees", "day", "shot", "befores", "used", "rows", "found", "after", "row", "scene", "cost", "rests", "actor", "figures", "more", "k"] ["case", "stand", "number", "nature"] (defScope s_step) := ⟨rfl, rfl, rfl, by decide +kernel, rfl, by decide +kernel, by decide +kernel⟩
abbrev s_run : Stmt := topS 43
theorem sc_run : FnScope ["case", "course", "stands", "total", "number", "nature", "found"] ["case", "course"] (defScope s_run) := ⟨rfl, rfl, rfl, by decide +kernel, rfl, by decide +kernel, by decide +kernel⟩
abbrev s_put_in_order : Stmt := topS 46
theorem sc_put_in_order : FnScope ["takes", "roll", "found", "number", "left", "take"] ["takes", "roll"] (defScope s_put_in_order) := ⟨rfl, rfl, rfl, by decide +kernel, rfl, by decide +kernel, by decide +kernel⟩
abbrev s_check_lab : Stmt := topS 49
theorem sc_check_lab : FnScope ["lab"] ["lab"] (defScope s_check_lab) := ⟨rfl, rfl, rfl, by decide +kernel, rfl, by decide +kernel, by decide +kernel⟩
abbrev s_check_scenes : Stmt := topS 50
theorem sc_check_scenes : FnScope ["case", "sequence", "right"] ["case", "sequence"] (defScope s_check_scenes) := ⟨rfl, rfl, rfl, by decide +kernel, rfl, by decide +kernel, by decide +kernel⟩
abbrev s_shot_days : Stmt := topS 51
theorem sc_shot_days : FnScope ["case", "course", "stands", "found", "before", "after", "scene"] ["case", "course"] (defScope s_shot_days) := ⟨rfl, rfl, rfl, by decide +kernel, rfl, by decide +kernel, by decide +kernel⟩
abbrev s_back_days : Stmt := topS 52
theorem sc_back_days : FnScope ["case", "course", "lab", "day"] ["case", "course", "lab"] (defScope s_back_days) := ⟨rfl, rfl, rfl, by decide +kernel, rfl, by decide +kernel, by decide +kernel⟩
abbrev s_cut_day : Stmt := topS 53
theorem sc_cut_day : FnScope ["case", "course", "sequence", "lab", "days", "own", "scene"] ["case", "course", "sequence", "lab"] (defScope s_cut_day) := ⟨rfl, rfl, rfl, by decide +kernel, rfl, by decide +kernel, by decide +kernel⟩
abbrev s_check_roll : Stmt := topS 54
theorem sc_check_roll : FnScope ["case", "roll", "scene"] ["case", "roll"] (defScope s_check_roll) := ⟨rfl, rfl, rfl, by decide +kernel, rfl, by decide +kernel, by decide +kernel⟩
abbrev s_day_rolls : Stmt := topS 55
theorem sc_day_rolls : FnScope ["case", "stand", "number", "nature", "roll", "rows", "takes", "row"] ["case", "stand", "number", "nature", "roll"] (defScope s_day_rolls) := ⟨rfl, rfl, rfl, by decide +kernel, rfl, by decide +kernel, by decide +kernel⟩
abbrev s_rolls_of : Stmt := topS 56
theorem sc_rolls_of : FnScope ["case", "course", "roll", "stands", "rolls", "stand", "number", "nature"] ["case", "course", "roll"] (defScope s_rolls_of) := ⟨rfl, rfl, rfl, by decide +kernel, rfl, by decide +kernel, by decide +kernel⟩
abbrev s_law_begin : Stmt := topS 58
theorem sc_law_begin : FnScope ["script", "seed", "cell"] ["script"] (defScope s_law_begin) := ⟨rfl, rfl, rfl, by decide +kernel, rfl, by decide +kernel, by decide +kernel⟩
abbrev s_law_take : Stmt := topS 59
theorem sc_law_take : FnScope ["d", "many", "small", "digit"] ["d", "many"] (defScope s_law_take) := ⟨rfl, rfl, rfl, by decide +kernel, rfl, by decide +kernel, by decide +kernel⟩
abbrev s_law_some : Stmt := topS 60
theorem sc_law_some : FnScope ["d", "many", "k"] ["d", "many"] (defScope s_law_some) := ⟨rfl, rfl, rfl, by decide +kernel, rfl, by decide +kernel, by decide +kernel⟩
abbrev s_law_film : Stmt := topS 61
theorem sc_law_film : FnScope ["d", "scenes", "actors", "places", "rows", "k", "orders"] ["d", "scenes"] (defScope s_law_film) := ⟨rfl, rfl, rfl, by decide +kernel, rfl, by decide +kernel, by decide +kernel⟩
abbrev s_law_sheet : Stmt := topS 62
theorem sc_law_sheet : FnScope ["d", "scenes", "whole", "full", "dry", "rain"] ["d", "scenes", "whole"] (defScope s_law_sheet) := ⟨rfl, rfl, rfl, by decide +kernel, rfl, by decide +kernel, by decide +kernel⟩
abbrev s_law_case : Stmt := topS 63
theorem sc_law_case : FnScope ["d", "days", "scenes", "film", "menu", "k", "rows", "j", "bounds", "fees"] ["d", "days"] (defScope s_law_case) := ⟨rfl, rfl, rfl, by decide +kernel, rfl, by decide +kernel, by decide +kernel⟩
abbrev s_law_course : Stmt := topS 66
theorem sc_law_course : FnScope ["d", "case", "stand", "course", "number", "all_natures", "nature", "told"] ["d", "case"] (defScope s_law_course) := ⟨rfl, rfl, rfl, by decide +kernel, rfl, by decide +kernel, by decide +kernel⟩
abbrev s_law_asked : Stmt := topS 67
theorem sc_law_asked : FnScope ["kind", "case", "course", "sequence", "number", "e"] ["kind", "case", "course", "sequence", "number"] (defScope s_law_asked) := ⟨rfl, rfl, rfl, by decide +kernel, rfl, by decide +kernel, by decide +kernel⟩
abbrev s_law_rolls : Stmt := topS 68
theorem sc_law_rolls : FnScope ["case", "stand", "number", "nature", "roll", "rows", "used", "left", "item", "begin", "end", "minutes"] ["case", "stand", "number", "nature", "roll"] (defScope s_law_rolls) := ⟨rfl, rfl, rfl, by decide +kernel, rfl, by decide +kernel, by decide +kernel⟩
abbrev s_law : Stmt := topS 69
theorem sc_law : FnScope ["script", "d", "case", "scenes", "course", "stands", "days", "k", "scene", "lab", "due", "day", "sequence", "own", "longest", "roll", "rolls", "kind", "row", "number", "code"] ["script"] (defScope s_law) := ⟨rfl, rfl, rfl, by decide +kernel, rfl, by decide +kernel, by decide +kernel⟩
noncomputable def b_ascends  : SM := sRet (eN allD (aCons (eComp false (iZp (aCons (eV 0) (aCons (eSl false (eV 0) (oSome (eC (.int 1))) (oNone)) (aNil)))) (gT [gN 1, gN 2]) (eC (.bl true)) (e2 ltD (eV 1) (eV 2)) [1, 2]) (aNil)))
noncomputable def m_ascends : FnD := fnD 3 b_ascends
noncomputable def b_Clock_init  : SM := sSeq (sFldM fldT "film" (eV 0) (eV 1)) (sSeq (sFldM fldT "minute" (eV 0) (eV 2)) (sSeq (sFldM fldT "place" (eV 0) (eC .non)) (sFldM fldT "rows" (eV 0) (eLst true (aNil)))))
noncomputable def m_Clock_init : FnD := fnK 3 b_Clock_init
noncomputable def b_Clock_take  : SM := sSeq (sExpr (eM "list" appendD (e1 (fldD fldT "rows") (eV 0)) (aCons (eTup (aCons (eV 1) (aCons (e1 (fldD fldT "minute") (eV 0)) (aCons (e2 (addD false) (e1 (fldD fldT "minute") (eV 0)) (eV 2)) (aNil))))) (aNil)))) (sFldA fldT "minute" iaddD (eV 0) (eV 2))
noncomputable def m_Clock_take : FnD := fnD 3 b_Clock_take
noncomputable def b_Clock_shoot  : SM := sSeq (sAsg (gT [gN 2, gN 3, gN 2, gN 4, gN 2, gN 2]) (e2 ixA (e2 ixA (e1 (fldD fldT "film") (eV 0)) (eC (.int 2))) (eV 1))) (sSeq (sIf (eAnd (e2 isnotD (e1 (fldD fldT "place") (eV 0)) (eC .non)) (e2 neD (e1 (fldD fldT "place") (eV 0)) (eV 3))) (sFldA fldT "minute" iaddD (eV 0) (e2 ixA (e2 ixA (e1 (fldD fldT "film") (eV 0)) (eC (.int 4))) (eC (.int 0)))) (sNil)) (sSeq (sFldM fldT "place" (eV 0) (eV 3)) (sExpr (eMeth "Clock" "take" m_Clock_take (eV 0) (aCons (eV 1) (aCons (eV 4) (aNil)))))))
noncomputable def m_Clock_shoot : FnD := fnD 5 b_Clock_shoot
noncomputable def b_hours_5  : SM := sIf (e2 eqD (eV 9) (eC d_MEAL)) (sExpr (eMeth "Clock" "take" m_Clock_take (eV 7) (aCons (eV 9) (aCons (e2 ixA (e2 ixA (eV 0) (eC (.int 4))) (eC (.int 2))) (aNil))))) (sIf (e2 (inA true ninD) (eV 9) (eV 2)) (sIf (e2 (inA false inD) (eV 5) (e2 ixA (e2 ixA (e2 ixA (eV 0) (eC (.int 2))) (eV 9)) (eC (.int 5)))) (sExpr (eM "list" appendD (eV 8) (aCons (eV 9) (aNil)))) (sExpr (eMeth "Clock" "shoot" m_Clock_shoot (eV 7) (aCons (eV 9) (aNil))))) (sNil))
noncomputable def b_hours_12  : SM := sRet (eTup (aCons (eN tupleD (aCons (e1 (fldD fldT "rows") (eV 7)) (aNil))) (aCons (eN tupleD (aCons (eN (sortedD false) (aCons (eV 8) (aNil))) (aNil))) (aNil))))
noncomputable def b_hours_4  : SM := sSeq (sFor (iE (eIf (e2 eqD (eV 4) (eC (.str "rain"))) (e2 ixA (eV 1) (eC (.int 2))) (e2 ixA (eV 1) (eC (.int 1))))) (gN 9) (b_hours_5) [9]) (b_hours_12)
noncomputable def b_hours_3  : SM := sSeq (sAsg (gN 8) (eLst true (aNil))) (b_hours_4)
noncomputable def b_hours_2  : SM := sSeq (sAsg (gN 7) (eMake "Clock" m_Clock_init (aCons (eV 0) (aCons (e2 (addD false) (e2 ixA (eV 1) (eC (.int 0))) (eV 6)) (aNil))))) (b_hours_3)
noncomputable def b_hours  : SM := sSeq (sAsg (gT [gN 4, gN 5, gN 6]) (eV 3)) (b_hours_2)
noncomputable def m_hours : FnD := fnD 10 b_hours
noncomputable def b_compared  : SM := sSeq (sIf (e2 eqD (eV 1) (eC (.str "<"))) (sRet (e2 ltD (eV 0) (eV 2))) (sNil)) (sSeq (sIf (e2 eqD (eV 1) (eC (.str "<="))) (sRet (e2 leD (eV 0) (eV 2))) (sNil)) (sSeq (sIf (e2 eqD (eV 1) (eC (.str ">"))) (sRet (e2 gtD (eV 0) (eV 2))) (sNil)) (sSeq (sIf (e2 eqD (eV 1) (eC (.str ">="))) (sRet (e2 geD (eV 0) (eV 2))) (sNil)) (sRet (e2 eqD (e2 eqD (eV 0) (eV 2)) (e2 eqD (eV 1) (eC (.str "="))))))))
noncomputable def m_compared : FnD := fnD 3 b_compared
noncomputable def b_holds (m_holds : FnD) : SM := sSeq (sAsg (gN 2) (e2 ixA (eV 0) (eC (.int 0)))) (sSeq (sIf (e2 eqD (eV 2) (eC (.str "is"))) (sRet (eN m_compared (aCons (e2 ixA (eV 1) (eIxT t_FIGURES (aCons (e2 ixA (eV 0) (eC (.int 1))) (aNil)))) (aCons (e2 ixA (eV 0) (eC (.int 2))) (aCons (e2 ixA (eV 0) (eC (.int 3))) (aNil)))))) (sNil)) (sSeq (sIf (e2 eqD (eV 2) (eC (.str "not"))) (sRet (eNot (eN m_holds (aCons (e2 ixA (eV 0) (eC (.int 1))) (aCons (eV 1) (aNil)))))) (sNil)) (sSeq (sAsg (gN 3) (eN m_holds (aCons (e2 ixA (eV 0) (eC (.int 1))) (aCons (eV 1) (aNil))))) (sSeq (sIf (e2 eqD (eV 2) (eC (.str "and"))) (sRet (eAnd (eV 3) (eN m_holds (aCons (e2 ixA (eV 0) (eC (.int 2))) (aCons (eV 1) (aNil)))))) (sNil)) (sSeq (sIf (e2 eqD (eV 2) (eC (.str "or"))) (sRet (eOr (eV 3) (eN m_holds (aCons (e2 ixA (eV 0) (eC (.int 2))) (aCons (eV 1) (aNil)))))) (sNil)) (sRet (eOr (eNot (eV 3)) (eN m_holds (aCons (e2 ixA (eV 0) (eC (.int 2))) (aCons (eV 1) (aNil)))))))))))
noncomputable def m_holds : Nat → FnD
  | 0 => fun _ _ => .bad
  | n + 1 => fnD 4 (b_holds (m_holds n))
noncomputable def b_is_for  : SM := sRet (eOr (e2 (inA false inD) (eV 1) (eTup (aCons (e1 negD (eC (.int 1))) (aCons (eV 2) (aNil))))) (eAnd (e2 eqD (eV 1) (e1 negD (eC (.int 2)))) (e2 ixA (e2 ixA (e2 ixA (eV 0) (eC (.int 1))) (eV 2)) (eC (.int 1)))))
noncomputable def m_is_for : FnD := fnD 3 b_is_for
noncomputable def b_broken  : SM := sSeq (sAsg (gN 4) (eLst true (aNil))) (sSeq (sFor (iEn (aCons (eV 1) (aNil))) (gT [gN 5, gT [gN 6, gN 7, gN 8]]) (sIf (eAnd (eTru (eN m_is_for (aCons (eV 0) (aCons (eV 7) (aCons (eV 2) (aNil)))))) (eNot (eTru (eN (m_holds 8) (aCons (eV 8) (aCons (eV 3) (aNil))))))) (sExpr (eM "list" appendD (eV 4) (aCons (eV 5) (aNil)))) (sNil)) [5, 6, 7, 8]) (sRet (eN tupleD (aCons (eV 4) (aNil)))))
noncomputable def m_broken : FnD := fnD 9 b_broken
noncomputable def b_is_there  : SM := sRet (eNot (eN anyD (aCons (eComp false (iE (e2 ixA (eV 0) (eC (.int 1)))) (gT [gN 3, gN 4, gN 5]) (eC (.bl true)) (eAnd (e2 eqD (eV 3) (eV 1)) (eChain leD leD (eV 4) (eV 2) (eV 5))) [3, 4, 5]) (aNil))))
noncomputable def m_is_there : FnD := fnD 6 b_is_there
noncomputable def b_is_open  : SM := sRet (eNot (eN anyD (aCons (eComp false (iE (e2 ixA (eV 0) (eC (.int 2)))) (gT [gN 3, gN 4, gN 5]) (eC (.bl true)) (eAnd (e2 eqD (eV 3) (eV 1)) (eChain leD leD (eV 4) (eV 2) (eV 5))) [3, 4, 5]) (aNil))))
noncomputable def m_is_open : FnD := fnD 6 b_is_open
noncomputable def b_dark_minutes  : SM := sRet (e2 subD (e2 subD (eV 3) (eV 2)) (eN maxD (aCons (eC (.int 0)) (aCons (e2 subD (eN minB (aCons (eV 3) (aCons (eV 1) (aNil)))) (eN maxD (aCons (eV 2) (aCons (eV 0) (aNil))))) (aNil)))))
noncomputable def m_dark_minutes : FnD := fnD 4 b_dark_minutes
noncomputable def b_longest_stretch_6  : SM := sAsg (gN 4) (eV 7)
noncomputable def b_longest_stretch_5  : SM := sSeq (sAsg (gN 3) (eN maxD (aCons (eV 3) (aCons (e2 subD (eV 6) (eV 4)) (aNil))))) (b_longest_stretch_6)
noncomputable def b_longest_stretch_4  : SM := sIf (eAnd (e2 eqD (eV 5) (eC d_MEAL)) (eAnd (e2 leD (eV 1) (eV 6)) (e2 leD (eV 7) (eV 2)))) (b_longest_stretch_5) (sNil)
noncomputable def b_longest_stretch_7  : SM := sRet (eN maxD (aCons (eV 3) (aCons (e2 subD (eV 2) (eV 4)) (aNil))))
noncomputable def b_longest_stretch_3  : SM := sSeq (sFor (iE (eV 0)) (gT [gN 5, gN 6, gN 7]) (b_longest_stretch_4) [5, 6, 7]) (b_longest_stretch_7)
noncomputable def b_longest_stretch_2  : SM := sSeq (sAsg (gN 4) (eV 1)) (b_longest_stretch_3)
noncomputable def b_longest_stretch  : SM := sSeq (sAsg (gN 3) (eC (.int 0))) (b_longest_stretch_2)
noncomputable def m_longest_stretch : FnD := fnD 8 b_longest_stretch
noncomputable def b_figures_of  : SM := sSeq (sAsg (gN 6) (eComp false (iE (eV 3)) (gT [gN 7, gN 8, gN 9]) (eAnd (e2 neD (eV 7) (eC d_MEAL)) (e2 (inA false inD) (eV 4) (e2 ixA (e2 ixA (e2 ixA (eV 0) (eC (.int 2))) (eV 7)) (eC (.int 5))))) (eTup (aCons (eV 8) (aCons (eV 9) (aNil)))) [7, 8, 9])) (sSeq (sIf (eNot (eTru (eV 6))) (sRet (eC .non)) (sNil)) (sSeq (sAsg (gN 10) (eN maxD (aCons (eC (.int 0)) (aCons (e2 subD (e2 ixA (e2 ixA (eV 6) (eC (.int 0))) (eC (.int 0))) (e2 ixA (e2 ixA (eV 0) (eC (.int 4))) (eC (.int 1)))) (aNil))))) (sSeq (sAsg (gN 11) (e2 ixA (e2 ixA (eV 6) (e1 negD (eC (.int 1)))) (eC (.int 1)))) (sSeq (sAsg (gT [gN 12, gN 13]) (e2 ixA (e2 ixA (eV 1) (eC (.int 0))) (eV 2))) (sSeq (sAsg (gN 14) (e2 neD (e2 ixA (eV 5) (eC (.int 0))) (e1 negD (eC (.int 1))))) (sSeq (sAsg (gN 15) (eIf (eTru (eV 14)) (eN maxD (aCons (eC (.int 0)) (aCons (e2 subD (e2 (addD false) (eV 10) (eC d_DAY)) (e2 ixA (eV 5) (eC (.int 0)))) (aNil)))) (eC d_NO_REST))) (sRet (eTup (aCons (eV 10) (aCons (eV 11) (aCons (e2 subD (eV 11) (eV 10)) (aCons (eN sumD (aCons (eComp false (iE (eV 6)) (gT [gN 8, gN 9]) (eC (.bl true)) (e2 subD (eV 9) (eV 8)) [8, 9]) (aNil))) (aCons (eV 15) (aCons (eIf (eTru (eV 14)) (e2 (addD false) (e2 ixA (eV 5) (eC (.int 1))) (eC (.int 1))) (eC (.int 1))) (aCons (eN sumD (aCons (eComp false (iE (eV 6)) (gT [gN 8, gN 9]) (eC (.bl true)) (eN m_dark_minutes (aCons (eV 12) (aCons (eV 13) (aCons (eV 8) (aCons (eV 9) (aNil)))))) [8, 9]) (aNil))) (aCons (eN m_longest_stretch (aCons (eV 3) (aCons (eV 10) (aCons (eV 11) (aNil))))) (aCons (eN lenD (aCons (eV 6) (aNil))) (aNil))))))))))))))))))
noncomputable def m_figures_of : FnD := fnD 16 b_figures_of
noncomputable def b_is_lit  : SM := sSeq (sIf (e2 eqD (eV 0) (eC (.str "day"))) (sRet (eAnd (e2 leD (e2 ixA (eV 1) (eC (.int 0))) (eV 2)) (e2 leD (eV 3) (e2 ixA (eV 1) (eC (.int 1)))))) (sNil)) (sRet (eOr (e2 eqD (eV 0) (eC (.str "any"))) (eOr (e2 leD (eV 3) (e2 ixA (eV 1) (eC (.int 0)))) (e2 leD (e2 ixA (eV 1) (eC (.int 1))) (eV 2)))))
noncomputable def m_is_lit : FnD := fnD 4 b_is_lit
noncomputable def b_scene_break  : SM := sSeq (sAsg (gT [gN 6, gN 7, gN 8]) (eV 3)) (sSeq (sAsg (gT [gN 9, gN 10, gN 11, gN 9, gN 12, gN 13]) (e2 ixA (e2 ixA (eV 0) (eC (.int 2))) (eV 6))) (sSeq (sIf (eNot (eTru (eN m_is_open (aCons (eV 1) (aCons (eV 10) (aCons (eV 2) (aNil))))))) (sRet (eTup (aCons (eC (.str "closed")) (aCons (eV 6) (aNil))))) (sNil)) (sSeq (sIf (eNot (eTru (eN allD (aCons (eComp false (iE (eV 13)) (gN 14) (eC (.bl true)) (eN m_is_there (aCons (eV 1) (aCons (eV 14) (aCons (eV 2) (aNil))))) [14]) (aNil))))) (sRet (eTup (aCons (eC (.str "away")) (aCons (eV 6) (aNil))))) (sNil)) (sSeq (sIf (eNot (eTru (eN m_is_lit (aCons (eV 11) (aCons (e2 ixA (e2 ixA (eV 1) (eC (.int 0))) (eV 2)) (aCons (eV 7) (aCons (eV 8) (aNil)))))))) (sRet (eTup (aCons (eC (.str "light")) (aCons (eV 6) (aNil))))) (sNil)) (sSeq (sIf (eAnd (eTru (eV 5)) (eTru (eV 12))) (sRet (eTup (aCons (eC (.str "wet")) (aCons (eV 6) (aNil))))) (sNil)) (sSeq (sIf (eNot (eTru (eN allD (aCons (eComp false (iE (e2 ixA (eV 0) (eC (.int 3)))) (gT [gN 15, gN 16]) (e2 eqD (eV 16) (eV 6)) (e2 (inA false inD) (eV 15) (eV 4)) [15, 16]) (aNil))))) (sRet (eTup (aCons (eC (.str "order")) (aCons (eV 6) (aNil))))) (sNil)) (sRet (eC .non))))))))
noncomputable def m_scene_break : FnD := fnD 17 b_scene_break
noncomputable def b_rule_break_5  : SM := sIf (eTru (eV 8)) (sRet (eTup (aCons (eC (.str "rule")) (aCons (eV 6) (aCons (e2 ixA (eV 8) (eC (.int 0))) (aNil)))))) (sNil)
noncomputable def b_rule_break_4  : SM := sSeq (sAsg (gN 8) (eN m_broken (aCons (eV 0) (aCons (eV 2) (aCons (eV 6) (aCons (eV 7) (aNil))))))) (b_rule_break_5)
noncomputable def b_rule_break_3  : SM := sIf (e2 isnotD (eV 7) (eC .non)) (b_rule_break_4) (sNil)
noncomputable def b_rule_break_2  : SM := sSeq (sAsg (gN 7) (eN m_figures_of (aCons (eV 0) (aCons (eV 1) (aCons (eV 3) (aCons (eV 4) (aCons (eV 6) (aCons (e2 ixA (eV 5) (eV 6)) (aNil))))))))) (b_rule_break_3)
noncomputable def b_rule_break_7  : SM := sRet (eC .non)
noncomputable def b_rule_break  : SM := sSeq (sFor (iR (aCons (eN lenD (aCons (e2 ixA (eV 0) (eC (.int 1))) (aNil))) (aNil))) (gN 6) (b_rule_break_2) [6, 7, 8]) (b_rule_break_7)
noncomputable def m_rule_break : FnD := fnD 9 b_rule_break
noncomputable def b_rows_break_7  : SM := sExpr (eM "list" appendD (eV 8) (aCons (e2 ixA (eV 9) (eC (.int 0))) (aNil)))
noncomputable def b_rows_break_5  : SM := sSeq (sIf (e2 isnotD (eV 10) (eC .non)) (sRet (eV 10)) (sNil)) (b_rows_break_7)
noncomputable def b_rows_break_4  : SM := sSeq (sAsg (gN 10) (eN m_scene_break (aCons (eV 0) (aCons (eV 1) (aCons (eV 3) (aCons (eV 9) (aCons (eV 8) (aCons (eV 7) (aNil))))))))) (b_rows_break_5)
noncomputable def b_rows_break_3  : SM := sIf (e2 neD (e2 ixA (eV 9) (eC (.int 0))) (eC d_MEAL)) (b_rows_break_4) (sNil)
noncomputable def b_rows_break_8  : SM := sRet (eN m_rule_break (aCons (eV 0) (aCons (eV 1) (aCons (eV 2) (aCons (eV 3) (aCons (eV 4) (aCons (eV 6) (aNil))))))))
noncomputable def b_rows_break_2  : SM := sSeq (sFor (iE (eV 4)) (gN 9) (b_rows_break_3) [9, 10]) (b_rows_break_8)
noncomputable def b_rows_break  : SM := sSeq (sAsg (gN 8) (eN (listD true) (aCons (eV 5) (aNil)))) (b_rows_break_2)
noncomputable def m_rows_break : FnD := fnD 11 b_rows_break
noncomputable def b_day_cost  : SM := sSeq (sAsg (gN 2) (e2 ixA (eV 0) (eC (.int 0)))) (sSeq (sFor (iE (e2 ixA (eV 0) (eC (.int 1)))) (gT [gN 3, gN 4]) (sIf (e2 gtD (eV 1) (eV 3)) (sAug 2 iaddD (e2 (mulD false) (eV 4) (e2 fdivD (e2 subD (e2 (addD false) (e2 subD (eV 1) (eV 3)) (eC d_HALF_HOUR)) (eC (.int 1))) (eC d_HALF_HOUR)))) (sNil)) [3, 4]) (sRet (eV 2)))
noncomputable def m_day_cost : FnD := fnD 5 b_day_cost
noncomputable def b_first_stand  : SM := sRet (eTup (aCons (eC (.int 0)) (aCons (eTup (aNil)) (aCons (e2 (mulQ false) (eTup (aCons (eC d_IDLE) (aNil))) (eN lenD (aCons (e2 ixA (e2 ixA (eV 0) (eC (.int 0))) (eC (.int 1))) (aNil)))) (aCons (eTup (aCons (eC (.int 0)) (aCons (eC (.int 0)) (aCons (eC (.int 0)) (aNil))))) (aNil))))))
noncomputable def m_first_stand : FnD := fnD 1 b_first_stand
noncomputable def b_is_through  : SM := sRet (e2 eqD (eN lenD (aCons (e2 ixA (eV 1) (eC (.int 1))) (aNil))) (eN lenD (aCons (e2 ixA (e2 ixA (eV 0) (eC (.int 0))) (eC (.int 2))) (aNil))))
noncomputable def m_is_through : FnD := fnD 2 b_is_through
noncomputable def b_used_by  : SM := sSeq (sAsg (gT [gN 1, gN 2, gN 3]) (eV 0)) (sRet (eTup (aCons (eN intD (aCons (e2 eqD (eV 1) (eC (.str "rain"))) (aNil))) (aCons (eN intD (aCons (e2 geD (eV 2) (eC (.int 0))) (aNil))) (aCons (eN intD (aCons (e2 gtD (eV 3) (eC (.int 0))) (aNil))) (aNil))))))
noncomputable def m_used_by : FnD := fnD 4 b_used_by
noncomputable def b_may_choose  : SM := sSeq (sAsg (gN 3) (e2 ixA (eV 0) (eC (.int 4)))) (sSeq (sAsg (gT [gN 4, gN 5, gN 6]) (eV 2)) (sSeq (sIf (eOr (e2 (inA true ninD) (eV 4) (eTup (aCons (eC (.str "dry")) (aCons (eC (.str "rain")) (aNil))))) (eOr (eNot (eChain leD ltD (e1 negD (eC (.int 1))) (eV 5) (eN lenD (aCons (e2 ixA (e2 ixA (eV 0) (eC (.int 0))) (eC (.int 1))) (aNil))))) (e2 (inA true ninD) (eV 6) (eTup (aCons (eC (.int 0)) (aCons (e2 ixA (eV 3) (eC (.int 3))) (aNil))))))) (sRet (eC (.bl false))) (sNil)) (sSeq (sAsg (gN 7) (eN m_used_by (aCons (eV 2) (aNil)))) (sRet (eN allD (aCons (eComp false (iR (aCons (eC (.int 3)) (aNil))) (gN 8) (eC (.bl true)) (e2 leD (e2 (addD false) (e2 ixA (e2 ixA (eV 1) (eC (.int 3))) (eV 8)) (e2 ixA (eV 7) (eV 8))) (e2 ixA (eV 3) (eV 8))) [8]) (aNil)))))))
noncomputable def m_may_choose : FnD := fnD 9 b_may_choose
noncomputable def b_natures_5  : SM := sIf (eTru (eN m_may_choose (aCons (eV 0) (aCons (eV 1) (aCons (eTup (aCons (eV 3) (aCons (eV 4) (aCons (eV 5) (aNil))))) (aNil)))))) (sExpr (eM "list" appendD (eV 2) (aCons (eTup (aCons (eV 3) (aCons (eV 4) (aCons (eV 5) (aNil))))) (aNil)))) (sNil)
noncomputable def b_natures_4  : SM := sFor (iE (eTup (aCons (eC (.int 0)) (aCons (e2 ixA (e2 ixA (eV 0) (eC (.int 4))) (eC (.int 3))) (aNil))))) (gN 5) (b_natures_5) [5]
noncomputable def b_natures_3  : SM := sFor (iR (aCons (e1 negD (eC (.int 1))) (aCons (eN lenD (aCons (e2 ixA (e2 ixA (eV 0) (eC (.int 0))) (eC (.int 1))) (aNil))) (aNil)))) (gN 4) (b_natures_4) [4, 5]
noncomputable def b_natures_8  : SM := sRet (eComp false (iE (eN (sortedD false) (aCons (eV 6) (aNil)))) (gT [gN 8, gN 7]) (eC (.bl true)) (eV 7) [7, 8])
noncomputable def b_natures_7  : SM := sSeq (sAsg (gN 6) (eComp false (iE (eV 2)) (gN 7) (eC (.bl true)) (eTup (aCons (eN sumQ (aCons (eN m_used_by (aCons (eV 7) (aNil))) (aNil))) (aCons (eV 7) (aNil)))) [7])) (b_natures_8)
noncomputable def b_natures_2  : SM := sSeq (sFor (iE (eTup (aCons (eC (.str "dry")) (aCons (eC (.str "rain")) (aNil))))) (gN 3) (b_natures_3) [3, 4, 5]) (b_natures_7)
noncomputable def b_natures  : SM := sSeq (sAsg (gN 2) (eLst true (aNil))) (b_natures_2)
noncomputable def m_natures : FnD := fnD 9 b_natures
noncomputable def b_check_step  : SM := sSeq (sIf (eTru (eN m_is_through (aCons (eV 0) (aCons (eV 1) (aNil))))) (sRaise "CaseError" (eC (.str "through"))) (sNil)) (sSeq (sIf (e2 geD (e2 ixA (eV 1) (eC (.int 0))) (eN lenD (aCons (e2 ixA (e2 ixA (eV 0) (eC (.int 1))) (eC (.int 0))) (aNil)))) (sRaise "CaseError" (eC (.str "day"))) (sNil)) (sIf (eNot (eChain leD ltD (eC (.int 0)) (eV 2) (eN lenD (aCons (e2 ixA (e2 ixA (eV 0) (eC (.int 3))) (e2 ixA (eV 1) (eC (.int 0)))) (aNil))))) (sRaise "CaseError" (eC (.str "sheet"))) (sNil)))
noncomputable def m_check_step : FnD := fnD 3 b_check_step
noncomputable def b_step_18  : SM := sAug 19 iaddD (eIf (e2 isD (eV 22) (eC .non)) (eC (.int 0)) (eN m_day_cost (aCons (e2 ixA (eV 9) (eV 21)) (aCons (e2 ixA (eV 22) (eC (.int 2))) (aNil)))))
noncomputable def b_step_17  : SM := sSeq (sExpr (eM "list" appendD (eV 20) (aCons (eIf (e2 isD (eV 22) (eC .non)) (eC d_IDLE) (eTup (aCons (e2 ixA (eV 22) (eC (.int 1))) (aCons (e2 ixA (eV 22) (eC (.int 5))) (aNil))))) (aNil)))) (b_step_18)
noncomputable def b_step_16  : SM := sSeq (sAsg (gN 22) (eN m_figures_of (aCons (eV 4) (aCons (eV 5) (aCons (eV 10) (aCons (eV 14) (aCons (eV 21) (aCons (e2 ixA (eV 12) (eV 21)) (aNil))))))))) (b_step_17)
noncomputable def b_step_20  : SM := sRet (eTup (aCons (eC (.str "stand")) (aCons (eTup (aCons (e2 (addD false) (eV 10) (eC (.int 1))) (aCons (eV 16) (aCons (eN tupleD (aCons (eV 20) (aNil))) (aCons (eN tupleD (aCons (eComp false (iR (aCons (eC (.int 3)) (aNil))) (gN 24) (eC (.bl true)) (e2 (addD false) (e2 ixA (eV 13) (eV 24)) (e2 ixA (eV 23) (eV 24))) [24]) (aNil))) (aNil)))))) (aCons (eV 19) (aNil)))))
noncomputable def b_step_19  : SM := sSeq (sAsg (gN 23) (eN m_used_by (aCons (eV 3) (aNil)))) (b_step_20)
noncomputable def b_step_15  : SM := sSeq (sFor (iR (aCons (eN lenD (aCons (e2 ixA (eV 4) (eC (.int 1))) (aNil))) (aNil))) (gN 21) (b_step_16) [21, 22]) (b_step_19)
noncomputable def b_step_14  : SM := sSeq (sAsg (gN 20) (eLst true (aNil))) (b_step_15)
noncomputable def b_step_13  : SM := sSeq (sAsg (gN 19) (eC (.int 0))) (b_step_14)
noncomputable def b_step_11  : SM := sSeq (sIf (eAnd (e2 eqD (e2 (addD false) (eV 10) (eC (.int 1))) (eN lenD (aCons (e2 ixA (eV 5) (eC (.int 0))) (aNil)))) (e2 ltD (eN lenD (aCons (eV 16) (aNil))) (eN lenD (aCons (e2 ixA (eV 4) (eC (.int 2))) (aNil))))) (sRet (eTup (aCons (eC (.str "break")) (aCons (eTup (aCons (eC (.str "end")) (aCons (eN minB (aCons (eComp false (iR (aCons (eN lenD (aCons (e2 ixA (eV 4) (eC (.int 2))) (aNil))) (aNil))) (gN 18) (e2 (inA true ninD) (eV 18) (eV 16)) (eV 18) [18]) (aNil))) (aNil)))) (aNil))))) (sNil)) (b_step_13)
noncomputable def b_step_10  : SM := sSeq (sAsg (gN 16) (eN tupleD (aCons (eN (sortQ false) (aCons (e2 (addD false) (eV 11) (eN tupleD (aCons (eComp false (iE (eV 14)) (gN 17) (e2 neD (e2 ixA (eV 17) (eC (.int 0))) (eC d_MEAL)) (e2 ixA (eV 17) (eC (.int 0))) [17]) (aNil)))) (aNil))) (aNil)))) (b_step_11)
noncomputable def b_step_8  : SM := sSeq (sIf (e2 isnotD (eV 15) (eC .non)) (sRet (eTup (aCons (eC (.str "break")) (aCons (eV 15) (aNil))))) (sNil)) (b_step_10)
noncomputable def b_step_7  : SM := sSeq (sAsg (gN 15) (eN m_rows_break (aCons (eV 4) (aCons (eV 5) (aCons (eV 6) (aCons (eV 10) (aCons (eV 14) (aCons (eV 11) (aCons (eV 12) (aCons (e2 eqD (e2 ixA (eV 3) (eC (.int 0))) (eC (.str "rain"))) (aNil))))))))))) (b_step_8)
noncomputable def b_step_6  : SM := sSeq (sAsg (gN 14) (e2 ixA (eN m_hours (aCons (eV 4) (aCons (e2 ixA (e2 ixA (eV 7) (eV 10)) (eV 2)) (aCons (eV 11) (aCons (eV 3) (aNil)))))) (eC (.int 0)))) (b_step_7)
noncomputable def b_step_5  : SM := sSeq (sAsg (gT [gN 10, gN 11, gN 12, gN 13]) (eV 1)) (b_step_6)
noncomputable def b_step_4  : SM := sSeq (sAsg (gT [gN 4, gN 5, gN 6, gN 7, gN 8, gN 9]) (eV 0)) (b_step_5)
noncomputable def b_step_2  : SM := sSeq (sIf (eNot (eTru (eN m_may_choose (aCons (eV 0) (aCons (eV 1) (aCons (eV 3) (aNil))))))) (sRaise "CaseError" (eC (.str "nature"))) (sNil)) (b_step_4)
noncomputable def b_step  : SM := sSeq (sExpr (eN m_check_step (aCons (eV 0) (aCons (eV 1) (aCons (eV 2) (aNil)))))) (b_step_2)
noncomputable def m_step : FnD := fnD 25 b_step
noncomputable def b_run_10  : SM := sAug 3 iaddD (e2 ixA (eV 6) (eC (.int 2)))
noncomputable def b_run_9  : SM := sSeq (sExpr (eM "list" appendD (eV 2) (aCons (e2 ixA (eV 6) (eC (.int 1))) (aNil)))) (b_run_10)
noncomputable def b_run_7  : SM := sSeq (sIf (e2 eqD (e2 ixA (eV 6) (eC (.int 0))) (eC (.str "break"))) (sRet (eTup (aCons (eN tupleD (aCons (eV 2) (aNil))) (aCons (eV 6) (aNil))))) (sNil)) (b_run_9)
noncomputable def b_run_6  : SM := sSeq (sAsg (gN 6) (eN m_step (aCons (eV 0) (aCons (e2 ixA (eV 2) (e1 negD (eC (.int 1)))) (aCons (eV 4) (aCons (eV 5) (aNil))))))) (b_run_7)
noncomputable def b_run_4  : SM := sSeq (sIf (eTru (eN m_is_through (aCons (eV 0) (aCons (e2 ixA (eV 2) (e1 negD (eC (.int 1)))) (aNil))))) (sRaise "CaseError" (eC (.str "through"))) (sNil)) (b_run_6)
noncomputable def b_run_11  : SM := sRet (eTup (aCons (eN tupleD (aCons (eV 2) (aNil))) (aCons (eTup (aCons (eIf (eTru (eN m_is_through (aCons (eV 0) (aCons (e2 ixA (eV 2) (e1 negD (eC (.int 1)))) (aNil))))) (eC (.str "through")) (eC (.str "open"))) (aCons (eV 3) (aNil)))) (aNil))))
noncomputable def b_run_3  : SM := sSeq (sFor (iE (eV 1)) (gT [gN 4, gN 5]) (b_run_4) [4, 5, 6]) (b_run_11)
noncomputable def b_run_2  : SM := sSeq (sAsg (gN 3) (eC (.int 0))) (b_run_3)
noncomputable def b_run  : SM := sSeq (sAsg (gN 2) (eLst true (aCons (eN m_first_stand (aCons (eV 0) (aNil))) (aNil)))) (b_run_2)
noncomputable def m_run : FnD := fnD 7 b_run
noncomputable def b_put_in_order_7  : SM := sAsg (gN 4) (eV 1)
noncomputable def b_put_in_order_6  : SM := sSeq (sAug 3 iaddD (eC (.int 1))) (b_put_in_order_7)
noncomputable def b_put_in_order_9  : SM := sAug 4 subD (eV 5)
noncomputable def b_put_in_order_8  : SM := sSeq (sExpr (eM "list" appendD (eV 2) (aCons (eV 3) (aNil)))) (b_put_in_order_9)
noncomputable def b_put_in_order_5  : SM := sSeq (sIf (e2 gtD (eV 5) (eV 4)) (b_put_in_order_6) (sNil)) (b_put_in_order_8)
noncomputable def b_put_in_order_10  : SM := sRet (eN tupleD (aCons (eV 2) (aNil)))
noncomputable def b_put_in_order_4  : SM := sSeq (sFor (iE (eV 0)) (gN 5) (b_put_in_order_5) [5]) (b_put_in_order_10)
noncomputable def b_put_in_order_3  : SM := sSeq (sAsg (gN 4) (eV 1)) (b_put_in_order_4)
noncomputable def b_put_in_order_2  : SM := sSeq (sAsg (gN 3) (eC (.int 0))) (b_put_in_order_3)
noncomputable def b_put_in_order  : SM := sSeq (sAsg (gN 2) (eLst true (aNil))) (b_put_in_order_2)
noncomputable def m_put_in_order : FnD := fnD 6 b_put_in_order
noncomputable def b_check_lab  : SM := sIf (eNot (eChain leD leD (eC (.int 0)) (eV 0) (eC d_MOST_LAB))) (sRaise "StockError" (eC (.str "lab"))) (sNil)
noncomputable def m_check_lab : FnD := fnD 1 b_check_lab
noncomputable def b_check_scenes  : SM := sSeq (sAsg (gN 2) (eAnd (e2 gtD (eN lenD (aCons (eV 1) (aNil))) (eC (.int 0))) (eAnd (eN m_ascends (aCons (eV 1) (aNil))) (eAnd (e2 leD (eC (.int 0)) (e2 ixA (eV 1) (eC (.int 0)))) (e2 ltD (e2 ixA (eV 1) (e1 negD (eC (.int 1)))) (eN lenD (aCons (e2 ixA (e2 ixA (eV 0) (eC (.int 0))) (eC (.int 2))) (aNil)))))))) (sIf (eNot (eTru (eV 2))) (sRaise "StockError" (eC (.str "scenes"))) (sNil))
noncomputable def m_check_scenes : FnD := fnD 3 b_check_scenes
noncomputable def b_shot_days_5  : SM := sIf (e2 (inA true ninD) (eV 6) (e2 ixA (eV 4) (eC (.int 1)))) (sSub setA (eV 3) (eV 6) (e2 ixA (eV 4) (eC (.int 0)))) (sNil)
noncomputable def b_shot_days_4  : SM := sFor (iE (e2 ixA (eV 5) (eC (.int 1)))) (gN 6) (b_shot_days_5) [6]
noncomputable def b_shot_days_7  : SM := sRet (eV 3)
noncomputable def b_shot_days_3  : SM := sSeq (sFor (iZp (aCons (eV 2) (aCons (eSl false (eV 2) (oSome (eC (.int 1))) (oNone)) (aNil)))) (gT [gN 4, gN 5]) (b_shot_days_4) [4, 5, 6]) (b_shot_days_7)
noncomputable def b_shot_days_2  : SM := sSeq (sAsg (gN 3) (e2 (mulD true) (eLst false (aCons (eC .non) (aNil))) (eN lenD (aCons (e2 ixA (e2 ixA (eV 0) (eC (.int 0))) (eC (.int 2))) (aNil))))) (b_shot_days_3)
noncomputable def b_shot_days  : SM := sSeq (sAsg (gN 2) (e2 ixA (eN m_run (aCons (eV 0) (aCons (eV 1) (aNil)))) (eC (.int 0)))) (b_shot_days_2)
noncomputable def m_shot_days : FnD := fnD 7 b_shot_days
noncomputable def b_back_days  : SM := sSeq (sExpr (eN m_check_lab (aCons (eV 2) (aNil)))) (sRet (eN tupleD (aCons (eComp false (iE (eN m_shot_days (aCons (eV 0) (aCons (eV 1) (aNil))))) (gN 3) (eC (.bl true)) (eIf (e2 isD (eV 3) (eC .non)) (eC .non) (e2 (addD false) (eV 3) (eV 2))) [3]) (aNil))))
noncomputable def m_back_days : FnD := fnD 4 b_back_days
noncomputable def b_cut_day  : SM := sSeq (sExpr (eN m_check_lab (aCons (eV 3) (aNil)))) (sSeq (sExpr (eN m_check_scenes (aCons (eV 0) (aCons (eV 2) (aNil))))) (sSeq (sAsg (gN 4) (eN m_shot_days (aCons (eV 0) (aCons (eV 1) (aNil))))) (sSeq (sAsg (gN 5) (eComp false (iE (eV 2)) (gN 6) (eC (.bl true)) (e2 ixA (eV 4) (eV 6)) [6])) (sRet (eIf (e2 (inA false inD) (eC .non) (eV 5)) (eC .non) (e2 (addD false) (eN maxD (aCons (eV 5) (aNil))) (eV 3)))))))
noncomputable def m_cut_day : FnD := fnD 7 b_cut_day
noncomputable def b_check_roll  : SM := sIf (eOr (eNot (eChain leD leD (eC (.int 1)) (eV 1) (eC d_MOST_MINUTES))) (eNot (eTru (eN allD (aCons (eComp false (iE (e2 ixA (e2 ixA (eV 0) (eC (.int 0))) (eC (.int 2)))) (gN 2) (eC (.bl true)) (e2 leD (e2 ixA (eV 2) (eC (.int 3))) (eV 1)) [2]) (aNil)))))) (sRaise "StockError" (eC (.str "roll"))) (sNil)
noncomputable def m_check_roll : FnD := fnD 3 b_check_roll
noncomputable def b_day_rolls  : SM := sSeq (sAsg (gN 5) (e2 ixA (eN m_hours (aCons (e2 ixA (eV 0) (eC (.int 0))) (aCons (e2 ixA (e2 ixA (e2 ixA (eV 0) (eC (.int 3))) (e2 ixA (eV 1) (eC (.int 0)))) (eV 2)) (aCons (e2 ixA (eV 1) (eC (.int 1))) (aCons (eV 3) (aNil)))))) (eC (.int 0)))) (sSeq (sAsg (gN 6) (eComp false (iE (eV 5)) (gN 7) (e2 neD (e2 ixA (eV 7) (eC (.int 0))) (eC d_MEAL)) (e2 ixA (e2 ixA (e2 ixA (e2 ixA (eV 0) (eC (.int 0))) (eC (.int 2))) (e2 ixA (eV 7) (eC (.int 0)))) (eC (.int 3))) [7])) (sRet (eIf (eTru (eV 6)) (e2 (addD false) (e2 ixA (eN m_put_in_order (aCons (eV 6) (aCons (eV 4) (aNil)))) (e1 negD (eC (.int 1)))) (eC (.int 1))) (eC (.int 0)))))
noncomputable def m_day_rolls : FnD := fnD 8 b_day_rolls
noncomputable def b_rolls_of  : SM := sSeq (sExpr (eN m_check_roll (aCons (eV 0) (aCons (eV 2) (aNil))))) (sSeq (sAsg (gN 3) (e2 ixA (eN m_run (aCons (eV 0) (aCons (eV 1) (aNil)))) (eC (.int 0)))) (sSeq (sAsg (gN 4) (eC (.int 0))) (sSeq (sFor (iZp (aCons (eSl false (eV 3) (oNone) (oSome (e1 negD (eC (.int 1))))) (aCons (eV 1) (aNil)))) (gT [gN 5, gT [gN 6, gN 7]]) (sAug 4 iaddD (eN m_day_rolls (aCons (eV 0) (aCons (eV 5) (aCons (eV 6) (aCons (eV 7) (aCons (eV 2) (aNil)))))))) [5, 6, 7]) (sRet (eV 4)))))
noncomputable def m_rolls_of : FnD := fnD 8 b_rolls_of
noncomputable def b_law_begin  : SM := sSeq (sAsg (gN 1) (eC (.int 1))) (sSeq (sFor (iE (eV 0)) (gN 2) (sAsg (gN 1) (e2 modD (e2 (addD false) (e2 (addD false) (e2 (mulD false) (eV 1) (eC (.int 69621))) (e2 modD (eN intD (aCons (eV 2) (aNil))) (eC (.int 2147483629)))) (eC (.int 7))) (eC (.int 2147483647)))) [2]) (sRet (eLst true (aCons (eN (listD false) (aCons (eV 0) (aNil))) (aCons (eC (.int 0)) (aCons (eC (.int 0)) (aCons (eV 1) (aNil))))))))
noncomputable def m_law_begin : FnD := fnK 3 b_law_begin
noncomputable def b_law_take  : SM := sSeq (sIf (eAnd (e2 eqD (e2 ixA (eV 0) (eC (.int 2))) (eC (.int 0))) (e2 ltD (e2 ixA (eV 0) (eC (.int 1))) (eN lenD (aCons (e2 ixA (eV 0) (eC (.int 0))) (aNil))))) (sSeq (sSub setA (eV 0) (eC (.int 2)) (eN absD (aCons (eN intD (aCons (e2 ixA (e2 ixA (eV 0) (eC (.int 0))) (e2 ixA (eV 0) (eC (.int 1)))) (aNil))) (aNil)))) (sSeq (sSub setA (eV 0) (eC (.int 1)) (e2 (addD false) (e2 ixA (eV 0) (eC (.int 1))) (eC (.int 1)))) (sIf (e2 ltD (e2 ixA (eV 0) (eC (.int 2))) (e2 powD (eC (.int 10)) (eC (.int 18)))) (sSeq (sAsg (gN 2) (eN intD (aCons (e2 ixA (eV 0) (eC (.int 2))) (aNil)))) (sSeq (sSub setA (eV 0) (eC (.int 2)) (eC (.int 0))) (sRet (e2 modD (eV 2) (eV 1))))) (sNil)))) (sNil)) (sSeq (sIf (e2 gtD (e2 ixA (eV 0) (eC (.int 2))) (eC (.int 0))) (sSeq (sAsg (gN 3) (e2 modD (eN intD (aCons (e2 ixA (eV 0) (eC (.int 2))) (aNil))) (eV 1))) (sSeq (sSub setA (eV 0) (eC (.int 2)) (e2 fdivD (eN intD (aCons (e2 ixA (eV 0) (eC (.int 2))) (aNil))) (eV 1))) (sRet (eV 3)))) (sNil)) (sSeq (sSub setA (eV 0) (eC (.int 3)) (e2 modD (eN intD (aCons (e2 (addD false) (e2 (mulD false) (e2 ixA (eV 0) (eC (.int 3))) (eC (.int 48271))) (eC (.int 11))) (aNil))) (eC (.int 2147483647)))) (sRet (e2 modD (eN intD (aCons (e2 fdivD (e2 ixA (eV 0) (eC (.int 3))) (eC (.int 3))) (aNil))) (eV 1)))))
noncomputable def m_law_take : FnD := fnD 4 b_law_take
noncomputable def b_law_some  : SM := sRet (eN tupleD (aCons (eComp false (iR (aCons (eV 1) (aNil))) (gN 2) (e2 eqD (eN m_law_take (aCons (eV 0) (aCons (eC (.int 2)) (aNil)))) (eC (.int 0))) (eV 2) [2]) (aNil)))
noncomputable def m_law_some : FnD := fnD 3 b_law_some
noncomputable def b_law_film_5  : SM := sExpr (eM "list" appendD (eV 4) (aCons (eTup (aCons (e2 (addD false) (eC (.str "s")) (eN strD (aCons (eV 5) (aNil)))) (aCons (eN m_law_take (aCons (eV 0) (aCons (eV 3) (aNil)))) (aCons (eC (.str "any")) (aCons (e2 (addD false) (eC (.int 30)) (e2 (mulD false) (eC (.int 5)) (eN m_law_take (aCons (eV 0) (aCons (eC (.int 12)) (aNil)))))) (aCons (eC (.bl false)) (aCons (eN m_law_some (aCons (eV 0) (aCons (eV 2) (aNil)))) (aNil)))))))) (aNil)))
noncomputable def b_law_film_7  : SM := sRet (eTup (aCons (eN tupleD (aCons (eComp false (iR (aCons (eV 3) (aNil))) (gN 5) (eC (.bl true)) (eTup (aCons (e2 (addD false) (eC (.str "p")) (eN strD (aCons (eV 5) (aNil)))) (aCons (eC (.bl false)) (aNil)))) [5]) (aNil))) (aCons (eN tupleD (aCons (eComp false (iR (aCons (eV 2) (aNil))) (gN 5) (eC (.bl true)) (eTup (aCons (e2 (addD false) (eC (.str "a")) (eN strD (aCons (eV 5) (aNil)))) (aCons (eC (.bl false)) (aNil)))) [5]) (aNil))) (aCons (eN tupleD (aCons (eV 4) (aNil))) (aCons (eV 6) (aCons (eTup (aCons (eC (.int 10)) (aCons (eC (.int 20)) (aCons (eC (.int 30)) (aNil))))) (aNil)))))))
noncomputable def b_law_film_6  : SM := sSeq (sAsg (gN 6) (eN tupleD (aCons (eComp false (iR (aCons (e2 subD (eV 1) (eC (.int 1))) (aNil))) (gN 5) (e2 eqD (eN m_law_take (aCons (eV 0) (aCons (eC (.int 3)) (aNil)))) (eC (.int 0))) (eTup (aCons (eV 5) (aCons (e2 (addD false) (eV 5) (eC (.int 1))) (aNil)))) [5]) (aNil)))) (b_law_film_7)
noncomputable def b_law_film_4  : SM := sSeq (sFor (iR (aCons (eV 1) (aNil))) (gN 5) (b_law_film_5) []) (b_law_film_6)
noncomputable def b_law_film_3  : SM := sSeq (sAsg (gN 4) (eLst true (aNil))) (b_law_film_4)
noncomputable def b_law_film_2  : SM := sSeq (sAsg (gN 3) (e2 (addD false) (eC (.int 1)) (eN m_law_take (aCons (eV 0) (aCons (eC (.int 2)) (aNil)))))) (b_law_film_3)
noncomputable def b_law_film  : SM := sSeq (sAsg (gN 2) (e2 (addD false) (eC (.int 1)) (eN m_law_take (aCons (eV 0) (aCons (eC (.int 2)) (aNil)))))) (b_law_film_2)
noncomputable def m_law_film : FnD := fnD 7 b_law_film
noncomputable def b_law_sheet  : SM := sSeq (sAsg (gN 3) (e1 tr1 (eV 1))) (sSeq (sAsg (gN 4) (eIf (eOr (eTru (eV 2)) (e2 gtD (eN m_law_take (aCons (eV 0) (aCons (eC (.int 3)) (aNil)))) (eC (.int 0)))) (eV 3) (eN m_law_some (aCons (eV 0) (aCons (eV 1) (aNil)))))) (sSeq (sAsg (gN 5) (eIf (eOr (eTru (eV 2)) (e2 gtD (eN m_law_take (aCons (eV 0) (aCons (eC (.int 3)) (aNil)))) (eC (.int 0)))) (eV 3) (eN m_law_some (aCons (eV 0) (aCons (eV 1) (aNil)))))) (sSeq (sIf (e2 eqD (eN m_law_take (aCons (eV 0) (aCons (eC (.int 4)) (aNil)))) (eC (.int 0))) (sSeq (sAsg (gN 4) (e2 (addD false) (e2 (addD false) (eSl false (eV 4) (oNone) (oSome (eC (.int 1)))) (eTup (aCons (e1 negD (eC (.int 1))) (aNil)))) (eSl false (eV 4) (oSome (eC (.int 1))) (oNone)))) (sAsg (gN 5) (e2 (addD false) (eTup (aCons (e1 negD (eC (.int 1))) (aNil))) (eV 5)))) (sNil)) (sRet (eTup (aCons (e2 ixA (eLst false (aCons (eC (.int 0)) (aCons (eC (.int 15)) (aCons (e2 (addD false) (eC (.int 420)) (e2 (mulD false) (eC (.int 30)) (eN m_law_take (aCons (eV 0) (aCons (eC (.int 6)) (aNil)))))) (aCons (eC (.int 420)) (aNil)))))) (eN m_law_take (aCons (eV 0) (aCons (eC (.int 4)) (aNil))))) (aCons (eV 4) (aCons (eV 5) (aNil)))))))))
noncomputable def m_law_sheet : FnD := fnD 6 b_law_sheet
noncomputable def b_law_case_6  : SM := sExpr (eM "list" appendD (eV 4) (aCons (eIf (e2 eqD (eN m_law_take (aCons (eV 0) (aCons (eC (.int 4)) (aNil)))) (eC (.int 0))) (e2 (revQ false) (eV 6) (e1 negD (eC (.int 1)))) (eV 6)) (aNil)))
noncomputable def b_law_case_5  : SM := sSeq (sAsg (gN 6) (e2 (addD false) (eTup (aCons (eN m_law_sheet (aCons (eV 0) (aCons (eV 2) (aCons (eC (.bl true)) (aNil))))) (aNil))) (eN tupleD (aCons (eComp false (iR (aCons (eN m_law_take (aCons (eV 0) (aCons (eC (.int 3)) (aNil)))) (aNil))) (gN 7) (eC (.bl true)) (eN m_law_sheet (aCons (eV 0) (aCons (eV 2) (aCons (eC (.bl false)) (aNil))))) [7]) (aNil))))) (b_law_case_6)
noncomputable def b_law_case_9  : SM := sRet (eTup (aCons (eV 3) (aCons (eTup (aCons (e2 (mulQ false) (eTup (aCons (eTup (aCons (eC (.int 360)) (aCons (eC (.int 1080)) (aNil)))) (aNil))) (eV 1)) (aCons (eTup (aNil)) (aCons (eTup (aNil)) (aNil))))) (aCons (eTup (aNil)) (aCons (eN tupleD (aCons (eV 4) (aNil))) (aCons (eV 8) (aCons (eV 9) (aNil))))))))
noncomputable def b_law_case_8  : SM := sSeq (sAsg (gN 9) (eN tupleD (aCons (eComp false (iR (aCons (eN lenD (aCons (e2 ixA (eV 3) (eC (.int 1))) (aNil))) (aNil))) (gN 5) (eC (.bl true)) (eTup (aCons (eN m_law_take (aCons (eV 0) (aCons (eC (.int 50)) (aNil)))) (aCons (eTup (aNil)) (aNil)))) [5]) (aNil)))) (b_law_case_9)
noncomputable def b_law_case_7  : SM := sSeq (sAsg (gN 8) (eTup (aCons (eN m_law_take (aCons (eV 0) (aCons (eC (.int 2)) (aNil)))) (aCons (eN m_law_take (aCons (eV 0) (aCons (eC (.int 2)) (aNil)))) (aCons (eN m_law_take (aCons (eV 0) (aCons (eC (.int 2)) (aNil)))) (aCons (eC (.int 60)) (aNil))))))) (b_law_case_8)
noncomputable def b_law_case_4  : SM := sSeq (sFor (iR (aCons (eV 1) (aNil))) (gN 5) (b_law_case_5) [5, 6]) (b_law_case_7)
noncomputable def b_law_case_3  : SM := sSeq (sAsg (gN 4) (eLst true (aNil))) (b_law_case_4)
noncomputable def b_law_case_2  : SM := sSeq (sAsg (gN 3) (eN m_law_film (aCons (eV 0) (aCons (eV 2) (aNil))))) (b_law_case_3)
noncomputable def b_law_case  : SM := sSeq (sAsg (gN 2) (e2 (addD false) (eC (.int 2)) (eN m_law_take (aCons (eV 0) (aCons (eC (.int 4)) (aNil)))))) (b_law_case_2)
noncomputable def m_law_case : FnD := fnD 10 b_law_case
noncomputable def b_law_course_11  : SM := sAsg (gN 2) (e2 ixA (eV 7) (eC (.int 1)))
noncomputable def b_law_course_9  : SM := sSeq (sIf (e2 eqD (e2 ixA (eV 7) (eC (.int 0))) (eC (.str "break"))) (sRet (eN tupleD (aCons (eV 3) (aNil)))) (sNil)) (b_law_course_11)
noncomputable def b_law_course_8  : SM := sSeq (sAsg (gN 7) (eN m_step (aCons (eV 1) (aCons (eV 2) (aCons (eV 4) (aCons (eV 6) (aNil))))))) (b_law_course_9)
noncomputable def b_law_course_7  : SM := sSeq (sExpr (eM "list" appendD (eV 3) (aCons (eTup (aCons (eV 4) (aCons (eV 6) (aNil)))) (aNil)))) (b_law_course_8)
noncomputable def b_law_course_6  : SM := sSeq (sAsg (gN 6) (e2 ixA (eV 5) (eN m_law_take (aCons (eV 0) (aCons (eN lenD (aCons (eV 5) (aNil))) (aNil)))))) (b_law_course_7)
noncomputable def b_law_course_5  : SM := sSeq (sAsg (gN 5) (eN m_natures (aCons (eV 1) (aCons (eV 2) (aNil))))) (b_law_course_6)
noncomputable def b_law_course_4  : SM := sSeq (sAsg (gN 4) (eN m_law_take (aCons (eV 0) (aCons (eN lenD (aCons (e2 ixA (e2 ixA (eV 1) (eC (.int 3))) (e2 ixA (eV 2) (eC (.int 0)))) (aNil))) (aNil))))) (b_law_course_5)
noncomputable def b_law_course_12  : SM := sRet (eN tupleD (aCons (eV 3) (aNil)))
noncomputable def b_law_course_3  : SM := sSeq (sWhile (eAnd (eNot (eTru (eN m_is_through (aCons (eV 1) (aCons (eV 2) (aNil)))))) (eAnd (e2 ltD (eN lenD (aCons (eV 3) (aNil))) (eN lenD (aCons (e2 ixA (e2 ixA (eV 1) (eC (.int 1))) (eC (.int 0))) (aNil)))) (e2 gtD (eN m_law_take (aCons (eV 0) (aCons (eC (.int 6)) (aNil)))) (eC (.int 0))))) (b_law_course_4)) (b_law_course_12)
noncomputable def b_law_course_2  : SM := sSeq (sAsg (gN 3) (eLst true (aNil))) (b_law_course_3)
noncomputable def b_law_course  : SM := sSeq (sAsg (gN 2) (eN m_first_stand (aCons (eV 1) (aNil)))) (b_law_course_2)
noncomputable def m_law_course : FnD := fnD 8 b_law_course
noncomputable def b_law_asked  : SM := sTryAs ["CaseError", "StockError"] "StockError" 5 (sSeq (sIf (e2 eqD (eV 0) (eC (.int 0))) (sRet (eN m_back_days (aCons (eV 1) (aCons (eV 2) (aCons (eV 4) (aNil)))))) (sNil)) (sSeq (sIf (e2 eqD (eV 0) (eC (.int 1))) (sRet (eN m_cut_day (aCons (eV 1) (aCons (eV 2) (aCons (eV 3) (aCons (eV 4) (aNil))))))) (sNil)) (sRet (eN m_rolls_of (aCons (eV 1) (aCons (eV 2) (aCons (eV 4) (aNil)))))))) (fun a dd => sRet (eExn 5 a dd))
noncomputable def m_law_asked : FnD := fnD 6 b_law_asked
noncomputable def b_law_rolls_8  : SM := sAsg (gN 7) (e2 subD (eIf (e2 gtD (eV 11) (eV 7)) (eV 4) (eV 7)) (eV 11))
noncomputable def b_law_rolls_7  : SM := sSeq (sAsg (gN 6) (e2 (addD false) (eV 6) (eN intD (aCons (e2 gtD (eV 11) (eV 7)) (aNil))))) (b_law_rolls_8)
noncomputable def b_law_rolls_6  : SM := sSeq (sAsg (gN 11) (e2 ixA (e2 ixA (e2 ixA (e2 ixA (eV 0) (eC (.int 0))) (eC (.int 2))) (eV 8)) (eC (.int 3)))) (b_law_rolls_7)
noncomputable def b_law_rolls_5  : SM := sIf (e2 neD (eV 8) (e1 negD (eC (.int 1)))) (b_law_rolls_6) (sNil)
noncomputable def b_law_rolls_9  : SM := sRet (eV 6)
noncomputable def b_law_rolls_4  : SM := sSeq (sFor (iE (eV 5)) (gT [gN 8, gN 9, gN 10]) (b_law_rolls_5) [8, 9, 10, 11]) (b_law_rolls_9)
noncomputable def b_law_rolls_3  : SM := sSeq (sAsg (gN 7) (eC (.int 0))) (b_law_rolls_4)
noncomputable def b_law_rolls_2  : SM := sSeq (sAsg (gN 6) (eC (.int 0))) (b_law_rolls_3)
noncomputable def b_law_rolls  : SM := sSeq (sAsg (gN 5) (e2 ixA (eN m_hours (aCons (e2 ixA (eV 0) (eC (.int 0))) (aCons (e2 ixA (e2 ixA (e2 ixA (eV 0) (eC (.int 3))) (e2 ixA (eV 1) (eC (.int 0)))) (eV 2)) (aCons (e2 ixA (eV 1) (eC (.int 1))) (aCons (eV 3) (aNil)))))) (eC (.int 0)))) (b_law_rolls_2)
noncomputable def m_law_rolls : FnD := fnD 12 b_law_rolls
noncomputable def b_law_9  : SM := sIf (e2 (inA true ninD) (eV 8) (e2 ixA (e2 ixA (eV 5) (e2 subD (eV 7) (eC (.int 1)))) (eC (.int 1)))) (sSub setA (eV 6) (eV 8) (e2 ixA (e2 ixA (eV 5) (e2 subD (eV 7) (eC (.int 1)))) (eC (.int 0)))) (sNil)
noncomputable def b_law_8  : SM := sFor (iE (e2 ixA (e2 ixA (eV 5) (eV 7)) (eC (.int 1)))) (gN 8) (b_law_9) []
noncomputable def b_law_25  : SM := sAsg (gN 16) (e2 (addD false) (eV 16) (eN m_law_rolls (aCons (eV 2) (aCons (e2 ixA (eV 5) (eV 7)) (aCons (e2 ixA (e2 ixA (eV 4) (eV 7)) (eC (.int 0))) (aCons (e2 ixA (e2 ixA (eV 4) (eV 7)) (eC (.int 1))) (aCons (eV 15) (aNil))))))))
noncomputable def b_law_29  : SM := sIf (e2 neD (eN m_law_asked (aCons (eV 17) (aCons (eV 2) (aCons (eV 4) (aCons (eV 18) (aCons (eV 19) (aNil))))))) (eV 20)) (sRet (eC (.bl false))) (sNil)
noncomputable def b_law_31  : SM := sRet (eC (.bl true))
noncomputable def b_law_28  : SM := sSeq (sFor (iE (eLst false (aCons (eTup (aCons (eC (.int 0)) (aCons (eTup (aNil)) (aCons (e1 negD (eC (.int 1))) (aCons (eC (.str "lab")) (aNil)))))) (aCons (eTup (aCons (eC (.int 0)) (aCons (eTup (aNil)) (aCons (eC (.int 10)) (aCons (eC (.str "lab")) (aNil)))))) (aCons (eTup (aCons (eC (.int 1)) (aCons (eTup (aCons (eC (.int 0)) (aNil))) (aCons (eC (.int 10)) (aCons (eC (.str "lab")) (aNil)))))) (aCons (eTup (aCons (eC (.int 1)) (aCons (eTup (aNil)) (aCons (eC (.int 0)) (aCons (eC (.str "scenes")) (aNil)))))) (aCons (eTup (aCons (eC (.int 1)) (aCons (eTup (aCons (eC (.int 0)) (aCons (eC (.int 0)) (aNil)))) (aCons (eC (.int 0)) (aCons (eC (.str "scenes")) (aNil)))))) (aCons (eTup (aCons (eC (.int 1)) (aCons (eTup (aCons (eV 3) (aNil))) (aCons (eC (.int 0)) (aCons (eC (.str "scenes")) (aNil)))))) (aCons (eTup (aCons (eC (.int 1)) (aCons (eTup (aCons (e1 negD (eC (.int 1))) (aCons (eC (.int 0)) (aNil)))) (aCons (eC (.int 0)) (aCons (eC (.str "scenes")) (aNil)))))) (aCons (eTup (aCons (eC (.int 1)) (aCons (eTup (aCons (eC (.int 0)) (aCons (eV 3) (aNil)))) (aCons (eC (.int 0)) (aCons (eC (.str "scenes")) (aNil)))))) (aCons (eTup (aCons (eC (.int 1)) (aCons (eTup (aNil)) (aCons (e1 negD (eC (.int 1))) (aCons (eC (.str "lab")) (aNil)))))) (aCons (eTup (aCons (eC (.int 2)) (aCons (eTup (aNil)) (aCons (e2 subD (eV 14) (eC (.int 1))) (aCons (eC (.str "roll")) (aNil)))))) (aCons (eTup (aCons (eC (.int 2)) (aCons (eTup (aNil)) (aCons (eC (.int 1000)) (aCons (eC (.str "roll")) (aNil)))))) (aCons (eTup (aCons (eC (.int 2)) (aCons (eTup (aNil)) (aCons (eC (.int 0)) (aCons (eC (.str "roll")) (aNil)))))) (aNil))))))))))))))) (gT [gN 17, gN 18, gN 19, gN 20]) (b_law_29) [17, 18, 19, 20]) (b_law_31)
noncomputable def b_law_26  : SM := sSeq (sIf (e2 neD (eN m_law_asked (aCons (eC (.int 2)) (aCons (eV 2) (aCons (eV 4) (aCons (eTup (aNil)) (aCons (eV 15) (aNil))))))) (eV 16)) (sRet (eC (.bl false))) (sNil)) (b_law_28)
noncomputable def b_law_24  : SM := sSeq (sFor (iR (aCons (e2 subD (eN lenD (aCons (eV 5) (aNil))) (eC (.int 1))) (aNil))) (gN 7) (b_law_25) [7]) (b_law_26)
noncomputable def b_law_23  : SM := sSeq (sAsg (gN 16) (eC (.int 0))) (b_law_24)
noncomputable def b_law_22  : SM := sSeq (sAsg (gN 15) (e2 (addD false) (eV 14) (e2 ixA (eLst false (aCons (eC (.int 0)) (aCons (eC (.int 1)) (aCons (eN m_law_take (aCons (eV 1) (aCons (eC (.int 200)) (aNil)))) (aCons (e2 subD (eC (.int 999)) (eV 14)) (aNil)))))) (eN m_law_take (aCons (eV 1) (aCons (eC (.int 4)) (aNil))))))) (b_law_23)
noncomputable def b_law_21  : SM := sSeq (sAsg (gN 14) (eN maxD (aCons (eComp false (iE (e2 ixA (e2 ixA (eV 2) (eC (.int 0))) (eC (.int 2)))) (gN 8) (eC (.bl true)) (e2 ixA (eV 8) (eC (.int 3))) [8]) (aNil)))) (b_law_22)
noncomputable def b_law_19  : SM := sSeq (sIf (e2 neD (eN m_law_asked (aCons (eC (.int 1)) (aCons (eV 2) (aCons (eV 4) (aCons (eV 12) (aCons (eV 9) (aNil))))))) (eIf (e2 (inA false inD) (eC .non) (eV 13)) (eC .non) (eN maxD (aCons (eV 13) (aNil))))) (sRet (eC (.bl false))) (sNil)) (b_law_21)
noncomputable def b_law_18  : SM := sSeq (sAsg (gN 13) (eComp false (iE (eV 12)) (gN 8) (eC (.bl true)) (e2 ixA (eV 10) (eV 8)) [8])) (b_law_19)
noncomputable def b_law_16  : SM := sSeq (sIf (e2 eqD (eN lenD (aCons (eV 12) (aNil))) (eC (.int 0))) (sAsg (gN 12) (eTup (aCons (eN m_law_take (aCons (eV 1) (aCons (eV 3) (aNil)))) (aNil)))) (sNil)) (b_law_18)
noncomputable def b_law_15  : SM := sSeq (sAsg (gN 12) (eN m_law_some (aCons (eV 1) (aCons (eV 3) (aNil))))) (b_law_16)
noncomputable def b_law_13  : SM := sSeq (sIf (e2 neD (eN m_law_asked (aCons (eC (.int 0)) (aCons (eV 2) (aCons (eV 4) (aCons (eTup (aNil)) (aCons (eV 9) (aNil))))))) (eN tupleD (aCons (eV 10) (aNil)))) (sRet (eC (.bl false))) (sNil)) (b_law_15)
noncomputable def b_law_12  : SM := sSeq (sAsg (gN 10) (eComp false (iE (eV 6)) (gN 11) (eC (.bl true)) (eIf (e2 isD (eV 11) (eC .non)) (eC .non) (e2 (addD false) (eV 11) (eV 9))) [11])) (b_law_13)
noncomputable def b_law_11  : SM := sSeq (sAsg (gN 9) (eN m_law_take (aCons (eV 1) (aCons (eC (.int 10)) (aNil))))) (b_law_12)
noncomputable def b_law_7  : SM := sSeq (sFor (iR (aCons (eC (.int 1)) (aCons (eN lenD (aCons (eV 5) (aNil))) (aNil)))) (gN 7) (b_law_8) [7]) (b_law_11)
noncomputable def b_law_6  : SM := sSeq (sAsg (gN 6) (e2 (mulD true) (eLst false (aCons (eC .non) (aNil))) (eV 3))) (b_law_7)
noncomputable def b_law_5  : SM := sSeq (sAsg (gN 5) (e2 ixA (eN m_run (aCons (eV 2) (aCons (eV 4) (aNil)))) (eC (.int 0)))) (b_law_6)
noncomputable def b_law_4  : SM := sSeq (sAsg (gN 4) (eN m_law_course (aCons (eV 1) (aCons (eV 2) (aNil))))) (b_law_5)
noncomputable def b_law_3  : SM := sSeq (sAsg (gN 3) (eN lenD (aCons (e2 ixA (e2 ixA (eV 2) (eC (.int 0))) (eC (.int 2))) (aNil)))) (b_law_4)
noncomputable def b_law_2  : SM := sSeq (sAsg (gN 2) (eN m_law_case (aCons (eV 1) (aCons (e2 (addD false) (eC (.int 1)) (eN m_law_take (aCons (eV 1) (aCons (eC (.int 4)) (aNil))))) (aNil))))) (b_law_3)
noncomputable def b_law  : SM := sSeq (sAsg (gN 1) (eN m_law_begin (aCons (eV 0) (aNil)))) (b_law_2)
noncomputable def m_law : FnD := fnD 21 b_law
section
variable {P : Program} {w : World} {K : PySem.W.Frag} {mg : Str → Option Value} {base : Heap}
theorem ok_ascends (Z : Zs P K mg) {fa : Addr} {fd : FuncData} (F : Fun K "ascends" "ascends" s_ascends fa fd) : FnM P w K mg base (0 + 1) fa fd ["row"] (fnD 3 (b_ascends)) := fn_D F sc_ascends fun cdv A outer s1 H1 E1 hr => by
  have tk : Takes (cxOf (L2.CX P w) P w K mg base ["row", "one", "other"] "ascends" (defScope s_ascends) fa cdv A outer s1 H1 E1) (fun cls d _ H => E1 cls d H) := takes_of rfl rfl rfl rfl
  have hp : PassesOwn (model P w) (cxOf (L2.CX P w) P w K mg base ["row", "one", "other"] "ascends" (defScope s_ascends) fa cdv A outer s1 H1 E1).A (cxOf (L2.CX P w) P w K mg base ["row", "one", "other"] "ascends" (defScope s_ascends) fa cdv A outer s1 H1 E1).env (cxOf (L2.CX P w) P w K mg base ["row", "one", "other"] "ascends" (defScope s_ascends) fa cdv A outer s1 H1 E1).xe := passes_of rfl
  exact ms_one (st_ret (m_bi (cr_all rfl) s_all Z.all (by decide +kernel) (ma_cons (m_comp false [("one", 1), ("other", 2)] sc_ascends.nd (i_zp Z.zip (ma_cons (m_var 0) (ma_cons (m_sl false (m_var 0) (mo_some (m_int)) (mo_none)) (ma_nil)))) (blkOk_by (N := ["row", "one", "other"]) (sc := defScope s_ascends) (by decide +kernel)) (fun s2 H2 C2 cl2 fp2 => g_tup (g_cons (g_name 1 sc_ascends.nd) (g_cons (g_name 2 sc_ascends.nd) (g_nil)))) (fun s2 H2 C2 cl2 fp2 => ts_nil) (fun s2 H2 C2 cl2 fp2 => m_cmp or_lt s_lt (m_var 1) (m_var 2))) (ma_nil))))
theorem ok_Clock_init (Z : Zs P K mg) {fa : Addr} {fd : FuncData} (F : Fun K "__init__" "Clock.__init__" s_Clock_init fa fd) : FnM P w K mg base (0 + 1) fa fd ["self", "film", "minute"] (fnK 3 (b_Clock_init)) := fn_K F sc_Clock_init fun cdv A outer s1 H1 E1 hr => by
  have tk : Takes (cxOf (L2.CX P w) P w K mg base ["self", "film", "minute"] "Clock.__init__" (defScope s_Clock_init) fa cdv A outer s1 H1 E1) (fun cls d _ H => E1 cls d H) := takes_of rfl rfl rfl rfl
  have hp : PassesOwn (model P w) (cxOf (L2.CX P w) P w K mg base ["self", "film", "minute"] "Clock.__init__" (defScope s_Clock_init) fa cdv A outer s1 H1 E1).A (cxOf (L2.CX P w) P w K mg base ["self", "film", "minute"] "Clock.__init__" (defScope s_Clock_init) fa cdv A outer s1 H1 E1).env (cxOf (L2.CX P w) P w K mg base ["self", "film", "minute"] "Clock.__init__" (defScope s_Clock_init) fa cdv A outer s1 H1 E1).xe := passes_of rfl
  exact ms_cons (st_fld Z.fl (m_var 0) (m_var 1)) (ms_cons (st_fld Z.fl (m_var 0) (m_var 2)) (ms_cons (st_fld Z.fl (m_var 0) (m_non)) (ms_one (st_fld Z.fl (m_var 0) (m_lst true (ma_nil))))))
theorem ok_Clock_take (Z : Zs P K mg) {fa : Addr} {fd : FuncData} (F : Fun K "take" "Clock.take" s_Clock_take fa fd) : FnM P w K mg base (0 + 1) fa fd ["self", "item", "minutes"] (fnD 3 (b_Clock_take)) := fn_D F sc_Clock_take fun cdv A outer s1 H1 E1 hr => by
  have tk : Takes (cxOf (L2.CX P w) P w K mg base ["self", "item", "minutes"] "Clock.take" (defScope s_Clock_take) fa cdv A outer s1 H1 E1) (fun cls d _ H => E1 cls d H) := takes_of rfl rfl rfl rfl
  have hp : PassesOwn (model P w) (cxOf (L2.CX P w) P w K mg base ["self", "item", "minutes"] "Clock.take" (defScope s_Clock_take) fa cdv A outer s1 H1 E1).A (cxOf (L2.CX P w) P w K mg base ["self", "item", "minutes"] "Clock.take" (defScope s_Clock_take) fa cdv A outer s1 H1 E1).env (cxOf (L2.CX P w) P w K mg base ["self", "item", "minutes"] "Clock.take" (defScope s_Clock_take) fa cdv A outer s1 H1 E1).xe := passes_of rfl
  exact ms_cons (st_expr (m_meth PySem.F.plainAttrs_list PySem.F.slot_list_append PySem.F.type_list_append mt_append s_append (m_fld Z.fl (m_var 0)) (ma_cons (m_tup (ma_cons (m_var 1) (ma_cons (m_fld Z.fl (m_var 0)) (ma_cons (m_op or_add (s_add false) (m_fld Z.fl (m_var 0)) (m_var 2)) (ma_nil))))) (ma_nil)))) (ms_one (st_flda Z.fl iop_add s_iadd (m_var 0) (m_var 2)))
theorem ok_Clock_shoot (Z : Zs P K mg) (C_Clock_take : CalM P w K mg base "Clock" "take" 1 ["self", "item", "minutes"] m_Clock_take) {fa : Addr} {fd : FuncData} (F : Fun K "shoot" "Clock.shoot" s_Clock_shoot fa fd) : FnM P w K mg base (1 + 1) fa fd ["self", "scene"] (fnD 5 (b_Clock_shoot)) := fn_D F sc_Clock_shoot fun cdv A outer s1 H1 E1 hr => by
  have tk : Takes (cxOf (L2.CX P w) P w K mg base ["self", "scene", "_", "place", "minutes"] "Clock.shoot" (defScope s_Clock_shoot) fa cdv A outer s1 H1 E1) (fun cls d _ H => E1 cls d H) := takes_of rfl rfl rfl rfl
  have hp : PassesOwn (model P w) (cxOf (L2.CX P w) P w K mg base ["self", "scene", "_", "place", "minutes"] "Clock.shoot" (defScope s_Clock_shoot) fa cdv A outer s1 H1 E1).A (cxOf (L2.CX P w) P w K mg base ["self", "scene", "_", "place", "minutes"] "Clock.shoot" (defScope s_Clock_shoot) fa cdv A outer s1 H1 E1).env (cxOf (L2.CX P w) P w K mg base ["self", "scene", "_", "place", "minutes"] "Clock.shoot" (defScope s_Clock_shoot) fa cdv A outer s1 H1 E1).xe := passes_of rfl
  exact ms_cons (st_asg (m_ixA (hu1 hr) (m_ixA (hu1 hr) (m_fld Z.fl (m_var 0)) (m_int)) (m_var 1)) (g_tup (g_cons (g_name 2 sc_Clock_shoot.nd) (g_cons (g_name 3 sc_Clock_shoot.nd) (g_cons (g_name 2 sc_Clock_shoot.nd) (g_cons (g_name 4 sc_Clock_shoot.nd) (g_cons (g_name 2 sc_Clock_shoot.nd) (g_cons (g_name 2 sc_Clock_shoot.nd) (g_nil))))))))) (ms_cons (st_if (t_w (w_and (t_cmp or_isnot s_isnot (m_fld Z.fl (m_var 0)) (m_non)) (w_and1 (t_cmp (or_ne (hu64 hr)) s_ne (m_fld Z.fl (m_var 0)) (m_var 3))))) (ms_one (st_flda Z.fl iop_add s_iadd (m_var 0) (m_ixA (hu1 hr) (m_ixA (hu1 hr) (m_fld Z.fl (m_var 0)) (m_int)) (m_int)))) (ms_nil)) (ms_cons (st_fld Z.fl (m_var 0) (m_var 3)) (ms_one (st_expr (m_mcal C_Clock_take (hr.mono (by omega)) tk (m_var 0) (ma_cons (m_var 1) (ma_cons (m_var 4) (ma_nil))))))))
theorem ok_hours (Z : Zs P K mg) (C_Clock_init : CalI P w K mg base "Clock" 1 ["self", "film", "minute"] m_Clock_init) (C_Clock_take : CalM P w K mg base "Clock" "take" 1 ["self", "item", "minutes"] m_Clock_take) (C_Clock_shoot : CalM P w K mg base "Clock" "shoot" 2 ["self", "scene"] m_Clock_shoot) {fa : Addr} {fd : FuncData} (F : Fun K "hours" "hours" s_hours fa fd) : FnM P w K mg base (2 + 1) fa fd ["film", "sheet", "shot", "news"] (fnD 10 (b_hours)) := fn_D F sc_hours fun cdv A outer s1 H1 E1 hr => by
  have tk : Takes (cxOf (L2.CX P w) P w K mg base ["film", "sheet", "shot", "news", "weather", "ill", "late", "clock", "fallen", "item"] "hours" (defScope s_hours) fa cdv A outer s1 H1 E1) (fun cls d _ H => E1 cls d H) := takes_of rfl rfl rfl rfl
  have hp : PassesOwn (model P w) (cxOf (L2.CX P w) P w K mg base ["film", "sheet", "shot", "news", "weather", "ill", "late", "clock", "fallen", "item"] "hours" (defScope s_hours) fa cdv A outer s1 H1 E1).A (cxOf (L2.CX P w) P w K mg base ["film", "sheet", "shot", "news", "weather", "ill", "late", "clock", "fallen", "item"] "hours" (defScope s_hours) fa cdv A outer s1 H1 E1).env (cxOf (L2.CX P w) P w K mg base ["film", "sheet", "shot", "news", "weather", "ill", "late", "clock", "fallen", "item"] "hours" (defScope s_hours) fa cdv A outer s1 H1 E1).xe := passes_of rfl
  exact ms_cons (st_asg (m_var 3) (g_tup (g_cons (g_name 4 sc_hours.nd) (g_cons (g_name 5 sc_hours.nd) (g_cons (g_name 6 sc_hours.nd) (g_nil)))))) (ms_cons (st_set 7 sc_hours.nd (m_make C_Clock_init (hr.mono (by omega)) (ma_cons (m_var 0) (ma_cons (m_op or_add (s_add false) (m_ixA (hu1 hr) (m_var 1) (m_int)) (m_var 6)) (ma_nil))))) (ms_cons (st_set 8 sc_hours.nd (m_lst true (ma_nil))) (ms_cons (st_for [9] hp (i_sq (m_if (t_cmp (or_eq (hu64 hr)) s_eq (m_var 4) (m_str)) (m_ixA (hu1 hr) (m_var 1) (m_int)) (m_ixA (hu1 hr) (m_var 1) (m_int)))) (g_name 9 sc_hours.nd) (ms_one (st_if (t_cmp (or_eq (hu64 hr)) s_eq (m_var 9) (m_glob Z.c_MEAL)) (ms_one (st_expr (m_mcal C_Clock_take (hr.mono (by omega)) tk (m_var 7) (ma_cons (m_var 9) (ma_cons (m_ixA (hu1 hr) (m_ixA (hu1 hr) (m_var 0) (m_int)) (m_int)) (ma_nil)))))) (ms_one (st_if (t_cmp (or_ninA (hu65 hr)) (s_inA s_nin) (m_var 9) (m_var 2)) (ms_one (st_if (t_cmp (or_inA (hu65 hr)) (s_inA s_in) (m_var 5) (m_ixA (hu1 hr) (m_ixA (hu1 hr) (m_ixA (hu1 hr) (m_var 0) (m_int)) (m_var 9)) (m_int))) (ms_one (st_expr (m_meth PySem.F.plainAttrs_list PySem.F.slot_list_append PySem.F.type_list_append mt_append s_append (m_var 8) (ma_cons (m_var 9) (ma_nil))))) (ms_one (st_expr (m_mcal C_Clock_shoot (hr.mono (by omega)) tk (m_var 7) (ma_cons (m_var 9) (ma_nil))))))) (ms_nil)))))) (ms_one (st_ret (m_tup (ma_cons (m_ty call_tuple_of s_tuple Z.tuple (by decide +kernel) (ma_cons (m_fld Z.fl (m_var 7)) (ma_nil))) (ma_cons (m_ty call_tuple_of s_tuple Z.tuple (by decide +kernel) (ma_cons (m_bi (cr_sortA (hu65 hr)) (s_sorted false) Z.sorted (by decide +kernel) (ma_cons (m_var 8) (ma_nil))) (ma_nil))) (ma_nil)))))))))
theorem ok_compared (Z : Zs P K mg) {fa : Addr} {fd : FuncData} (F : Fun K "compared" "compared" s_compared fa fd) : FnM P w K mg base (0 + 1) fa fd ["number", "sign", "other"] (fnD 3 (b_compared)) := fn_D F sc_compared fun cdv A outer s1 H1 E1 hr => by
  have tk : Takes (cxOf (L2.CX P w) P w K mg base ["number", "sign", "other"] "compared" (defScope s_compared) fa cdv A outer s1 H1 E1) (fun cls d _ H => E1 cls d H) := takes_of rfl rfl rfl rfl
  have hp : PassesOwn (model P w) (cxOf (L2.CX P w) P w K mg base ["number", "sign", "other"] "compared" (defScope s_compared) fa cdv A outer s1 H1 E1).A (cxOf (L2.CX P w) P w K mg base ["number", "sign", "other"] "compared" (defScope s_compared) fa cdv A outer s1 H1 E1).env (cxOf (L2.CX P w) P w K mg base ["number", "sign", "other"] "compared" (defScope s_compared) fa cdv A outer s1 H1 E1).xe := passes_of rfl
  exact ms_cons (st_if (t_cmp (or_eq (hu64 hr)) s_eq (m_var 1) (m_str)) (ms_one (st_ret (m_cmp or_lt s_lt (m_var 0) (m_var 2)))) (ms_nil)) (ms_cons (st_if (t_cmp (or_eq (hu64 hr)) s_eq (m_var 1) (m_str)) (ms_one (st_ret (m_cmp op_le s_le (m_var 0) (m_var 2)))) (ms_nil)) (ms_cons (st_if (t_cmp (or_eq (hu64 hr)) s_eq (m_var 1) (m_str)) (ms_one (st_ret (m_cmp op_gt s_gt (m_var 0) (m_var 2)))) (ms_nil)) (ms_cons (st_if (t_cmp (or_eq (hu64 hr)) s_eq (m_var 1) (m_str)) (ms_one (st_ret (m_cmp op_ge s_ge (m_var 0) (m_var 2)))) (ms_nil)) (ms_one (st_ret (m_cmp (or_eq (hu64 hr)) s_eq (m_cmp (or_eq (hu64 hr)) s_eq (m_var 0) (m_var 2)) (m_cmp (or_eq (hu64 hr)) s_eq (m_var 1) (m_str))))))))
theorem ok_holds (Z : Zs P K mg) {n : Nat} {m_holds : FnD} (C_compared : Cal P w K mg base "compared" 1 ["number", "sign", "other"] m_compared) (C_holds : Cal P w K mg base "holds" (1 + n) ["condition", "figures"] m_holds) {fa : Addr} {fd : FuncData} (F : Fun K "holds" "holds" s_holds fa fd) : FnM P w K mg base ((1 + n) + 1) fa fd ["condition", "figures"] (fnD 4 (b_holds m_holds)) := fn_D F sc_holds fun cdv A outer s1 H1 E1 hr => by
  have tk : Takes (cxOf (L2.CX P w) P w K mg base ["condition", "figures", "kind", "first"] "holds" (defScope s_holds) fa cdv A outer s1 H1 E1) (fun cls d _ H => E1 cls d H) := takes_of rfl rfl rfl rfl
  have hp : PassesOwn (model P w) (cxOf (L2.CX P w) P w K mg base ["condition", "figures", "kind", "first"] "holds" (defScope s_holds) fa cdv A outer s1 H1 E1).A (cxOf (L2.CX P w) P w K mg base ["condition", "figures", "kind", "first"] "holds" (defScope s_holds) fa cdv A outer s1 H1 E1).env (cxOf (L2.CX P w) P w K mg base ["condition", "figures", "kind", "first"] "holds" (defScope s_holds) fa cdv A outer s1 H1 E1).xe := passes_of rfl
  exact ms_cons (st_set 2 sc_holds.nd (m_ixA (hu1 hr) (m_var 0) (m_int))) (ms_cons (st_if (t_cmp (or_eq (hu64 hr)) s_eq (m_var 2) (m_str)) (ms_one (st_ret (m_cal C_compared (hr.mono (by omega)) tk (ma_cons (m_ixA (hu1 hr) (m_var 1) (m_ixT Z.t_FIGURES (ma_cons (m_ixA (hu1 hr) (m_var 0) (m_int)) (ma_nil)))) (ma_cons (m_ixA (hu1 hr) (m_var 0) (m_int)) (ma_cons (m_ixA (hu1 hr) (m_var 0) (m_int)) (ma_nil))))))) (ms_nil)) (ms_cons (st_if (t_cmp (or_eq (hu64 hr)) s_eq (m_var 2) (m_str)) (ms_one (st_ret (m_not (m_cal C_holds (hr.mono (by omega)) tk (ma_cons (m_ixA (hu1 hr) (m_var 0) (m_int)) (ma_cons (m_var 1) (ma_nil))))))) (ms_nil)) (ms_cons (st_set 3 sc_holds.nd (m_cal C_holds (hr.mono (by omega)) tk (ma_cons (m_ixA (hu1 hr) (m_var 0) (m_int)) (ma_cons (m_var 1) (ma_nil))))) (ms_cons (st_if (t_cmp (or_eq (hu64 hr)) s_eq (m_var 2) (m_str)) (ms_one (st_ret (m_and (m_var 3) (m_one (m_cal C_holds (hr.mono (by omega)) tk (ma_cons (m_ixA (hu1 hr) (m_var 0) (m_int)) (ma_cons (m_var 1) (ma_nil)))))))) (ms_nil)) (ms_cons (st_if (t_cmp (or_eq (hu64 hr)) s_eq (m_var 2) (m_str)) (ms_one (st_ret (m_or (m_var 3) (m_one (m_cal C_holds (hr.mono (by omega)) tk (ma_cons (m_ixA (hu1 hr) (m_var 0) (m_int)) (ma_cons (m_var 1) (ma_nil)))))))) (ms_nil)) (ms_one (st_ret (m_or (m_not (m_var 3)) (m_one (m_cal C_holds (hr.mono (by omega)) tk (ma_cons (m_ixA (hu1 hr) (m_var 0) (m_int)) (ma_cons (m_var 1) (ma_nil)))))))))))))
theorem ok_is_for (Z : Zs P K mg) {fa : Addr} {fd : FuncData} (F : Fun K "is_for" "is_for" s_is_for fa fd) : FnM P w K mg base (0 + 1) fa fd ["film", "who", "actor"] (fnD 3 (b_is_for)) := fn_D F sc_is_for fun cdv A outer s1 H1 E1 hr => by
  have tk : Takes (cxOf (L2.CX P w) P w K mg base ["film", "who", "actor"] "is_for" (defScope s_is_for) fa cdv A outer s1 H1 E1) (fun cls d _ H => E1 cls d H) := takes_of rfl rfl rfl rfl
  have hp : PassesOwn (model P w) (cxOf (L2.CX P w) P w K mg base ["film", "who", "actor"] "is_for" (defScope s_is_for) fa cdv A outer s1 H1 E1).A (cxOf (L2.CX P w) P w K mg base ["film", "who", "actor"] "is_for" (defScope s_is_for) fa cdv A outer s1 H1 E1).env (cxOf (L2.CX P w) P w K mg base ["film", "who", "actor"] "is_for" (defScope s_is_for) fa cdv A outer s1 H1 E1).xe := passes_of rfl
  exact ms_one (st_ret (m_or (m_cmp (or_inA (hu65 hr)) (s_inA s_in) (m_var 1) (m_tup (ma_cons (m_un un_neg s_neg (m_int)) (ma_cons (m_var 2) (ma_nil))))) (m_one (m_and (m_cmp (or_eq (hu64 hr)) s_eq (m_var 1) (m_un un_neg s_neg (m_int))) (m_one (m_ixA (hu1 hr) (m_ixA (hu1 hr) (m_ixA (hu1 hr) (m_var 0) (m_int)) (m_var 2)) (m_int)))))))
theorem ok_broken (Z : Zs P K mg) (C_is_for : Cal P w K mg base "is_for" 1 ["film", "who", "actor"] m_is_for) (C_holds : Cal P w K mg base "holds" 9 ["condition", "figures"] (m_holds 8)) {fa : Addr} {fd : FuncData} (F : Fun K "broken" "broken" s_broken fa fd) : FnM P w K mg base (9 + 1) fa fd ["film", "rules", "actor", "figures"] (fnD 9 (b_broken)) := fn_D F sc_broken fun cdv A outer s1 H1 E1 hr => by
  have tk : Takes (cxOf (L2.CX P w) P w K mg base ["film", "rules", "actor", "figures", "found", "k", "_", "who", "condition"] "broken" (defScope s_broken) fa cdv A outer s1 H1 E1) (fun cls d _ H => E1 cls d H) := takes_of rfl rfl rfl rfl
  have hp : PassesOwn (model P w) (cxOf (L2.CX P w) P w K mg base ["film", "rules", "actor", "figures", "found", "k", "_", "who", "condition"] "broken" (defScope s_broken) fa cdv A outer s1 H1 E1).A (cxOf (L2.CX P w) P w K mg base ["film", "rules", "actor", "figures", "found", "k", "_", "who", "condition"] "broken" (defScope s_broken) fa cdv A outer s1 H1 E1).env (cxOf (L2.CX P w) P w K mg base ["film", "rules", "actor", "figures", "found", "k", "_", "who", "condition"] "broken" (defScope s_broken) fa cdv A outer s1 H1 E1).xe := passes_of rfl
  exact ms_cons (st_set 4 sc_broken.nd (m_lst true (ma_nil))) (ms_cons (st_for [5, 6, 7, 8] hp (i_en Z.enumerate (ma_cons (m_var 1) (ma_nil))) (g_tup (g_cons (g_name 5 sc_broken.nd) (g_cons (g_tup (g_cons (g_name 6 sc_broken.nd) (g_cons (g_name 7 sc_broken.nd) (g_cons (g_name 8 sc_broken.nd) (g_nil))))) (g_nil)))) (ms_one (st_if (t_w (w_and (t_tru (m_cal C_is_for (hr.mono (by omega)) tk (ma_cons (m_var 0) (ma_cons (m_var 7) (ma_cons (m_var 2) (ma_nil)))))) (w_and1 (t_not (t_tru (m_cal C_holds (hr.mono (by omega)) tk (ma_cons (m_var 8) (ma_cons (m_var 3) (ma_nil))))))))) (ms_one (st_expr (m_meth PySem.F.plainAttrs_list PySem.F.slot_list_append PySem.F.type_list_append mt_append s_append (m_var 4) (ma_cons (m_var 5) (ma_nil))))) (ms_nil)))) (ms_one (st_ret (m_ty call_tuple_of s_tuple Z.tuple (by decide +kernel) (ma_cons (m_var 4) (ma_nil))))))
theorem ok_is_there (Z : Zs P K mg) {fa : Addr} {fd : FuncData} (F : Fun K "is_there" "is_there" s_is_there fa fd) : FnM P w K mg base (0 + 1) fa fd ["calendar", "actor", "day"] (fnD 6 (b_is_there)) := fn_D F sc_is_there fun cdv A outer s1 H1 E1 hr => by
  have tk : Takes (cxOf (L2.CX P w) P w K mg base ["calendar", "actor", "day", "one", "first", "last"] "is_there" (defScope s_is_there) fa cdv A outer s1 H1 E1) (fun cls d _ H => E1 cls d H) := takes_of rfl rfl rfl rfl
  have hp : PassesOwn (model P w) (cxOf (L2.CX P w) P w K mg base ["calendar", "actor", "day", "one", "first", "last"] "is_there" (defScope s_is_there) fa cdv A outer s1 H1 E1).A (cxOf (L2.CX P w) P w K mg base ["calendar", "actor", "day", "one", "first", "last"] "is_there" (defScope s_is_there) fa cdv A outer s1 H1 E1).env (cxOf (L2.CX P w) P w K mg base ["calendar", "actor", "day", "one", "first", "last"] "is_there" (defScope s_is_there) fa cdv A outer s1 H1 E1).xe := passes_of rfl
  exact ms_one (st_ret (m_not (m_bi (cr_any rfl) s_any Z.any (by decide +kernel) (ma_cons (m_comp false [("one", 3), ("first", 4), ("last", 5)] sc_is_there.nd (i_sq (m_ixA (hu1 hr) (m_var 0) (m_int))) (blkOk_by (N := ["calendar", "actor", "day", "one", "first", "last"]) (sc := defScope s_is_there) (by decide +kernel)) (fun s2 H2 C2 cl2 fp2 => g_tup (g_cons (g_name 3 sc_is_there.nd) (g_cons (g_name 4 sc_is_there.nd) (g_cons (g_name 5 sc_is_there.nd) (g_nil))))) (fun s2 H2 C2 cl2 fp2 => ts_nil) (fun s2 H2 C2 cl2 fp2 => m_and (m_cmp (or_eq (hu64 hr)) s_eq (m_var 3) (m_var 1)) (m_one (m_chain op_le s_le op_le s_le (m_var 4) (m_var 2) (m_var 5))))) (ma_nil)))))
theorem ok_is_open (Z : Zs P K mg) {fa : Addr} {fd : FuncData} (F : Fun K "is_open" "is_open" s_is_open fa fd) : FnM P w K mg base (0 + 1) fa fd ["calendar", "place", "day"] (fnD 6 (b_is_open)) := fn_D F sc_is_open fun cdv A outer s1 H1 E1 hr => by
  have tk : Takes (cxOf (L2.CX P w) P w K mg base ["calendar", "place", "day", "one", "first", "last"] "is_open" (defScope s_is_open) fa cdv A outer s1 H1 E1) (fun cls d _ H => E1 cls d H) := takes_of rfl rfl rfl rfl
  have hp : PassesOwn (model P w) (cxOf (L2.CX P w) P w K mg base ["calendar", "place", "day", "one", "first", "last"] "is_open" (defScope s_is_open) fa cdv A outer s1 H1 E1).A (cxOf (L2.CX P w) P w K mg base ["calendar", "place", "day", "one", "first", "last"] "is_open" (defScope s_is_open) fa cdv A outer s1 H1 E1).env (cxOf (L2.CX P w) P w K mg base ["calendar", "place", "day", "one", "first", "last"] "is_open" (defScope s_is_open) fa cdv A outer s1 H1 E1).xe := passes_of rfl
  exact ms_one (st_ret (m_not (m_bi (cr_any rfl) s_any Z.any (by decide +kernel) (ma_cons (m_comp false [("one", 3), ("first", 4), ("last", 5)] sc_is_open.nd (i_sq (m_ixA (hu1 hr) (m_var 0) (m_int))) (blkOk_by (N := ["calendar", "place", "day", "one", "first", "last"]) (sc := defScope s_is_open) (by decide +kernel)) (fun s2 H2 C2 cl2 fp2 => g_tup (g_cons (g_name 3 sc_is_open.nd) (g_cons (g_name 4 sc_is_open.nd) (g_cons (g_name 5 sc_is_open.nd) (g_nil))))) (fun s2 H2 C2 cl2 fp2 => ts_nil) (fun s2 H2 C2 cl2 fp2 => m_and (m_cmp (or_eq (hu64 hr)) s_eq (m_var 3) (m_var 1)) (m_one (m_chain op_le s_le op_le s_le (m_var 4) (m_var 2) (m_var 5))))) (ma_nil)))))
theorem ok_dark_minutes (Z : Zs P K mg) {fa : Addr} {fd : FuncData} (F : Fun K "dark_minutes" "dark_minutes" s_dark_minutes fa fd) : FnM P w K mg base (0 + 1) fa fd ["light", "dark", "begin", "end"] (fnD 4 (b_dark_minutes)) := fn_D F sc_dark_minutes fun cdv A outer s1 H1 E1 hr => by
  have tk : Takes (cxOf (L2.CX P w) P w K mg base ["light", "dark", "begin", "end"] "dark_minutes" (defScope s_dark_minutes) fa cdv A outer s1 H1 E1) (fun cls d _ H => E1 cls d H) := takes_of rfl rfl rfl rfl
  have hp : PassesOwn (model P w) (cxOf (L2.CX P w) P w K mg base ["light", "dark", "begin", "end"] "dark_minutes" (defScope s_dark_minutes) fa cdv A outer s1 H1 E1).A (cxOf (L2.CX P w) P w K mg base ["light", "dark", "begin", "end"] "dark_minutes" (defScope s_dark_minutes) fa cdv A outer s1 H1 E1).env (cxOf (L2.CX P w) P w K mg base ["light", "dark", "begin", "end"] "dark_minutes" (defScope s_dark_minutes) fa cdv A outer s1 H1 E1).xe := passes_of rfl
  exact ms_one (st_ret (m_op op_sub s_sub (m_op op_sub s_sub (m_var 3) (m_var 2)) (m_bi (or_max rfl) s_max Z.max (by decide +kernel) (ma_cons (m_int) (ma_cons (m_op op_sub s_sub (m_bi (or_minB rfl (hu65 hr)) s_minB Z.min (by decide +kernel) (ma_cons (m_var 3) (ma_cons (m_var 1) (ma_nil)))) (m_bi (or_max rfl) s_max Z.max (by decide +kernel) (ma_cons (m_var 2) (ma_cons (m_var 0) (ma_nil))))) (ma_nil))))))
theorem ok_longest_stretch (Z : Zs P K mg) {fa : Addr} {fd : FuncData} (F : Fun K "longest_stretch" "longest_stretch" s_longest_stretch fa fd) : FnM P w K mg base (0 + 1) fa fd ["rows", "call", "wrap"] (fnD 8 (b_longest_stretch)) := fn_D F sc_longest_stretch fun cdv A outer s1 H1 E1 hr => by
  have tk : Takes (cxOf (L2.CX P w) P w K mg base ["rows", "call", "wrap", "longest", "start", "item", "begin", "end"] "longest_stretch" (defScope s_longest_stretch) fa cdv A outer s1 H1 E1) (fun cls d _ H => E1 cls d H) := takes_of rfl rfl rfl rfl
  have hp : PassesOwn (model P w) (cxOf (L2.CX P w) P w K mg base ["rows", "call", "wrap", "longest", "start", "item", "begin", "end"] "longest_stretch" (defScope s_longest_stretch) fa cdv A outer s1 H1 E1).A (cxOf (L2.CX P w) P w K mg base ["rows", "call", "wrap", "longest", "start", "item", "begin", "end"] "longest_stretch" (defScope s_longest_stretch) fa cdv A outer s1 H1 E1).env (cxOf (L2.CX P w) P w K mg base ["rows", "call", "wrap", "longest", "start", "item", "begin", "end"] "longest_stretch" (defScope s_longest_stretch) fa cdv A outer s1 H1 E1).xe := passes_of rfl
  exact ms_cons (st_set 3 sc_longest_stretch.nd (m_int)) (ms_cons (st_set 4 sc_longest_stretch.nd (m_var 1)) (ms_cons (st_for [5, 6, 7] hp (i_sq (m_var 0)) (g_tup (g_cons (g_name 5 sc_longest_stretch.nd) (g_cons (g_name 6 sc_longest_stretch.nd) (g_cons (g_name 7 sc_longest_stretch.nd) (g_nil))))) (ms_one (st_if (t_w (w_and (t_cmp (or_eq (hu64 hr)) s_eq (m_var 5) (m_glob Z.c_MEAL)) (w_and (t_cmp op_le s_le (m_var 1) (m_var 6)) (w_and1 (t_cmp op_le s_le (m_var 7) (m_var 2)))))) (ms_cons (st_set 3 sc_longest_stretch.nd (m_bi (or_max rfl) s_max Z.max (by decide +kernel) (ma_cons (m_var 3) (ma_cons (m_op op_sub s_sub (m_var 6) (m_var 4)) (ma_nil))))) (ms_one (st_set 4 sc_longest_stretch.nd (m_var 7)))) (ms_nil)))) (ms_one (st_ret (m_bi (or_max rfl) s_max Z.max (by decide +kernel) (ma_cons (m_var 3) (ma_cons (m_op op_sub s_sub (m_var 2) (m_var 4)) (ma_nil))))))))
theorem ok_figures_of (Z : Zs P K mg) (C_longest_stretch : Cal P w K mg base "longest_stretch" 1 ["rows", "call", "wrap"] m_longest_stretch) (C_dark_minutes : Cal P w K mg base "dark_minutes" 1 ["light", "dark", "begin", "end"] m_dark_minutes) {fa : Addr} {fd : FuncData} (F : Fun K "figures_of" "figures_of" s_figures_of fa fd) : FnM P w K mg base (1 + 1) fa fd ["film", "calendar", "day", "rows", "actor", "before"] (fnD 16 (b_figures_of)) := fn_D F sc_figures_of fun cdv A outer s1 H1 E1 hr => by
  have tk : Takes (cxOf (L2.CX P w) P w K mg base ["film", "calendar", "day", "rows", "actor", "before", "own", "item", "begin", "end", "call", "wrap", "light", "dark", "is_on", "rest"] "figures_of" (defScope s_figures_of) fa cdv A outer s1 H1 E1) (fun cls d _ H => E1 cls d H) := takes_of rfl rfl rfl rfl
  have hp : PassesOwn (model P w) (cxOf (L2.CX P w) P w K mg base ["film", "calendar", "day", "rows", "actor", "before", "own", "item", "begin", "end", "call", "wrap", "light", "dark", "is_on", "rest"] "figures_of" (defScope s_figures_of) fa cdv A outer s1 H1 E1).A (cxOf (L2.CX P w) P w K mg base ["film", "calendar", "day", "rows", "actor", "before", "own", "item", "begin", "end", "call", "wrap", "light", "dark", "is_on", "rest"] "figures_of" (defScope s_figures_of) fa cdv A outer s1 H1 E1).env (cxOf (L2.CX P w) P w K mg base ["film", "calendar", "day", "rows", "actor", "before", "own", "item", "begin", "end", "call", "wrap", "light", "dark", "is_on", "rest"] "figures_of" (defScope s_figures_of) fa cdv A outer s1 H1 E1).xe := passes_of rfl
  exact ms_cons (st_setLc false 6 [("item", 7), ("begin", 8), ("end", 9)] sc_figures_of.nd (i_sq (m_var 3)) (blkOk_by (N := ["film", "calendar", "day", "rows", "actor", "before", "own", "item", "begin", "end", "call", "wrap", "light", "dark", "is_on", "rest"]) (sc := defScope s_figures_of) (by decide +kernel)) (fun s2 H2 C2 cl2 fp2 => g_tup (g_cons (g_name 7 sc_figures_of.nd) (g_cons (g_name 8 sc_figures_of.nd) (g_cons (g_name 9 sc_figures_of.nd) (g_nil))))) (fun s2 H2 C2 cl2 fp2 => ts_one (t_w (w_and (t_cmp (or_ne (hu64 hr)) s_ne (m_var 7) (m_glob Z.c_MEAL)) (w_and1 (t_cmp (or_inA (hu65 hr)) (s_inA s_in) (m_var 4) (m_ixA (hu1 hr) (m_ixA (hu1 hr) (m_ixA (hu1 hr) (m_var 0) (m_int)) (m_var 7)) (m_int))))))) (fun s2 H2 C2 cl2 fp2 => m_tup (ma_cons (m_var 8) (ma_cons (m_var 9) (ma_nil)))) (sw_true rfl rfl rfl (by decide +kernel))) (ms_cons (st_if (t_not (t_tru (m_var 6))) (ms_one (st_ret (m_non))) (ms_nil)) (ms_cons (st_set 10 sc_figures_of.nd (m_bi (or_max rfl) s_max Z.max (by decide +kernel) (ma_cons (m_int) (ma_cons (m_op op_sub s_sub (m_ixA (hu1 hr) (m_ixA (hu1 hr) (m_var 6) (m_int)) (m_int)) (m_ixA (hu1 hr) (m_ixA (hu1 hr) (m_var 0) (m_int)) (m_int))) (ma_nil))))) (ms_cons (st_set 11 sc_figures_of.nd (m_ixA (hu1 hr) (m_ixA (hu1 hr) (m_var 6) (m_un un_neg s_neg (m_int))) (m_int))) (ms_cons (st_asg (m_ixA (hu1 hr) (m_ixA (hu1 hr) (m_var 1) (m_int)) (m_var 2)) (g_tup (g_cons (g_name 12 sc_figures_of.nd) (g_cons (g_name 13 sc_figures_of.nd) (g_nil))))) (ms_cons (st_set 14 sc_figures_of.nd (m_cmp (or_ne (hu64 hr)) s_ne (m_ixA (hu1 hr) (m_var 5) (m_int)) (m_un un_neg s_neg (m_int)))) (ms_cons (st_set 15 sc_figures_of.nd (m_if (t_tru (m_var 14)) (m_bi (or_max rfl) s_max Z.max (by decide +kernel) (ma_cons (m_int) (ma_cons (m_op op_sub s_sub (m_op or_add (s_add false) (m_var 10) (m_glob Z.c_DAY)) (m_ixA (hu1 hr) (m_var 5) (m_int))) (ma_nil)))) (m_glob Z.c_NO_REST))) (ms_one (st_ret (m_tup (ma_cons (m_var 10) (ma_cons (m_var 11) (ma_cons (m_op op_sub s_sub (m_var 11) (m_var 10)) (ma_cons (m_bi (cr_sum rfl) s_sum Z.sum (by decide +kernel) (ma_cons (m_comp false [("begin", 8), ("end", 9)] sc_figures_of.nd (i_sq (m_var 6)) (blkOk_by (N := ["film", "calendar", "day", "rows", "actor", "before", "own", "item", "begin", "end", "call", "wrap", "light", "dark", "is_on", "rest"]) (sc := defScope s_figures_of) (by decide +kernel)) (fun s2 H2 C2 cl2 fp2 => g_tup (g_cons (g_name 8 sc_figures_of.nd) (g_cons (g_name 9 sc_figures_of.nd) (g_nil)))) (fun s2 H2 C2 cl2 fp2 => ts_nil) (fun s2 H2 C2 cl2 fp2 => m_op op_sub s_sub (m_var 9) (m_var 8))) (ma_nil))) (ma_cons (m_var 15) (ma_cons (m_if (t_tru (m_var 14)) (m_op or_add (s_add false) (m_ixA (hu1 hr) (m_var 5) (m_int)) (m_int)) (m_int)) (ma_cons (m_bi (cr_sum rfl) s_sum Z.sum (by decide +kernel) (ma_cons (m_comp false [("begin", 8), ("end", 9)] sc_figures_of.nd (i_sq (m_var 6)) (blkOk_by (N := ["film", "calendar", "day", "rows", "actor", "before", "own", "item", "begin", "end", "call", "wrap", "light", "dark", "is_on", "rest"]) (sc := defScope s_figures_of) (by decide +kernel)) (fun s2 H2 C2 cl2 fp2 => g_tup (g_cons (g_name 8 sc_figures_of.nd) (g_cons (g_name 9 sc_figures_of.nd) (g_nil)))) (fun s2 H2 C2 cl2 fp2 => ts_nil) (fun s2 H2 C2 cl2 fp2 => m_cal C_dark_minutes (hr.mono (by omega)) tk0 (ma_cons (m_var 12) (ma_cons (m_var 13) (ma_cons (m_var 8) (ma_cons (m_var 9) (ma_nil))))))) (ma_nil))) (ma_cons (m_cal C_longest_stretch (hr.mono (by omega)) tk (ma_cons (m_var 3) (ma_cons (m_var 10) (ma_cons (m_var 11) (ma_nil))))) (ma_cons (m_bi or_len s_len Z.len (by decide +kernel) (ma_cons (m_var 6) (ma_nil))) (ma_nil)))))))))))))))))))
theorem ok_is_lit (Z : Zs P K mg) {fa : Addr} {fd : FuncData} (F : Fun K "is_lit" "is_lit" s_is_lit fa fd) : FnM P w K mg base (0 + 1) fa fd ["light", "ends", "begin", "end"] (fnD 4 (b_is_lit)) := fn_D F sc_is_lit fun cdv A outer s1 H1 E1 hr => by
  have tk : Takes (cxOf (L2.CX P w) P w K mg base ["light", "ends", "begin", "end"] "is_lit" (defScope s_is_lit) fa cdv A outer s1 H1 E1) (fun cls d _ H => E1 cls d H) := takes_of rfl rfl rfl rfl
  have hp : PassesOwn (model P w) (cxOf (L2.CX P w) P w K mg base ["light", "ends", "begin", "end"] "is_lit" (defScope s_is_lit) fa cdv A outer s1 H1 E1).A (cxOf (L2.CX P w) P w K mg base ["light", "ends", "begin", "end"] "is_lit" (defScope s_is_lit) fa cdv A outer s1 H1 E1).env (cxOf (L2.CX P w) P w K mg base ["light", "ends", "begin", "end"] "is_lit" (defScope s_is_lit) fa cdv A outer s1 H1 E1).xe := passes_of rfl
  exact ms_cons (st_if (t_cmp (or_eq (hu64 hr)) s_eq (m_var 0) (m_str)) (ms_one (st_ret (m_and (m_cmp op_le s_le (m_ixA (hu1 hr) (m_var 1) (m_int)) (m_var 2)) (m_one (m_cmp op_le s_le (m_var 3) (m_ixA (hu1 hr) (m_var 1) (m_int))))))) (ms_nil)) (ms_one (st_ret (m_or (m_cmp (or_eq (hu64 hr)) s_eq (m_var 0) (m_str)) (m_or (m_cmp op_le s_le (m_var 3) (m_ixA (hu1 hr) (m_var 1) (m_int))) (m_one (m_cmp op_le s_le (m_ixA (hu1 hr) (m_var 1) (m_int)) (m_var 2)))))))
theorem ok_scene_break (Z : Zs P K mg) (C_is_open : Cal P w K mg base "is_open" 1 ["calendar", "place", "day"] m_is_open) (C_is_there : Cal P w K mg base "is_there" 1 ["calendar", "actor", "day"] m_is_there) (C_is_lit : Cal P w K mg base "is_lit" 1 ["light", "ends", "begin", "end"] m_is_lit) {fa : Addr} {fd : FuncData} (F : Fun K "scene_break" "scene_break" s_scene_break fa fd) : FnM P w K mg base (1 + 1) fa fd ["film", "calendar", "day", "row", "done", "is_rain"] (fnD 17 (b_scene_break)) := fn_D F sc_scene_break fun cdv A outer s1 H1 E1 hr => by
  have tk : Takes (cxOf (L2.CX P w) P w K mg base ["film", "calendar", "day", "row", "done", "is_rain", "scene", "begin", "end", "_", "place", "light", "is_dry", "cast", "actor", "first", "second"] "scene_break" (defScope s_scene_break) fa cdv A outer s1 H1 E1) (fun cls d _ H => E1 cls d H) := takes_of rfl rfl rfl rfl
  have hp : PassesOwn (model P w) (cxOf (L2.CX P w) P w K mg base ["film", "calendar", "day", "row", "done", "is_rain", "scene", "begin", "end", "_", "place", "light", "is_dry", "cast", "actor", "first", "second"] "scene_break" (defScope s_scene_break) fa cdv A outer s1 H1 E1).A (cxOf (L2.CX P w) P w K mg base ["film", "calendar", "day", "row", "done", "is_rain", "scene", "begin", "end", "_", "place", "light", "is_dry", "cast", "actor", "first", "second"] "scene_break" (defScope s_scene_break) fa cdv A outer s1 H1 E1).env (cxOf (L2.CX P w) P w K mg base ["film", "calendar", "day", "row", "done", "is_rain", "scene", "begin", "end", "_", "place", "light", "is_dry", "cast", "actor", "first", "second"] "scene_break" (defScope s_scene_break) fa cdv A outer s1 H1 E1).xe := passes_of rfl
  exact ms_cons (st_asg (m_var 3) (g_tup (g_cons (g_name 6 sc_scene_break.nd) (g_cons (g_name 7 sc_scene_break.nd) (g_cons (g_name 8 sc_scene_break.nd) (g_nil)))))) (ms_cons (st_asg (m_ixA (hu1 hr) (m_ixA (hu1 hr) (m_var 0) (m_int)) (m_var 6)) (g_tup (g_cons (g_name 9 sc_scene_break.nd) (g_cons (g_name 10 sc_scene_break.nd) (g_cons (g_name 11 sc_scene_break.nd) (g_cons (g_name 9 sc_scene_break.nd) (g_cons (g_name 12 sc_scene_break.nd) (g_cons (g_name 13 sc_scene_break.nd) (g_nil))))))))) (ms_cons (st_if (t_not (t_tru (m_cal C_is_open (hr.mono (by omega)) tk (ma_cons (m_var 1) (ma_cons (m_var 10) (ma_cons (m_var 2) (ma_nil))))))) (ms_one (st_ret (m_tup (ma_cons (m_str) (ma_cons (m_var 6) (ma_nil)))))) (ms_nil)) (ms_cons (st_if (t_not (t_tru (m_bi (cr_all rfl) s_all Z.all (by decide +kernel) (ma_cons (m_comp false [("actor", 14)] sc_scene_break.nd (i_sq (m_var 13)) (blkOk_by (N := ["film", "calendar", "day", "row", "done", "is_rain", "scene", "begin", "end", "_", "place", "light", "is_dry", "cast", "actor", "first", "second"]) (sc := defScope s_scene_break) (by decide +kernel)) (fun s2 H2 C2 cl2 fp2 => g_name 14 sc_scene_break.nd) (fun s2 H2 C2 cl2 fp2 => ts_nil) (fun s2 H2 C2 cl2 fp2 => m_cal C_is_there (hr.mono (by omega)) tk0 (ma_cons (m_var 1) (ma_cons (m_var 14) (ma_cons (m_var 2) (ma_nil)))))) (ma_nil))))) (ms_one (st_ret (m_tup (ma_cons (m_str) (ma_cons (m_var 6) (ma_nil)))))) (ms_nil)) (ms_cons (st_if (t_not (t_tru (m_cal C_is_lit (hr.mono (by omega)) tk (ma_cons (m_var 11) (ma_cons (m_ixA (hu1 hr) (m_ixA (hu1 hr) (m_var 1) (m_int)) (m_var 2)) (ma_cons (m_var 7) (ma_cons (m_var 8) (ma_nil)))))))) (ms_one (st_ret (m_tup (ma_cons (m_str) (ma_cons (m_var 6) (ma_nil)))))) (ms_nil)) (ms_cons (st_if (t_w (w_and (t_tru (m_var 5)) (w_and1 (t_tru (m_var 12))))) (ms_one (st_ret (m_tup (ma_cons (m_str) (ma_cons (m_var 6) (ma_nil)))))) (ms_nil)) (ms_cons (st_if (t_not (t_tru (m_bi (cr_all rfl) s_all Z.all (by decide +kernel) (ma_cons (m_comp false [("first", 15), ("second", 16)] sc_scene_break.nd (i_sq (m_ixA (hu1 hr) (m_var 0) (m_int))) (blkOk_by (N := ["film", "calendar", "day", "row", "done", "is_rain", "scene", "begin", "end", "_", "place", "light", "is_dry", "cast", "actor", "first", "second"]) (sc := defScope s_scene_break) (by decide +kernel)) (fun s2 H2 C2 cl2 fp2 => g_tup (g_cons (g_name 15 sc_scene_break.nd) (g_cons (g_name 16 sc_scene_break.nd) (g_nil)))) (fun s2 H2 C2 cl2 fp2 => ts_one (t_cmp (or_eq (hu64 hr)) s_eq (m_var 16) (m_var 6))) (fun s2 H2 C2 cl2 fp2 => m_cmp (or_inA (hu65 hr)) (s_inA s_in) (m_var 15) (m_var 4))) (ma_nil))))) (ms_one (st_ret (m_tup (ma_cons (m_str) (ma_cons (m_var 6) (ma_nil)))))) (ms_nil)) (ms_one (st_ret (m_non)))))))))
theorem ok_rule_break (Z : Zs P K mg) (C_figures_of : Cal P w K mg base "figures_of" 2 ["film", "calendar", "day", "rows", "actor", "before"] m_figures_of) (C_broken : Cal P w K mg base "broken" 10 ["film", "rules", "actor", "figures"] m_broken) {fa : Addr} {fd : FuncData} (F : Fun K "rule_break" "rule_break" s_rule_break fa fd) : FnM P w K mg base (10 + 1) fa fd ["film", "calendar", "rules", "day", "rows", "befores"] (fnD 9 (b_rule_break)) := fn_D F sc_rule_break fun cdv A outer s1 H1 E1 hr => by
  have tk : Takes (cxOf (L2.CX P w) P w K mg base ["film", "calendar", "rules", "day", "rows", "befores", "actor", "figures", "found"] "rule_break" (defScope s_rule_break) fa cdv A outer s1 H1 E1) (fun cls d _ H => E1 cls d H) := takes_of rfl rfl rfl rfl
  have hp : PassesOwn (model P w) (cxOf (L2.CX P w) P w K mg base ["film", "calendar", "rules", "day", "rows", "befores", "actor", "figures", "found"] "rule_break" (defScope s_rule_break) fa cdv A outer s1 H1 E1).A (cxOf (L2.CX P w) P w K mg base ["film", "calendar", "rules", "day", "rows", "befores", "actor", "figures", "found"] "rule_break" (defScope s_rule_break) fa cdv A outer s1 H1 E1).env (cxOf (L2.CX P w) P w K mg base ["film", "calendar", "rules", "day", "rows", "befores", "actor", "figures", "found"] "rule_break" (defScope s_rule_break) fa cdv A outer s1 H1 E1).xe := passes_of rfl
  exact ms_cons (st_for [6, 7, 8] hp (i_rng1 Z.range (ma_cons (m_bi or_len s_len Z.len (by decide +kernel) (ma_cons (m_ixA (hu1 hr) (m_var 0) (m_int)) (ma_nil))) (ma_nil))) (g_name 6 sc_rule_break.nd) (ms_cons (st_set 7 sc_rule_break.nd (m_cal C_figures_of (hr.mono (by omega)) tk (ma_cons (m_var 0) (ma_cons (m_var 1) (ma_cons (m_var 3) (ma_cons (m_var 4) (ma_cons (m_var 6) (ma_cons (m_ixA (hu1 hr) (m_var 5) (m_var 6)) (ma_nil))))))))) (ms_one (st_if (t_cmp or_isnot s_isnot (m_var 7) (m_non)) (ms_cons (st_set 8 sc_rule_break.nd (m_cal C_broken (hr.mono (by omega)) tk (ma_cons (m_var 0) (ma_cons (m_var 2) (ma_cons (m_var 6) (ma_cons (m_var 7) (ma_nil))))))) (ms_one (st_if (t_tru (m_var 8)) (ms_one (st_ret (m_tup (ma_cons (m_str) (ma_cons (m_var 6) (ma_cons (m_ixA (hu1 hr) (m_var 8) (m_int)) (ma_nil))))))) (ms_nil)))) (ms_nil))))) (ms_one (st_ret (m_non)))
theorem ok_rows_break (Z : Zs P K mg) (C_scene_break : Cal P w K mg base "scene_break" 2 ["film", "calendar", "day", "row", "done", "is_rain"] m_scene_break) (C_rule_break : Cal P w K mg base "rule_break" 11 ["film", "calendar", "rules", "day", "rows", "befores"] m_rule_break) {fa : Addr} {fd : FuncData} (F : Fun K "rows_break" "rows_break" s_rows_break fa fd) : FnM P w K mg base (11 + 1) fa fd ["film", "calendar", "rules", "day", "rows", "shot", "befores", "is_rain"] (fnD 11 (b_rows_break)) := fn_D F sc_rows_break fun cdv A outer s1 H1 E1 hr => by
  have tk : Takes (cxOf (L2.CX P w) P w K mg base ["film", "calendar", "rules", "day", "rows", "shot", "befores", "is_rain", "done", "row", "found"] "rows_break" (defScope s_rows_break) fa cdv A outer s1 H1 E1) (fun cls d _ H => E1 cls d H) := takes_of rfl rfl rfl rfl
  have hp : PassesOwn (model P w) (cxOf (L2.CX P w) P w K mg base ["film", "calendar", "rules", "day", "rows", "shot", "befores", "is_rain", "done", "row", "found"] "rows_break" (defScope s_rows_break) fa cdv A outer s1 H1 E1).A (cxOf (L2.CX P w) P w K mg base ["film", "calendar", "rules", "day", "rows", "shot", "befores", "is_rain", "done", "row", "found"] "rows_break" (defScope s_rows_break) fa cdv A outer s1 H1 E1).env (cxOf (L2.CX P w) P w K mg base ["film", "calendar", "rules", "day", "rows", "shot", "befores", "is_rain", "done", "row", "found"] "rows_break" (defScope s_rows_break) fa cdv A outer s1 H1 E1).xe := passes_of rfl
  exact ms_cons (st_set 8 sc_rows_break.nd (m_ty call_list_of (s_list true) Z.list (by decide +kernel) (ma_cons (m_var 5) (ma_nil)))) (ms_cons (st_for [9, 10] hp (i_sq (m_var 4)) (g_name 9 sc_rows_break.nd) (ms_one (st_if (t_cmp (or_ne (hu64 hr)) s_ne (m_ixA (hu1 hr) (m_var 9) (m_int)) (m_glob Z.c_MEAL)) (ms_cons (st_set 10 sc_rows_break.nd (m_cal C_scene_break (hr.mono (by omega)) tk (ma_cons (m_var 0) (ma_cons (m_var 1) (ma_cons (m_var 3) (ma_cons (m_var 9) (ma_cons (m_var 8) (ma_cons (m_var 7) (ma_nil))))))))) (ms_cons (st_if (t_cmp or_isnot s_isnot (m_var 10) (m_non)) (ms_one (st_ret (m_var 10))) (ms_nil)) (ms_one (st_expr (m_meth PySem.F.plainAttrs_list PySem.F.slot_list_append PySem.F.type_list_append mt_append s_append (m_var 8) (ma_cons (m_ixA (hu1 hr) (m_var 9) (m_int)) (ma_nil))))))) (ms_nil)))) (ms_one (st_ret (m_cal C_rule_break (hr.mono (by omega)) tk (ma_cons (m_var 0) (ma_cons (m_var 1) (ma_cons (m_var 2) (ma_cons (m_var 3) (ma_cons (m_var 4) (ma_cons (m_var 6) (ma_nil)))))))))))
theorem ok_day_cost (Z : Zs P K mg) {fa : Addr} {fd : FuncData} (F : Fun K "day_cost" "day_cost" s_day_cost fa fd) : FnM P w K mg base (0 + 1) fa fd ["fee", "span"] (fnD 5 (b_day_cost)) := fn_D F sc_day_cost fun cdv A outer s1 H1 E1 hr => by
  have tk : Takes (cxOf (L2.CX P w) P w K mg base ["fee", "span", "total", "base", "pay"] "day_cost" (defScope s_day_cost) fa cdv A outer s1 H1 E1) (fun cls d _ H => E1 cls d H) := takes_of rfl rfl rfl rfl
  have hp : PassesOwn (model P w) (cxOf (L2.CX P w) P w K mg base ["fee", "span", "total", "base", "pay"] "day_cost" (defScope s_day_cost) fa cdv A outer s1 H1 E1).A (cxOf (L2.CX P w) P w K mg base ["fee", "span", "total", "base", "pay"] "day_cost" (defScope s_day_cost) fa cdv A outer s1 H1 E1).env (cxOf (L2.CX P w) P w K mg base ["fee", "span", "total", "base", "pay"] "day_cost" (defScope s_day_cost) fa cdv A outer s1 H1 E1).xe := passes_of rfl
  exact ms_cons (st_set 2 sc_day_cost.nd (m_ixA (hu1 hr) (m_var 0) (m_int))) (ms_cons (st_for [3, 4] hp (i_sq (m_ixA (hu1 hr) (m_var 0) (m_int))) (g_tup (g_cons (g_name 3 sc_day_cost.nd) (g_cons (g_name 4 sc_day_cost.nd) (g_nil)))) (ms_one (st_if (t_cmp op_gt s_gt (m_var 1) (m_var 3)) (ms_one (st_aug 2 sc_day_cost.nd iop_add s_iadd (m_op or_mul (s_mul false) (m_var 4) (m_op op_fdiv s_fdiv (m_op op_sub s_sub (m_op or_add (s_add false) (m_op op_sub s_sub (m_var 1) (m_var 3)) (m_glob Z.c_HALF_HOUR)) (m_int)) (m_glob Z.c_HALF_HOUR))))) (ms_nil)))) (ms_one (st_ret (m_var 2))))
theorem ok_first_stand (Z : Zs P K mg) {fa : Addr} {fd : FuncData} (F : Fun K "first_stand" "first_stand" s_first_stand fa fd) : FnM P w K mg base (0 + 1) fa fd ["case"] (fnD 1 (b_first_stand)) := fn_D F sc_first_stand fun cdv A outer s1 H1 E1 hr => by
  have tk : Takes (cxOf (L2.CX P w) P w K mg base ["case"] "first_stand" (defScope s_first_stand) fa cdv A outer s1 H1 E1) (fun cls d _ H => E1 cls d H) := takes_of rfl rfl rfl rfl
  have hp : PassesOwn (model P w) (cxOf (L2.CX P w) P w K mg base ["case"] "first_stand" (defScope s_first_stand) fa cdv A outer s1 H1 E1).A (cxOf (L2.CX P w) P w K mg base ["case"] "first_stand" (defScope s_first_stand) fa cdv A outer s1 H1 E1).env (cxOf (L2.CX P w) P w K mg base ["case"] "first_stand" (defScope s_first_stand) fa cdv A outer s1 H1 E1).xe := passes_of rfl
  exact ms_one (st_ret (m_tup (ma_cons (m_int) (ma_cons (m_tup (ma_nil)) (ma_cons (m_op or_mulQ (s_mulQ false) (m_tup (ma_cons (m_glob Z.c_IDLE) (ma_nil))) (m_bi or_len s_len Z.len (by decide +kernel) (ma_cons (m_ixA (hu1 hr) (m_ixA (hu1 hr) (m_var 0) (m_int)) (m_int)) (ma_nil)))) (ma_cons (m_tup (ma_cons (m_int) (ma_cons (m_int) (ma_cons (m_int) (ma_nil))))) (ma_nil)))))))
theorem ok_is_through (Z : Zs P K mg) {fa : Addr} {fd : FuncData} (F : Fun K "is_through" "is_through" s_is_through fa fd) : FnM P w K mg base (0 + 1) fa fd ["case", "stand"] (fnD 2 (b_is_through)) := fn_D F sc_is_through fun cdv A outer s1 H1 E1 hr => by
  have tk : Takes (cxOf (L2.CX P w) P w K mg base ["case", "stand"] "is_through" (defScope s_is_through) fa cdv A outer s1 H1 E1) (fun cls d _ H => E1 cls d H) := takes_of rfl rfl rfl rfl
  have hp : PassesOwn (model P w) (cxOf (L2.CX P w) P w K mg base ["case", "stand"] "is_through" (defScope s_is_through) fa cdv A outer s1 H1 E1).A (cxOf (L2.CX P w) P w K mg base ["case", "stand"] "is_through" (defScope s_is_through) fa cdv A outer s1 H1 E1).env (cxOf (L2.CX P w) P w K mg base ["case", "stand"] "is_through" (defScope s_is_through) fa cdv A outer s1 H1 E1).xe := passes_of rfl
  exact ms_one (st_ret (m_cmp (or_eq (hu64 hr)) s_eq (m_bi or_len s_len Z.len (by decide +kernel) (ma_cons (m_ixA (hu1 hr) (m_var 1) (m_int)) (ma_nil))) (m_bi or_len s_len Z.len (by decide +kernel) (ma_cons (m_ixA (hu1 hr) (m_ixA (hu1 hr) (m_var 0) (m_int)) (m_int)) (ma_nil)))))
theorem ok_used_by (Z : Zs P K mg) {fa : Addr} {fd : FuncData} (F : Fun K "used_by" "used_by" s_used_by fa fd) : FnM P w K mg base (0 + 1) fa fd ["nature"] (fnD 4 (b_used_by)) := fn_D F sc_used_by fun cdv A outer s1 H1 E1 hr => by
  have tk : Takes (cxOf (L2.CX P w) P w K mg base ["nature", "weather", "ill", "late"] "used_by" (defScope s_used_by) fa cdv A outer s1 H1 E1) (fun cls d _ H => E1 cls d H) := takes_of rfl rfl rfl rfl
  have hp : PassesOwn (model P w) (cxOf (L2.CX P w) P w K mg base ["nature", "weather", "ill", "late"] "used_by" (defScope s_used_by) fa cdv A outer s1 H1 E1).A (cxOf (L2.CX P w) P w K mg base ["nature", "weather", "ill", "late"] "used_by" (defScope s_used_by) fa cdv A outer s1 H1 E1).env (cxOf (L2.CX P w) P w K mg base ["nature", "weather", "ill", "late"] "used_by" (defScope s_used_by) fa cdv A outer s1 H1 E1).xe := passes_of rfl
  exact ms_cons (st_asg (m_var 0) (g_tup (g_cons (g_name 1 sc_used_by.nd) (g_cons (g_name 2 sc_used_by.nd) (g_cons (g_name 3 sc_used_by.nd) (g_nil)))))) (ms_one (st_ret (m_tup (ma_cons (m_ty call_int1 s_intF Z.int (by decide +kernel) (ma_cons (m_cmp (or_eq (hu64 hr)) s_eq (m_var 1) (m_str)) (ma_nil))) (ma_cons (m_ty call_int1 s_intF Z.int (by decide +kernel) (ma_cons (m_cmp op_ge s_ge (m_var 2) (m_int)) (ma_nil))) (ma_cons (m_ty call_int1 s_intF Z.int (by decide +kernel) (ma_cons (m_cmp op_gt s_gt (m_var 3) (m_int)) (ma_nil))) (ma_nil)))))))
theorem ok_may_choose (Z : Zs P K mg) (C_used_by : Cal P w K mg base "used_by" 1 ["nature"] m_used_by) {fa : Addr} {fd : FuncData} (F : Fun K "may_choose" "may_choose" s_may_choose fa fd) : FnM P w K mg base (1 + 1) fa fd ["case", "stand", "nature"] (fnD 9 (b_may_choose)) := fn_D F sc_may_choose fun cdv A outer s1 H1 E1 hr => by
  have tk : Takes (cxOf (L2.CX P w) P w K mg base ["case", "stand", "nature", "bounds", "weather", "ill", "late", "used", "k"] "may_choose" (defScope s_may_choose) fa cdv A outer s1 H1 E1) (fun cls d _ H => E1 cls d H) := takes_of rfl rfl rfl rfl
  have hp : PassesOwn (model P w) (cxOf (L2.CX P w) P w K mg base ["case", "stand", "nature", "bounds", "weather", "ill", "late", "used", "k"] "may_choose" (defScope s_may_choose) fa cdv A outer s1 H1 E1).A (cxOf (L2.CX P w) P w K mg base ["case", "stand", "nature", "bounds", "weather", "ill", "late", "used", "k"] "may_choose" (defScope s_may_choose) fa cdv A outer s1 H1 E1).env (cxOf (L2.CX P w) P w K mg base ["case", "stand", "nature", "bounds", "weather", "ill", "late", "used", "k"] "may_choose" (defScope s_may_choose) fa cdv A outer s1 H1 E1).xe := passes_of rfl
  exact ms_cons (st_set 3 sc_may_choose.nd (m_ixA (hu1 hr) (m_var 0) (m_int))) (ms_cons (st_asg (m_var 2) (g_tup (g_cons (g_name 4 sc_may_choose.nd) (g_cons (g_name 5 sc_may_choose.nd) (g_cons (g_name 6 sc_may_choose.nd) (g_nil)))))) (ms_cons (st_if (t_w (w_or (t_cmp (or_ninA (hu65 hr)) (s_inA s_nin) (m_var 4) (m_tup (ma_cons (m_str) (ma_cons (m_str) (ma_nil))))) (w_or (t_not (t_chain op_le s_le or_lt s_lt (m_un un_neg s_neg (m_int)) (m_var 5) (m_bi or_len s_len Z.len (by decide +kernel) (ma_cons (m_ixA (hu1 hr) (m_ixA (hu1 hr) (m_var 0) (m_int)) (m_int)) (ma_nil))))) (w_or1 (t_cmp (or_ninA (hu65 hr)) (s_inA s_nin) (m_var 6) (m_tup (ma_cons (m_int) (ma_cons (m_ixA (hu1 hr) (m_var 3) (m_int)) (ma_nil))))))))) (ms_one (st_ret (m_bl))) (ms_nil)) (ms_cons (st_set 7 sc_may_choose.nd (m_cal C_used_by (hr.mono (by omega)) tk (ma_cons (m_var 2) (ma_nil)))) (ms_one (st_ret (m_bi (cr_all rfl) s_all Z.all (by decide +kernel) (ma_cons (m_comp false [("k", 8)] sc_may_choose.nd (i_rng1 Z.range (ma_cons (m_int) (ma_nil))) (blkOk_by (N := ["case", "stand", "nature", "bounds", "weather", "ill", "late", "used", "k"]) (sc := defScope s_may_choose) (by decide +kernel)) (fun s2 H2 C2 cl2 fp2 => g_name 8 sc_may_choose.nd) (fun s2 H2 C2 cl2 fp2 => ts_nil) (fun s2 H2 C2 cl2 fp2 => m_cmp op_le s_le (m_op or_add (s_add false) (m_ixA (hu1 hr) (m_ixA (hu1 hr) (m_var 1) (m_int)) (m_var 8)) (m_ixA (hu1 hr) (m_var 7) (m_var 8))) (m_ixA (hu1 hr) (m_var 3) (m_var 8)))) (ma_nil))))))))
theorem ok_natures (Z : Zs P K mg) (C_may_choose : Cal P w K mg base "may_choose" 2 ["case", "stand", "nature"] m_may_choose) (C_used_by : Cal P w K mg base "used_by" 1 ["nature"] m_used_by) {fa : Addr} {fd : FuncData} (F : Fun K "natures" "natures" s_natures fa fd) : FnM P w K mg base (2 + 1) fa fd ["case", "stand"] (fnD 9 (b_natures)) := fn_D F sc_natures fun cdv A outer s1 H1 E1 hr => by
  have tk : Takes (cxOf (L2.CX P w) P w K mg base ["case", "stand", "found", "weather", "ill", "late", "keyed", "nature", "_"] "natures" (defScope s_natures) fa cdv A outer s1 H1 E1) (fun cls d _ H => E1 cls d H) := takes_of rfl rfl rfl rfl
  have hp : PassesOwn (model P w) (cxOf (L2.CX P w) P w K mg base ["case", "stand", "found", "weather", "ill", "late", "keyed", "nature", "_"] "natures" (defScope s_natures) fa cdv A outer s1 H1 E1).A (cxOf (L2.CX P w) P w K mg base ["case", "stand", "found", "weather", "ill", "late", "keyed", "nature", "_"] "natures" (defScope s_natures) fa cdv A outer s1 H1 E1).env (cxOf (L2.CX P w) P w K mg base ["case", "stand", "found", "weather", "ill", "late", "keyed", "nature", "_"] "natures" (defScope s_natures) fa cdv A outer s1 H1 E1).xe := passes_of rfl
  exact ms_cons (st_set 2 sc_natures.nd (m_lst true (ma_nil))) (ms_cons (st_for [3, 4, 5] hp (i_sq (m_tup (ma_cons (m_str) (ma_cons (m_str) (ma_nil))))) (g_name 3 sc_natures.nd) (ms_one (st_for [4, 5] hp (i_rng2 Z.range (ma_cons (m_un un_neg s_neg (m_int)) (ma_cons (m_bi or_len s_len Z.len (by decide +kernel) (ma_cons (m_ixA (hu1 hr) (m_ixA (hu1 hr) (m_var 0) (m_int)) (m_int)) (ma_nil))) (ma_nil)))) (g_name 4 sc_natures.nd) (ms_one (st_for [5] hp (i_sq (m_tup (ma_cons (m_int) (ma_cons (m_ixA (hu1 hr) (m_ixA (hu1 hr) (m_var 0) (m_int)) (m_int)) (ma_nil))))) (g_name 5 sc_natures.nd) (ms_one (st_if (t_tru (m_cal C_may_choose (hr.mono (by omega)) tk (ma_cons (m_var 0) (ma_cons (m_var 1) (ma_cons (m_tup (ma_cons (m_var 3) (ma_cons (m_var 4) (ma_cons (m_var 5) (ma_nil))))) (ma_nil)))))) (ms_one (st_expr (m_meth PySem.F.plainAttrs_list PySem.F.slot_list_append PySem.F.type_list_append mt_append s_append (m_var 2) (ma_cons (m_tup (ma_cons (m_var 3) (ma_cons (m_var 4) (ma_cons (m_var 5) (ma_nil))))) (ma_nil))))) (ms_nil)))))))) (ms_cons (st_setLc false 6 [("nature", 7)] sc_natures.nd (i_sq (m_var 2)) (blkOk_by (N := ["case", "stand", "found", "weather", "ill", "late", "keyed", "nature", "_"]) (sc := defScope s_natures) (by decide +kernel)) (fun s2 H2 C2 cl2 fp2 => g_name 7 sc_natures.nd) (fun s2 H2 C2 cl2 fp2 => ts_nil) (fun s2 H2 C2 cl2 fp2 => m_tup (ma_cons (m_bi (cr_sumQ rfl) s_sumQ Z.sum (by decide +kernel) (ma_cons (m_cal C_used_by (hr.mono (by omega)) tk0 (ma_cons (m_var 7) (ma_nil))) (ma_nil))) (ma_cons (m_var 7) (ma_nil)))) (sw_true rfl rfl rfl (by decide +kernel))) (ms_one (st_ret (m_comp false [("nature", 7), ("_", 8)] sc_natures.nd (i_sq (m_bi (cr_sortA (hu65 hr)) (s_sorted false) Z.sorted (by decide +kernel) (ma_cons (m_var 6) (ma_nil)))) (blkOk_by (N := ["case", "stand", "found", "weather", "ill", "late", "keyed", "nature", "_"]) (sc := defScope s_natures) (by decide +kernel)) (fun s2 H2 C2 cl2 fp2 => g_tup (g_cons (g_name 8 sc_natures.nd) (g_cons (g_name 7 sc_natures.nd) (g_nil)))) (fun s2 H2 C2 cl2 fp2 => ts_nil) (fun s2 H2 C2 cl2 fp2 => m_var 7))))))
theorem ok_check_step (Z : Zs P K mg) (C_is_through : Cal P w K mg base "is_through" 1 ["case", "stand"] m_is_through) {fa : Addr} {fd : FuncData} (F : Fun K "check_step" "check_step" s_check_step fa fd) : FnM P w K mg base (1 + 1) fa fd ["case", "stand", "number"] (fnD 3 (b_check_step)) := fn_D F sc_check_step fun cdv A outer s1 H1 E1 hr => by
  have tk : Takes (cxOf (L2.CX P w) P w K mg base ["case", "stand", "number"] "check_step" (defScope s_check_step) fa cdv A outer s1 H1 E1) (fun cls d _ H => E1 cls d H) := takes_of rfl rfl rfl rfl
  have hp : PassesOwn (model P w) (cxOf (L2.CX P w) P w K mg base ["case", "stand", "number"] "check_step" (defScope s_check_step) fa cdv A outer s1 H1 E1).A (cxOf (L2.CX P w) P w K mg base ["case", "stand", "number"] "check_step" (defScope s_check_step) fa cdv A outer s1 H1 E1).env (cxOf (L2.CX P w) P w K mg base ["case", "stand", "number"] "check_step" (defScope s_check_step) fa cdv A outer s1 H1 E1).xe := passes_of rfl
  exact ms_cons (st_if (t_tru (m_cal C_is_through (hr.mono (by omega)) tk (ma_cons (m_var 0) (ma_cons (m_var 1) (ma_nil))))) (ms_one (st_raiseE (k := 0) rfl Z.x_CaseError (hr.mono (by omega)) tk (m_str))) (ms_nil)) (ms_cons (st_if (t_cmp op_ge s_ge (m_ixA (hu1 hr) (m_var 1) (m_int)) (m_bi or_len s_len Z.len (by decide +kernel) (ma_cons (m_ixA (hu1 hr) (m_ixA (hu1 hr) (m_var 0) (m_int)) (m_int)) (ma_nil)))) (ms_one (st_raiseE (k := 0) rfl Z.x_CaseError (hr.mono (by omega)) tk (m_str))) (ms_nil)) (ms_one (st_if (t_not (t_chain op_le s_le or_lt s_lt (m_int) (m_var 2) (m_bi or_len s_len Z.len (by decide +kernel) (ma_cons (m_ixA (hu1 hr) (m_ixA (hu1 hr) (m_var 0) (m_int)) (m_ixA (hu1 hr) (m_var 1) (m_int))) (ma_nil))))) (ms_one (st_raiseE (k := 0) rfl Z.x_CaseError (hr.mono (by omega)) tk (m_str))) (ms_nil))))
theorem ok_step (Z : Zs P K mg) (C_check_step : Cal P w K mg base "check_step" 2 ["case", "stand", "number"] m_check_step) (C_may_choose : Cal P w K mg base "may_choose" 2 ["case", "stand", "nature"] m_may_choose) (C_hours : Cal P w K mg base "hours" 3 ["film", "sheet", "shot", "news"] m_hours) (C_rows_break : Cal P w K mg base "rows_break" 12 ["film", "calendar", "rules", "day", "rows", "shot", "befores", "is_rain"] m_rows_break) (C_figures_of : Cal P w K mg base "figures_of" 2 ["film", "calendar", "day", "rows", "actor", "before"] m_figures_of) (C_day_cost : Cal P w K mg base "day_cost" 1 ["fee", "span"] m_day_cost) (C_used_by : Cal P w K mg base "used_by" 1 ["nature"] m_used_by) {fa : Addr} {fd : FuncData} (F : Fun K "step" "step" s_step fa fd) : FnM P w K mg base (12 + 1) fa fd ["case", "stand", "number", "nature"] (fnD 25 (b_step)) := fn_D F sc_step fun cdv A outer s1 H1 E1 hr => by
  have tk : Takes (cxOf (L2.CX P w) P w K mg base ["case", "stand", "number", "nature", "film", "calendar", "rules", "menu", "_", "fees", "day", "shot", "befores", "used", "rows", "found", "after", "row", "scene", "cost", "rests", "actor", "figures", "more", "k"] "step" (defScope s_step) fa cdv A outer s1 H1 E1) (fun cls d _ H => E1 cls d H) := takes_of rfl rfl rfl rfl
  have hp : PassesOwn (model P w) (cxOf (L2.CX P w) P w K mg base ["case", "stand", "number", "nature", "film", "calendar", "rules", "menu", "_", "fees", "day", "shot", "befores", "used", "rows", "found", "after", "row", "scene", "cost", "rests", "actor", "figures", "more", "k"] "step" (defScope s_step) fa cdv A outer s1 H1 E1).A (cxOf (L2.CX P w) P w K mg base ["case", "stand", "number", "nature", "film", "calendar", "rules", "menu", "_", "fees", "day", "shot", "befores", "used", "rows", "found", "after", "row", "scene", "cost", "rests", "actor", "figures", "more", "k"] "step" (defScope s_step) fa cdv A outer s1 H1 E1).env (cxOf (L2.CX P w) P w K mg base ["case", "stand", "number", "nature", "film", "calendar", "rules", "menu", "_", "fees", "day", "shot", "befores", "used", "rows", "found", "after", "row", "scene", "cost", "rests", "actor", "figures", "more", "k"] "step" (defScope s_step) fa cdv A outer s1 H1 E1).xe := passes_of rfl
  exact ms_cons (st_expr (m_cal C_check_step (hr.mono (by omega)) tk (ma_cons (m_var 0) (ma_cons (m_var 1) (ma_cons (m_var 2) (ma_nil)))))) (ms_cons (st_if (t_not (t_tru (m_cal C_may_choose (hr.mono (by omega)) tk (ma_cons (m_var 0) (ma_cons (m_var 1) (ma_cons (m_var 3) (ma_nil))))))) (ms_one (st_raiseE (k := 0) rfl Z.x_CaseError (hr.mono (by omega)) tk (m_str))) (ms_nil)) (ms_cons (st_asg (m_var 0) (g_tup (g_cons (g_name 4 sc_step.nd) (g_cons (g_name 5 sc_step.nd) (g_cons (g_name 6 sc_step.nd) (g_cons (g_name 7 sc_step.nd) (g_cons (g_name 8 sc_step.nd) (g_cons (g_name 9 sc_step.nd) (g_nil))))))))) (ms_cons (st_asg (m_var 1) (g_tup (g_cons (g_name 10 sc_step.nd) (g_cons (g_name 11 sc_step.nd) (g_cons (g_name 12 sc_step.nd) (g_cons (g_name 13 sc_step.nd) (g_nil))))))) (ms_cons (st_set 14 sc_step.nd (m_ixA (hu1 hr) (m_cal C_hours (hr.mono (by omega)) tk (ma_cons (m_var 4) (ma_cons (m_ixA (hu1 hr) (m_ixA (hu1 hr) (m_var 7) (m_var 10)) (m_var 2)) (ma_cons (m_var 11) (ma_cons (m_var 3) (ma_nil)))))) (m_int))) (ms_cons (st_set 15 sc_step.nd (m_cal C_rows_break (hr.mono (by omega)) tk (ma_cons (m_var 4) (ma_cons (m_var 5) (ma_cons (m_var 6) (ma_cons (m_var 10) (ma_cons (m_var 14) (ma_cons (m_var 11) (ma_cons (m_var 12) (ma_cons (m_cmp (or_eq (hu64 hr)) s_eq (m_ixA (hu1 hr) (m_var 3) (m_int)) (m_str)) (ma_nil))))))))))) (ms_cons (st_if (t_cmp or_isnot s_isnot (m_var 15) (m_non)) (ms_one (st_ret (m_tup (ma_cons (m_str) (ma_cons (m_var 15) (ma_nil)))))) (ms_nil)) (ms_cons (st_set 16 sc_step.nd (m_ty call_tuple_of s_tuple Z.tuple (by decide +kernel) (ma_cons (m_bi (cr_sortQ (hu65 hr)) (s_sortQ false) Z.sorted (by decide +kernel) (ma_cons (m_op or_add (s_add false) (m_var 11) (m_ty call_tuple_of s_tuple Z.tuple (by decide +kernel) (ma_cons (m_comp false [("row", 17)] sc_step.nd (i_sq (m_var 14)) (blkOk_by (N := ["case", "stand", "number", "nature", "film", "calendar", "rules", "menu", "_", "fees", "day", "shot", "befores", "used", "rows", "found", "after", "row", "scene", "cost", "rests", "actor", "figures", "more", "k"]) (sc := defScope s_step) (by decide +kernel)) (fun s2 H2 C2 cl2 fp2 => g_name 17 sc_step.nd) (fun s2 H2 C2 cl2 fp2 => ts_one (t_cmp (or_ne (hu64 hr)) s_ne (m_ixA (hu1 hr) (m_var 17) (m_int)) (m_glob Z.c_MEAL))) (fun s2 H2 C2 cl2 fp2 => m_ixA (hu1 hr) (m_var 17) (m_int))) (ma_nil)))) (ma_nil))) (ma_nil)))) (ms_cons (st_if (t_w (w_and (t_cmp (or_eq (hu64 hr)) s_eq (m_op or_add (s_add false) (m_var 10) (m_int)) (m_bi or_len s_len Z.len (by decide +kernel) (ma_cons (m_ixA (hu1 hr) (m_var 5) (m_int)) (ma_nil)))) (w_and1 (t_cmp or_lt s_lt (m_bi or_len s_len Z.len (by decide +kernel) (ma_cons (m_var 16) (ma_nil))) (m_bi or_len s_len Z.len (by decide +kernel) (ma_cons (m_ixA (hu1 hr) (m_var 4) (m_int)) (ma_nil))))))) (ms_one (st_ret (m_tup (ma_cons (m_str) (ma_cons (m_tup (ma_cons (m_str) (ma_cons (m_bi (or_minB rfl (hu65 hr)) s_minB Z.min (by decide +kernel) (ma_cons (m_comp false [("scene", 18)] sc_step.nd (i_rng1 Z.range (ma_cons (m_bi or_len s_len Z.len (by decide +kernel) (ma_cons (m_ixA (hu1 hr) (m_var 4) (m_int)) (ma_nil))) (ma_nil))) (blkOk_by (N := ["case", "stand", "number", "nature", "film", "calendar", "rules", "menu", "_", "fees", "day", "shot", "befores", "used", "rows", "found", "after", "row", "scene", "cost", "rests", "actor", "figures", "more", "k"]) (sc := defScope s_step) (by decide +kernel)) (fun s2 H2 C2 cl2 fp2 => g_name 18 sc_step.nd) (fun s2 H2 C2 cl2 fp2 => ts_one (t_cmp (or_ninA (hu65 hr)) (s_inA s_nin) (m_var 18) (m_var 16))) (fun s2 H2 C2 cl2 fp2 => m_var 18)) (ma_nil))) (ma_nil)))) (ma_nil)))))) (ms_nil)) (ms_cons (st_set 19 sc_step.nd (m_int)) (ms_cons (st_set 20 sc_step.nd (m_lst true (ma_nil))) (ms_cons (st_for [21, 22] hp (i_rng1 Z.range (ma_cons (m_bi or_len s_len Z.len (by decide +kernel) (ma_cons (m_ixA (hu1 hr) (m_var 4) (m_int)) (ma_nil))) (ma_nil))) (g_name 21 sc_step.nd) (ms_cons (st_set 22 sc_step.nd (m_cal C_figures_of (hr.mono (by omega)) tk (ma_cons (m_var 4) (ma_cons (m_var 5) (ma_cons (m_var 10) (ma_cons (m_var 14) (ma_cons (m_var 21) (ma_cons (m_ixA (hu1 hr) (m_var 12) (m_var 21)) (ma_nil))))))))) (ms_cons (st_expr (m_meth PySem.F.plainAttrs_list PySem.F.slot_list_append PySem.F.type_list_append mt_append s_append (m_var 20) (ma_cons (m_if (t_cmp or_is s_is (m_var 22) (m_non)) (m_glob Z.c_IDLE) (m_tup (ma_cons (m_ixA (hu1 hr) (m_var 22) (m_int)) (ma_cons (m_ixA (hu1 hr) (m_var 22) (m_int)) (ma_nil))))) (ma_nil)))) (ms_one (st_aug 19 sc_step.nd iop_add s_iadd (m_if (t_cmp or_is s_is (m_var 22) (m_non)) (m_int) (m_cal C_day_cost (hr.mono (by omega)) tk (ma_cons (m_ixA (hu1 hr) (m_var 9) (m_var 21)) (ma_cons (m_ixA (hu1 hr) (m_var 22) (m_int)) (ma_nil)))))))))) (ms_cons (st_set 23 sc_step.nd (m_cal C_used_by (hr.mono (by omega)) tk (ma_cons (m_var 3) (ma_nil)))) (ms_one (st_ret (m_tup (ma_cons (m_str) (ma_cons (m_tup (ma_cons (m_op or_add (s_add false) (m_var 10) (m_int)) (ma_cons (m_var 16) (ma_cons (m_ty call_tuple_of s_tuple Z.tuple (by decide +kernel) (ma_cons (m_var 20) (ma_nil))) (ma_cons (m_ty call_tuple_of s_tuple Z.tuple (by decide +kernel) (ma_cons (m_comp false [("k", 24)] sc_step.nd (i_rng1 Z.range (ma_cons (m_int) (ma_nil))) (blkOk_by (N := ["case", "stand", "number", "nature", "film", "calendar", "rules", "menu", "_", "fees", "day", "shot", "befores", "used", "rows", "found", "after", "row", "scene", "cost", "rests", "actor", "figures", "more", "k"]) (sc := defScope s_step) (by decide +kernel)) (fun s2 H2 C2 cl2 fp2 => g_name 24 sc_step.nd) (fun s2 H2 C2 cl2 fp2 => ts_nil) (fun s2 H2 C2 cl2 fp2 => m_op or_add (s_add false) (m_ixA (hu1 hr) (m_var 13) (m_var 24)) (m_ixA (hu1 hr) (m_var 23) (m_var 24)))) (ma_nil))) (ma_nil)))))) (ma_cons (m_var 19) (ma_nil)))))))))))))))))))
theorem ok_run (Z : Zs P K mg) (C_first_stand : Cal P w K mg base "first_stand" 1 ["case"] m_first_stand) (C_is_through : Cal P w K mg base "is_through" 1 ["case", "stand"] m_is_through) (C_step : Cal P w K mg base "step" 13 ["case", "stand", "number", "nature"] m_step) {fa : Addr} {fd : FuncData} (F : Fun K "run" "run" s_run fa fd) : FnM P w K mg base (13 + 1) fa fd ["case", "course"] (fnD 7 (b_run)) := fn_D F sc_run fun cdv A outer s1 H1 E1 hr => by
  have tk : Takes (cxOf (L2.CX P w) P w K mg base ["case", "course", "stands", "total", "number", "nature", "found"] "run" (defScope s_run) fa cdv A outer s1 H1 E1) (fun cls d _ H => E1 cls d H) := takes_of rfl rfl rfl rfl
  have hp : PassesOwn (model P w) (cxOf (L2.CX P w) P w K mg base ["case", "course", "stands", "total", "number", "nature", "found"] "run" (defScope s_run) fa cdv A outer s1 H1 E1).A (cxOf (L2.CX P w) P w K mg base ["case", "course", "stands", "total", "number", "nature", "found"] "run" (defScope s_run) fa cdv A outer s1 H1 E1).env (cxOf (L2.CX P w) P w K mg base ["case", "course", "stands", "total", "number", "nature", "found"] "run" (defScope s_run) fa cdv A outer s1 H1 E1).xe := passes_of rfl
  exact ms_cons (st_set 2 sc_run.nd (m_lst true (ma_cons (m_cal C_first_stand (hr.mono (by omega)) tk (ma_cons (m_var 0) (ma_nil))) (ma_nil)))) (ms_cons (st_set 3 sc_run.nd (m_int)) (ms_cons (st_for [4, 5, 6] hp (i_sq (m_var 1)) (g_tup (g_cons (g_name 4 sc_run.nd) (g_cons (g_name 5 sc_run.nd) (g_nil)))) (ms_cons (st_if (t_tru (m_cal C_is_through (hr.mono (by omega)) tk (ma_cons (m_var 0) (ma_cons (m_ixA (hu1 hr) (m_var 2) (m_un un_neg s_neg (m_int))) (ma_nil))))) (ms_one (st_raiseE (k := 0) rfl Z.x_CaseError (hr.mono (by omega)) tk (m_str))) (ms_nil)) (ms_cons (st_set 6 sc_run.nd (m_cal C_step (hr.mono (by omega)) tk (ma_cons (m_var 0) (ma_cons (m_ixA (hu1 hr) (m_var 2) (m_un un_neg s_neg (m_int))) (ma_cons (m_var 4) (ma_cons (m_var 5) (ma_nil))))))) (ms_cons (st_if (t_cmp (or_eq (hu64 hr)) s_eq (m_ixA (hu1 hr) (m_var 6) (m_int)) (m_str)) (ms_one (st_ret (m_tup (ma_cons (m_ty call_tuple_of s_tuple Z.tuple (by decide +kernel) (ma_cons (m_var 2) (ma_nil))) (ma_cons (m_var 6) (ma_nil)))))) (ms_nil)) (ms_cons (st_expr (m_meth PySem.F.plainAttrs_list PySem.F.slot_list_append PySem.F.type_list_append mt_append s_append (m_var 2) (ma_cons (m_ixA (hu1 hr) (m_var 6) (m_int)) (ma_nil)))) (ms_one (st_aug 3 sc_run.nd iop_add s_iadd (m_ixA (hu1 hr) (m_var 6) (m_int))))))))) (ms_one (st_ret (m_tup (ma_cons (m_ty call_tuple_of s_tuple Z.tuple (by decide +kernel) (ma_cons (m_var 2) (ma_nil))) (ma_cons (m_tup (ma_cons (m_if (t_tru (m_cal C_is_through (hr.mono (by omega)) tk (ma_cons (m_var 0) (ma_cons (m_ixA (hu1 hr) (m_var 2) (m_un un_neg s_neg (m_int))) (ma_nil))))) (m_str) (m_str)) (ma_cons (m_var 3) (ma_nil)))) (ma_nil))))))))
theorem ok_put_in_order (Z : Zs P K mg) {fa : Addr} {fd : FuncData} (F : Fun K "put_in_order" "put_in_order" s_put_in_order fa fd) : FnM P w K mg base (0 + 1) fa fd ["takes", "roll"] (fnD 6 (b_put_in_order)) := fn_D F sc_put_in_order fun cdv A outer s1 H1 E1 hr => by
  have tk : Takes (cxOf (L2.CX P w) P w K mg base ["takes", "roll", "found", "number", "left", "take"] "put_in_order" (defScope s_put_in_order) fa cdv A outer s1 H1 E1) (fun cls d _ H => E1 cls d H) := takes_of rfl rfl rfl rfl
  have hp : PassesOwn (model P w) (cxOf (L2.CX P w) P w K mg base ["takes", "roll", "found", "number", "left", "take"] "put_in_order" (defScope s_put_in_order) fa cdv A outer s1 H1 E1).A (cxOf (L2.CX P w) P w K mg base ["takes", "roll", "found", "number", "left", "take"] "put_in_order" (defScope s_put_in_order) fa cdv A outer s1 H1 E1).env (cxOf (L2.CX P w) P w K mg base ["takes", "roll", "found", "number", "left", "take"] "put_in_order" (defScope s_put_in_order) fa cdv A outer s1 H1 E1).xe := passes_of rfl
  exact ms_cons (st_set 2 sc_put_in_order.nd (m_lst true (ma_nil))) (ms_cons (st_set 3 sc_put_in_order.nd (m_int)) (ms_cons (st_set 4 sc_put_in_order.nd (m_var 1)) (ms_cons (st_for [5] hp (i_sq (m_var 0)) (g_name 5 sc_put_in_order.nd) (ms_cons (st_if (t_cmp op_gt s_gt (m_var 5) (m_var 4)) (ms_cons (st_aug 3 sc_put_in_order.nd iop_add s_iadd (m_int)) (ms_one (st_set 4 sc_put_in_order.nd (m_var 1)))) (ms_nil)) (ms_cons (st_expr (m_meth PySem.F.plainAttrs_list PySem.F.slot_list_append PySem.F.type_list_append mt_append s_append (m_var 2) (ma_cons (m_var 3) (ma_nil)))) (ms_one (st_aug 4 sc_put_in_order.nd iop_sub s_sub (m_var 5)))))) (ms_one (st_ret (m_ty call_tuple_of s_tuple Z.tuple (by decide +kernel) (ma_cons (m_var 2) (ma_nil))))))))
theorem ok_check_lab (Z : Zs P K mg) {fa : Addr} {fd : FuncData} (F : Fun K "check_lab" "check_lab" s_check_lab fa fd) : FnM P w K mg base (1 + 1) fa fd ["lab"] (fnD 1 (b_check_lab)) := fn_D F sc_check_lab fun cdv A outer s1 H1 E1 hr => by
  have tk : Takes (cxOf (L2.CX P w) P w K mg base ["lab"] "check_lab" (defScope s_check_lab) fa cdv A outer s1 H1 E1) (fun cls d _ H => E1 cls d H) := takes_of rfl rfl rfl rfl
  have hp : PassesOwn (model P w) (cxOf (L2.CX P w) P w K mg base ["lab"] "check_lab" (defScope s_check_lab) fa cdv A outer s1 H1 E1).A (cxOf (L2.CX P w) P w K mg base ["lab"] "check_lab" (defScope s_check_lab) fa cdv A outer s1 H1 E1).env (cxOf (L2.CX P w) P w K mg base ["lab"] "check_lab" (defScope s_check_lab) fa cdv A outer s1 H1 E1).xe := passes_of rfl
  exact ms_one (st_if (t_not (t_chain op_le s_le op_le s_le (m_int) (m_var 0) (m_glob Z.c_MOST_LAB))) (ms_one (st_raiseE (k := 0) rfl Z.x_StockError (hr.mono (by omega)) tk (m_str))) (ms_nil))
theorem ok_check_scenes (Z : Zs P K mg) (C_ascends : Cal P w K mg base "ascends" 1 ["row"] m_ascends) {fa : Addr} {fd : FuncData} (F : Fun K "check_scenes" "check_scenes" s_check_scenes fa fd) : FnM P w K mg base (1 + 1) fa fd ["case", "sequence"] (fnD 3 (b_check_scenes)) := fn_D F sc_check_scenes fun cdv A outer s1 H1 E1 hr => by
  have tk : Takes (cxOf (L2.CX P w) P w K mg base ["case", "sequence", "right"] "check_scenes" (defScope s_check_scenes) fa cdv A outer s1 H1 E1) (fun cls d _ H => E1 cls d H) := takes_of rfl rfl rfl rfl
  have hp : PassesOwn (model P w) (cxOf (L2.CX P w) P w K mg base ["case", "sequence", "right"] "check_scenes" (defScope s_check_scenes) fa cdv A outer s1 H1 E1).A (cxOf (L2.CX P w) P w K mg base ["case", "sequence", "right"] "check_scenes" (defScope s_check_scenes) fa cdv A outer s1 H1 E1).env (cxOf (L2.CX P w) P w K mg base ["case", "sequence", "right"] "check_scenes" (defScope s_check_scenes) fa cdv A outer s1 H1 E1).xe := passes_of rfl
  exact ms_cons (st_set 2 sc_check_scenes.nd (m_and (m_cmp op_gt s_gt (m_bi or_len s_len Z.len (by decide +kernel) (ma_cons (m_var 1) (ma_nil))) (m_int)) (m_and (m_cal C_ascends (hr.mono (by omega)) tk (ma_cons (m_var 1) (ma_nil))) (m_and (m_cmp op_le s_le (m_int) (m_ixA (hu1 hr) (m_var 1) (m_int))) (m_one (m_cmp or_lt s_lt (m_ixA (hu1 hr) (m_var 1) (m_un un_neg s_neg (m_int))) (m_bi or_len s_len Z.len (by decide +kernel) (ma_cons (m_ixA (hu1 hr) (m_ixA (hu1 hr) (m_var 0) (m_int)) (m_int)) (ma_nil))))))))) (ms_one (st_if (t_not (t_tru (m_var 2))) (ms_one (st_raiseE (k := 0) rfl Z.x_StockError (hr.mono (by omega)) tk (m_str))) (ms_nil)))
theorem ok_shot_days (Z : Zs P K mg) (C_run : Cal P w K mg base "run" 14 ["case", "course"] m_run) {fa : Addr} {fd : FuncData} (F : Fun K "shot_days" "shot_days" s_shot_days fa fd) : FnM P w K mg base (14 + 1) fa fd ["case", "course"] (fnD 7 (b_shot_days)) := fn_D F sc_shot_days fun cdv A outer s1 H1 E1 hr => by
  have tk : Takes (cxOf (L2.CX P w) P w K mg base ["case", "course", "stands", "found", "before", "after", "scene"] "shot_days" (defScope s_shot_days) fa cdv A outer s1 H1 E1) (fun cls d _ H => E1 cls d H) := takes_of rfl rfl rfl rfl
  have hp : PassesOwn (model P w) (cxOf (L2.CX P w) P w K mg base ["case", "course", "stands", "found", "before", "after", "scene"] "shot_days" (defScope s_shot_days) fa cdv A outer s1 H1 E1).A (cxOf (L2.CX P w) P w K mg base ["case", "course", "stands", "found", "before", "after", "scene"] "shot_days" (defScope s_shot_days) fa cdv A outer s1 H1 E1).env (cxOf (L2.CX P w) P w K mg base ["case", "course", "stands", "found", "before", "after", "scene"] "shot_days" (defScope s_shot_days) fa cdv A outer s1 H1 E1).xe := passes_of rfl
  exact ms_cons (st_set 2 sc_shot_days.nd (m_ixA (hu1 hr) (m_cal C_run (hr.mono (by omega)) tk (ma_cons (m_var 0) (ma_cons (m_var 1) (ma_nil)))) (m_int))) (ms_cons (st_set 3 sc_shot_days.nd (m_op or_mul (s_mul true) (m_lst false (ma_cons (m_non) (ma_nil))) (m_bi or_len s_len Z.len (by decide +kernel) (ma_cons (m_ixA (hu1 hr) (m_ixA (hu1 hr) (m_var 0) (m_int)) (m_int)) (ma_nil))))) (ms_cons (st_for [4, 5, 6] hp (i_zp Z.zip (ma_cons (m_var 2) (ma_cons (m_sl false (m_var 2) (mo_some (m_int)) (mo_none)) (ma_nil)))) (g_tup (g_cons (g_name 4 sc_shot_days.nd) (g_cons (g_name 5 sc_shot_days.nd) (g_nil)))) (ms_one (st_for [6] hp (i_sq (m_ixA (hu1 hr) (m_var 5) (m_int))) (g_name 6 sc_shot_days.nd) (ms_one (st_if (t_cmp (or_ninA (hu65 hr)) (s_inA s_nin) (m_var 6) (m_ixA (hu1 hr) (m_var 4) (m_int))) (ms_one (st_sub (set_a (hu1 hr)) s_setA (m_var 3) (m_var 6) (m_ixA (hu1 hr) (m_var 4) (m_int)))) (ms_nil)))))) (ms_one (st_ret (m_var 3)))))
theorem ok_back_days (Z : Zs P K mg) (C_check_lab : Cal P w K mg base "check_lab" 2 ["lab"] m_check_lab) (C_shot_days : Cal P w K mg base "shot_days" 15 ["case", "course"] m_shot_days) {fa : Addr} {fd : FuncData} (F : Fun K "back_days" "back_days" s_back_days fa fd) : FnM P w K mg base (15 + 1) fa fd ["case", "course", "lab"] (fnD 4 (b_back_days)) := fn_D F sc_back_days fun cdv A outer s1 H1 E1 hr => by
  have tk : Takes (cxOf (L2.CX P w) P w K mg base ["case", "course", "lab", "day"] "back_days" (defScope s_back_days) fa cdv A outer s1 H1 E1) (fun cls d _ H => E1 cls d H) := takes_of rfl rfl rfl rfl
  have hp : PassesOwn (model P w) (cxOf (L2.CX P w) P w K mg base ["case", "course", "lab", "day"] "back_days" (defScope s_back_days) fa cdv A outer s1 H1 E1).A (cxOf (L2.CX P w) P w K mg base ["case", "course", "lab", "day"] "back_days" (defScope s_back_days) fa cdv A outer s1 H1 E1).env (cxOf (L2.CX P w) P w K mg base ["case", "course", "lab", "day"] "back_days" (defScope s_back_days) fa cdv A outer s1 H1 E1).xe := passes_of rfl
  exact ms_cons (st_expr (m_cal C_check_lab (hr.mono (by omega)) tk (ma_cons (m_var 2) (ma_nil)))) (ms_one (st_ret (m_ty call_tuple_of s_tuple Z.tuple (by decide +kernel) (ma_cons (m_comp false [("day", 3)] sc_back_days.nd (i_sq (m_cal C_shot_days (hr.mono (by omega)) tk (ma_cons (m_var 0) (ma_cons (m_var 1) (ma_nil))))) (blkOk_by (N := ["case", "course", "lab", "day"]) (sc := defScope s_back_days) (by decide +kernel)) (fun s2 H2 C2 cl2 fp2 => g_name 3 sc_back_days.nd) (fun s2 H2 C2 cl2 fp2 => ts_nil) (fun s2 H2 C2 cl2 fp2 => m_if (t_cmp or_is s_is (m_var 3) (m_non)) (m_non) (m_op or_add (s_add false) (m_var 3) (m_var 2)))) (ma_nil)))))
theorem ok_cut_day (Z : Zs P K mg) (C_check_lab : Cal P w K mg base "check_lab" 2 ["lab"] m_check_lab) (C_check_scenes : Cal P w K mg base "check_scenes" 2 ["case", "sequence"] m_check_scenes) (C_shot_days : Cal P w K mg base "shot_days" 15 ["case", "course"] m_shot_days) {fa : Addr} {fd : FuncData} (F : Fun K "cut_day" "cut_day" s_cut_day fa fd) : FnM P w K mg base (15 + 1) fa fd ["case", "course", "sequence", "lab"] (fnD 7 (b_cut_day)) := fn_D F sc_cut_day fun cdv A outer s1 H1 E1 hr => by
  have tk : Takes (cxOf (L2.CX P w) P w K mg base ["case", "course", "sequence", "lab", "days", "own", "scene"] "cut_day" (defScope s_cut_day) fa cdv A outer s1 H1 E1) (fun cls d _ H => E1 cls d H) := takes_of rfl rfl rfl rfl
  have hp : PassesOwn (model P w) (cxOf (L2.CX P w) P w K mg base ["case", "course", "sequence", "lab", "days", "own", "scene"] "cut_day" (defScope s_cut_day) fa cdv A outer s1 H1 E1).A (cxOf (L2.CX P w) P w K mg base ["case", "course", "sequence", "lab", "days", "own", "scene"] "cut_day" (defScope s_cut_day) fa cdv A outer s1 H1 E1).env (cxOf (L2.CX P w) P w K mg base ["case", "course", "sequence", "lab", "days", "own", "scene"] "cut_day" (defScope s_cut_day) fa cdv A outer s1 H1 E1).xe := passes_of rfl
  exact ms_cons (st_expr (m_cal C_check_lab (hr.mono (by omega)) tk (ma_cons (m_var 3) (ma_nil)))) (ms_cons (st_expr (m_cal C_check_scenes (hr.mono (by omega)) tk (ma_cons (m_var 0) (ma_cons (m_var 2) (ma_nil))))) (ms_cons (st_set 4 sc_cut_day.nd (m_cal C_shot_days (hr.mono (by omega)) tk (ma_cons (m_var 0) (ma_cons (m_var 1) (ma_nil))))) (ms_cons (st_setLc false 5 [("scene", 6)] sc_cut_day.nd (i_sq (m_var 2)) (blkOk_by (N := ["case", "course", "sequence", "lab", "days", "own", "scene"]) (sc := defScope s_cut_day) (by decide +kernel)) (fun s2 H2 C2 cl2 fp2 => g_name 6 sc_cut_day.nd) (fun s2 H2 C2 cl2 fp2 => ts_nil) (fun s2 H2 C2 cl2 fp2 => m_ixA (hu1 hr) (m_var 4) (m_var 6)) (sw_true rfl rfl rfl (by decide +kernel))) (ms_one (st_ret (m_if (t_cmp (or_inA (hu65 hr)) (s_inA s_in) (m_non) (m_var 5)) (m_non) (m_op or_add (s_add false) (m_bi (or_max rfl) s_max Z.max (by decide +kernel) (ma_cons (m_var 5) (ma_nil))) (m_var 3))))))))
theorem ok_check_roll (Z : Zs P K mg) {fa : Addr} {fd : FuncData} (F : Fun K "check_roll" "check_roll" s_check_roll fa fd) : FnM P w K mg base (1 + 1) fa fd ["case", "roll"] (fnD 3 (b_check_roll)) := fn_D F sc_check_roll fun cdv A outer s1 H1 E1 hr => by
  have tk : Takes (cxOf (L2.CX P w) P w K mg base ["case", "roll", "scene"] "check_roll" (defScope s_check_roll) fa cdv A outer s1 H1 E1) (fun cls d _ H => E1 cls d H) := takes_of rfl rfl rfl rfl
  have hp : PassesOwn (model P w) (cxOf (L2.CX P w) P w K mg base ["case", "roll", "scene"] "check_roll" (defScope s_check_roll) fa cdv A outer s1 H1 E1).A (cxOf (L2.CX P w) P w K mg base ["case", "roll", "scene"] "check_roll" (defScope s_check_roll) fa cdv A outer s1 H1 E1).env (cxOf (L2.CX P w) P w K mg base ["case", "roll", "scene"] "check_roll" (defScope s_check_roll) fa cdv A outer s1 H1 E1).xe := passes_of rfl
  exact ms_one (st_if (t_w (w_or (t_not (t_chain op_le s_le op_le s_le (m_int) (m_var 1) (m_glob Z.c_MOST_MINUTES))) (w_or1 (t_not (t_tru (m_bi (cr_all rfl) s_all Z.all (by decide +kernel) (ma_cons (m_comp false [("scene", 2)] sc_check_roll.nd (i_sq (m_ixA (hu1 hr) (m_ixA (hu1 hr) (m_var 0) (m_int)) (m_int))) (blkOk_by (N := ["case", "roll", "scene"]) (sc := defScope s_check_roll) (by decide +kernel)) (fun s2 H2 C2 cl2 fp2 => g_name 2 sc_check_roll.nd) (fun s2 H2 C2 cl2 fp2 => ts_nil) (fun s2 H2 C2 cl2 fp2 => m_cmp op_le s_le (m_ixA (hu1 hr) (m_var 2) (m_int)) (m_var 1))) (ma_nil)))))))) (ms_one (st_raiseE (k := 0) rfl Z.x_StockError (hr.mono (by omega)) tk (m_str))) (ms_nil))
theorem ok_day_rolls (Z : Zs P K mg) (C_hours : Cal P w K mg base "hours" 3 ["film", "sheet", "shot", "news"] m_hours) (C_put_in_order : Cal P w K mg base "put_in_order" 1 ["takes", "roll"] m_put_in_order) {fa : Addr} {fd : FuncData} (F : Fun K "day_rolls" "day_rolls" s_day_rolls fa fd) : FnM P w K mg base (3 + 1) fa fd ["case", "stand", "number", "nature", "roll"] (fnD 8 (b_day_rolls)) := fn_D F sc_day_rolls fun cdv A outer s1 H1 E1 hr => by
  have tk : Takes (cxOf (L2.CX P w) P w K mg base ["case", "stand", "number", "nature", "roll", "rows", "takes", "row"] "day_rolls" (defScope s_day_rolls) fa cdv A outer s1 H1 E1) (fun cls d _ H => E1 cls d H) := takes_of rfl rfl rfl rfl
  have hp : PassesOwn (model P w) (cxOf (L2.CX P w) P w K mg base ["case", "stand", "number", "nature", "roll", "rows", "takes", "row"] "day_rolls" (defScope s_day_rolls) fa cdv A outer s1 H1 E1).A (cxOf (L2.CX P w) P w K mg base ["case", "stand", "number", "nature", "roll", "rows", "takes", "row"] "day_rolls" (defScope s_day_rolls) fa cdv A outer s1 H1 E1).env (cxOf (L2.CX P w) P w K mg base ["case", "stand", "number", "nature", "roll", "rows", "takes", "row"] "day_rolls" (defScope s_day_rolls) fa cdv A outer s1 H1 E1).xe := passes_of rfl
  exact ms_cons (st_set 5 sc_day_rolls.nd (m_ixA (hu1 hr) (m_cal C_hours (hr.mono (by omega)) tk (ma_cons (m_ixA (hu1 hr) (m_var 0) (m_int)) (ma_cons (m_ixA (hu1 hr) (m_ixA (hu1 hr) (m_ixA (hu1 hr) (m_var 0) (m_int)) (m_ixA (hu1 hr) (m_var 1) (m_int))) (m_var 2)) (ma_cons (m_ixA (hu1 hr) (m_var 1) (m_int)) (ma_cons (m_var 3) (ma_nil)))))) (m_int))) (ms_cons (st_setLc false 6 [("row", 7)] sc_day_rolls.nd (i_sq (m_var 5)) (blkOk_by (N := ["case", "stand", "number", "nature", "roll", "rows", "takes", "row"]) (sc := defScope s_day_rolls) (by decide +kernel)) (fun s2 H2 C2 cl2 fp2 => g_name 7 sc_day_rolls.nd) (fun s2 H2 C2 cl2 fp2 => ts_one (t_cmp (or_ne (hu64 hr)) s_ne (m_ixA (hu1 hr) (m_var 7) (m_int)) (m_glob Z.c_MEAL))) (fun s2 H2 C2 cl2 fp2 => m_ixA (hu1 hr) (m_ixA (hu1 hr) (m_ixA (hu1 hr) (m_ixA (hu1 hr) (m_var 0) (m_int)) (m_int)) (m_ixA (hu1 hr) (m_var 7) (m_int))) (m_int)) (sw_true rfl rfl rfl (by decide +kernel))) (ms_one (st_ret (m_if (t_tru (m_var 6)) (m_op or_add (s_add false) (m_ixA (hu1 hr) (m_cal C_put_in_order (hr.mono (by omega)) tk (ma_cons (m_var 6) (ma_cons (m_var 4) (ma_nil)))) (m_un un_neg s_neg (m_int))) (m_int)) (m_int)))))
theorem ok_rolls_of (Z : Zs P K mg) (C_check_roll : Cal P w K mg base "check_roll" 2 ["case", "roll"] m_check_roll) (C_run : Cal P w K mg base "run" 14 ["case", "course"] m_run) (C_day_rolls : Cal P w K mg base "day_rolls" 4 ["case", "stand", "number", "nature", "roll"] m_day_rolls) {fa : Addr} {fd : FuncData} (F : Fun K "rolls_of" "rolls_of" s_rolls_of fa fd) : FnM P w K mg base (14 + 1) fa fd ["case", "course", "roll"] (fnD 8 (b_rolls_of)) := fn_D F sc_rolls_of fun cdv A outer s1 H1 E1 hr => by
  have tk : Takes (cxOf (L2.CX P w) P w K mg base ["case", "course", "roll", "stands", "rolls", "stand", "number", "nature"] "rolls_of" (defScope s_rolls_of) fa cdv A outer s1 H1 E1) (fun cls d _ H => E1 cls d H) := takes_of rfl rfl rfl rfl
  have hp : PassesOwn (model P w) (cxOf (L2.CX P w) P w K mg base ["case", "course", "roll", "stands", "rolls", "stand", "number", "nature"] "rolls_of" (defScope s_rolls_of) fa cdv A outer s1 H1 E1).A (cxOf (L2.CX P w) P w K mg base ["case", "course", "roll", "stands", "rolls", "stand", "number", "nature"] "rolls_of" (defScope s_rolls_of) fa cdv A outer s1 H1 E1).env (cxOf (L2.CX P w) P w K mg base ["case", "course", "roll", "stands", "rolls", "stand", "number", "nature"] "rolls_of" (defScope s_rolls_of) fa cdv A outer s1 H1 E1).xe := passes_of rfl
  exact ms_cons (st_expr (m_cal C_check_roll (hr.mono (by omega)) tk (ma_cons (m_var 0) (ma_cons (m_var 2) (ma_nil))))) (ms_cons (st_set 3 sc_rolls_of.nd (m_ixA (hu1 hr) (m_cal C_run (hr.mono (by omega)) tk (ma_cons (m_var 0) (ma_cons (m_var 1) (ma_nil)))) (m_int))) (ms_cons (st_set 4 sc_rolls_of.nd (m_int)) (ms_cons (st_for [5, 6, 7] hp (i_zp Z.zip (ma_cons (m_sl false (m_var 3) (mo_none) (mo_some (m_un un_neg s_neg (m_int)))) (ma_cons (m_var 1) (ma_nil)))) (g_tup (g_cons (g_name 5 sc_rolls_of.nd) (g_cons (g_tup (g_cons (g_name 6 sc_rolls_of.nd) (g_cons (g_name 7 sc_rolls_of.nd) (g_nil)))) (g_nil)))) (ms_one (st_aug 4 sc_rolls_of.nd iop_add s_iadd (m_cal C_day_rolls (hr.mono (by omega)) tk (ma_cons (m_var 0) (ma_cons (m_var 5) (ma_cons (m_var 6) (ma_cons (m_var 7) (ma_cons (m_var 2) (ma_nil)))))))))) (ms_one (st_ret (m_var 4))))))
theorem ok_law_begin (Z : Zs P K mg) {fa : Addr} {fd : FuncData} (F : Fun K "_law_begin" "_law_begin" s_law_begin fa fd) : FnM P w K mg base (0 + 1) fa fd ["script"] (fnK 3 (b_law_begin)) := fn_K F sc_law_begin fun cdv A outer s1 H1 E1 hr => by
  have tk : Takes (cxOf (L2.CX P w) P w K mg base ["script", "seed", "cell"] "_law_begin" (defScope s_law_begin) fa cdv A outer s1 H1 E1) (fun cls d _ H => E1 cls d H) := takes_of rfl rfl rfl rfl
  have hp : PassesOwn (model P w) (cxOf (L2.CX P w) P w K mg base ["script", "seed", "cell"] "_law_begin" (defScope s_law_begin) fa cdv A outer s1 H1 E1).A (cxOf (L2.CX P w) P w K mg base ["script", "seed", "cell"] "_law_begin" (defScope s_law_begin) fa cdv A outer s1 H1 E1).env (cxOf (L2.CX P w) P w K mg base ["script", "seed", "cell"] "_law_begin" (defScope s_law_begin) fa cdv A outer s1 H1 E1).xe := passes_of rfl
  exact ms_cons (st_set 1 sc_law_begin.nd (m_int)) (ms_cons (st_for [2] hp (i_sq (m_var 0)) (g_name 2 sc_law_begin.nd) (ms_one (st_set 1 sc_law_begin.nd (m_op op_mod s_mod (m_op or_add (s_add false) (m_op or_add (s_add false) (m_op or_mul (s_mul false) (m_var 1) (m_int)) (m_op op_mod s_mod (m_ty call_int1 s_intF Z.int (by decide +kernel) (ma_cons (m_var 2) (ma_nil))) (m_int))) (m_int)) (m_int))))) (ms_one (st_ret (m_lst true (ma_cons (m_ty call_list_of (s_list false) Z.list (by decide +kernel) (ma_cons (m_var 0) (ma_nil))) (ma_cons (m_int) (ma_cons (m_int) (ma_cons (m_var 1) (ma_nil)))))))))
theorem ok_law_take (Z : Zs P K mg) {fa : Addr} {fd : FuncData} (F : Fun K "_law_take" "_law_take" s_law_take fa fd) : FnM P w K mg base (0 + 1) fa fd ["d", "many"] (fnD 4 (b_law_take)) := fn_D F sc_law_take fun cdv A outer s1 H1 E1 hr => by
  have tk : Takes (cxOf (L2.CX P w) P w K mg base ["d", "many", "small", "digit"] "_law_take" (defScope s_law_take) fa cdv A outer s1 H1 E1) (fun cls d _ H => E1 cls d H) := takes_of rfl rfl rfl rfl
  have hp : PassesOwn (model P w) (cxOf (L2.CX P w) P w K mg base ["d", "many", "small", "digit"] "_law_take" (defScope s_law_take) fa cdv A outer s1 H1 E1).A (cxOf (L2.CX P w) P w K mg base ["d", "many", "small", "digit"] "_law_take" (defScope s_law_take) fa cdv A outer s1 H1 E1).env (cxOf (L2.CX P w) P w K mg base ["d", "many", "small", "digit"] "_law_take" (defScope s_law_take) fa cdv A outer s1 H1 E1).xe := passes_of rfl
  exact ms_cons (st_if (t_w (w_and (t_cmp (or_eq (hu64 hr)) s_eq (m_ixA (hu1 hr) (m_var 0) (m_int)) (m_int)) (w_and1 (t_cmp or_lt s_lt (m_ixA (hu1 hr) (m_var 0) (m_int)) (m_bi or_len s_len Z.len (by decide +kernel) (ma_cons (m_ixA (hu1 hr) (m_var 0) (m_int)) (ma_nil))))))) (ms_cons (st_sub (set_a (hu1 hr)) s_setA (m_var 0) (m_int) (m_bi call_abs s_abs Z.abs (by decide +kernel) (ma_cons (m_ty call_int1 s_intF Z.int (by decide +kernel) (ma_cons (m_ixA (hu1 hr) (m_ixA (hu1 hr) (m_var 0) (m_int)) (m_ixA (hu1 hr) (m_var 0) (m_int))) (ma_nil))) (ma_nil)))) (ms_cons (st_sub (set_a (hu1 hr)) s_setA (m_var 0) (m_int) (m_op or_add (s_add false) (m_ixA (hu1 hr) (m_var 0) (m_int)) (m_int))) (ms_one (st_if (t_cmp or_lt s_lt (m_ixA (hu1 hr) (m_var 0) (m_int)) (m_op op_pow s_pow (m_int) (m_int))) (ms_cons (st_set 2 sc_law_take.nd (m_ty call_int1 s_intF Z.int (by decide +kernel) (ma_cons (m_ixA (hu1 hr) (m_var 0) (m_int)) (ma_nil)))) (ms_cons (st_sub (set_a (hu1 hr)) s_setA (m_var 0) (m_int) (m_int)) (ms_one (st_ret (m_op op_mod s_mod (m_var 2) (m_var 1)))))) (ms_nil))))) (ms_nil)) (ms_cons (st_if (t_cmp op_gt s_gt (m_ixA (hu1 hr) (m_var 0) (m_int)) (m_int)) (ms_cons (st_set 3 sc_law_take.nd (m_op op_mod s_mod (m_ty call_int1 s_intF Z.int (by decide +kernel) (ma_cons (m_ixA (hu1 hr) (m_var 0) (m_int)) (ma_nil))) (m_var 1))) (ms_cons (st_sub (set_a (hu1 hr)) s_setA (m_var 0) (m_int) (m_op op_fdiv s_fdiv (m_ty call_int1 s_intF Z.int (by decide +kernel) (ma_cons (m_ixA (hu1 hr) (m_var 0) (m_int)) (ma_nil))) (m_var 1))) (ms_one (st_ret (m_var 3))))) (ms_nil)) (ms_cons (st_sub (set_a (hu1 hr)) s_setA (m_var 0) (m_int) (m_op op_mod s_mod (m_ty call_int1 s_intF Z.int (by decide +kernel) (ma_cons (m_op or_add (s_add false) (m_op or_mul (s_mul false) (m_ixA (hu1 hr) (m_var 0) (m_int)) (m_int)) (m_int)) (ma_nil))) (m_int))) (ms_one (st_ret (m_op op_mod s_mod (m_ty call_int1 s_intF Z.int (by decide +kernel) (ma_cons (m_op op_fdiv s_fdiv (m_ixA (hu1 hr) (m_var 0) (m_int)) (m_int)) (ma_nil))) (m_var 1))))))
theorem ok_law_some (Z : Zs P K mg) (C_law_take : Cal P w K mg base "_law_take" 1 ["d", "many"] m_law_take) {fa : Addr} {fd : FuncData} (F : Fun K "_law_some" "_law_some" s_law_some fa fd) : FnM P w K mg base (1 + 1) fa fd ["d", "many"] (fnD 3 (b_law_some)) := fn_D F sc_law_some fun cdv A outer s1 H1 E1 hr => by
  have tk : Takes (cxOf (L2.CX P w) P w K mg base ["d", "many", "k"] "_law_some" (defScope s_law_some) fa cdv A outer s1 H1 E1) (fun cls d _ H => E1 cls d H) := takes_of rfl rfl rfl rfl
  have hp : PassesOwn (model P w) (cxOf (L2.CX P w) P w K mg base ["d", "many", "k"] "_law_some" (defScope s_law_some) fa cdv A outer s1 H1 E1).A (cxOf (L2.CX P w) P w K mg base ["d", "many", "k"] "_law_some" (defScope s_law_some) fa cdv A outer s1 H1 E1).env (cxOf (L2.CX P w) P w K mg base ["d", "many", "k"] "_law_some" (defScope s_law_some) fa cdv A outer s1 H1 E1).xe := passes_of rfl
  exact ms_one (st_ret (m_ty call_tuple_of s_tuple Z.tuple (by decide +kernel) (ma_cons (m_comp false [("k", 2)] sc_law_some.nd (i_rng1 Z.range (ma_cons (m_var 1) (ma_nil))) (blkOk_by (N := ["d", "many", "k"]) (sc := defScope s_law_some) (by decide +kernel)) (fun s2 H2 C2 cl2 fp2 => g_name 2 sc_law_some.nd) (fun s2 H2 C2 cl2 fp2 => ts_one (t_cmp (or_eq (hu64 hr)) s_eq (m_cal C_law_take (hr.mono (by omega)) tk0 (ma_cons (m_var 0) (ma_cons (m_int) (ma_nil)))) (m_int))) (fun s2 H2 C2 cl2 fp2 => m_var 2)) (ma_nil))))
theorem ok_law_film (Z : Zs P K mg) (C_law_take : Cal P w K mg base "_law_take" 1 ["d", "many"] m_law_take) (C_law_some : Cal P w K mg base "_law_some" 2 ["d", "many"] m_law_some) {fa : Addr} {fd : FuncData} (F : Fun K "_law_film" "_law_film" s_law_film fa fd) : FnM P w K mg base (2 + 1) fa fd ["d", "scenes"] (fnD 7 (b_law_film)) := fn_D F sc_law_film fun cdv A outer s1 H1 E1 hr => by
  have tk : Takes (cxOf (L2.CX P w) P w K mg base ["d", "scenes", "actors", "places", "rows", "k", "orders"] "_law_film" (defScope s_law_film) fa cdv A outer s1 H1 E1) (fun cls d _ H => E1 cls d H) := takes_of rfl rfl rfl rfl
  have hp : PassesOwn (model P w) (cxOf (L2.CX P w) P w K mg base ["d", "scenes", "actors", "places", "rows", "k", "orders"] "_law_film" (defScope s_law_film) fa cdv A outer s1 H1 E1).A (cxOf (L2.CX P w) P w K mg base ["d", "scenes", "actors", "places", "rows", "k", "orders"] "_law_film" (defScope s_law_film) fa cdv A outer s1 H1 E1).env (cxOf (L2.CX P w) P w K mg base ["d", "scenes", "actors", "places", "rows", "k", "orders"] "_law_film" (defScope s_law_film) fa cdv A outer s1 H1 E1).xe := passes_of rfl
  exact ms_cons (st_set 2 sc_law_film.nd (m_op or_add (s_add false) (m_int) (m_cal C_law_take (hr.mono (by omega)) tk (ma_cons (m_var 0) (ma_cons (m_int) (ma_nil)))))) (ms_cons (st_set 3 sc_law_film.nd (m_op or_add (s_add false) (m_int) (m_cal C_law_take (hr.mono (by omega)) tk (ma_cons (m_var 0) (ma_cons (m_int) (ma_nil)))))) (ms_cons (st_set 4 sc_law_film.nd (m_lst true (ma_nil))) (ms_cons (st_for [] hp (i_rng1 Z.range (ma_cons (m_var 1) (ma_nil))) (g_name 5 sc_law_film.nd) (ms_one (st_expr (m_meth PySem.F.plainAttrs_list PySem.F.slot_list_append PySem.F.type_list_append mt_append s_append (m_var 4) (ma_cons (m_tup (ma_cons (m_op or_add (s_add false) (m_str) (m_ty call_str_int s_strF Z.str (by decide +kernel) (ma_cons (m_var 5) (ma_nil)))) (ma_cons (m_cal C_law_take (hr.mono (by omega)) tk (ma_cons (m_var 0) (ma_cons (m_var 3) (ma_nil)))) (ma_cons (m_str) (ma_cons (m_op or_add (s_add false) (m_int) (m_op or_mul (s_mul false) (m_int) (m_cal C_law_take (hr.mono (by omega)) tk (ma_cons (m_var 0) (ma_cons (m_int) (ma_nil)))))) (ma_cons (m_bl) (ma_cons (m_cal C_law_some (hr.mono (by omega)) tk (ma_cons (m_var 0) (ma_cons (m_var 2) (ma_nil)))) (ma_nil)))))))) (ma_nil)))))) (ms_cons (st_set 6 sc_law_film.nd (m_ty call_tuple_of s_tuple Z.tuple (by decide +kernel) (ma_cons (m_comp false [("k", 5)] sc_law_film.nd (i_rng1 Z.range (ma_cons (m_op op_sub s_sub (m_var 1) (m_int)) (ma_nil))) (blkOk_by (N := ["d", "scenes", "actors", "places", "rows", "k", "orders"]) (sc := defScope s_law_film) (by decide +kernel)) (fun s2 H2 C2 cl2 fp2 => g_name 5 sc_law_film.nd) (fun s2 H2 C2 cl2 fp2 => ts_one (t_cmp (or_eq (hu64 hr)) s_eq (m_cal C_law_take (hr.mono (by omega)) tk0 (ma_cons (m_var 0) (ma_cons (m_int) (ma_nil)))) (m_int))) (fun s2 H2 C2 cl2 fp2 => m_tup (ma_cons (m_var 5) (ma_cons (m_op or_add (s_add false) (m_var 5) (m_int)) (ma_nil))))) (ma_nil)))) (ms_one (st_ret (m_tup (ma_cons (m_ty call_tuple_of s_tuple Z.tuple (by decide +kernel) (ma_cons (m_comp false [("k", 5)] sc_law_film.nd (i_rng1 Z.range (ma_cons (m_var 3) (ma_nil))) (blkOk_by (N := ["d", "scenes", "actors", "places", "rows", "k", "orders"]) (sc := defScope s_law_film) (by decide +kernel)) (fun s2 H2 C2 cl2 fp2 => g_name 5 sc_law_film.nd) (fun s2 H2 C2 cl2 fp2 => ts_nil) (fun s2 H2 C2 cl2 fp2 => m_tup (ma_cons (m_op or_add (s_add false) (m_str) (m_ty call_str_int s_strF Z.str (by decide +kernel) (ma_cons (m_var 5) (ma_nil)))) (ma_cons (m_bl) (ma_nil))))) (ma_nil))) (ma_cons (m_ty call_tuple_of s_tuple Z.tuple (by decide +kernel) (ma_cons (m_comp false [("k", 5)] sc_law_film.nd (i_rng1 Z.range (ma_cons (m_var 2) (ma_nil))) (blkOk_by (N := ["d", "scenes", "actors", "places", "rows", "k", "orders"]) (sc := defScope s_law_film) (by decide +kernel)) (fun s2 H2 C2 cl2 fp2 => g_name 5 sc_law_film.nd) (fun s2 H2 C2 cl2 fp2 => ts_nil) (fun s2 H2 C2 cl2 fp2 => m_tup (ma_cons (m_op or_add (s_add false) (m_str) (m_ty call_str_int s_strF Z.str (by decide +kernel) (ma_cons (m_var 5) (ma_nil)))) (ma_cons (m_bl) (ma_nil))))) (ma_nil))) (ma_cons (m_ty call_tuple_of s_tuple Z.tuple (by decide +kernel) (ma_cons (m_var 4) (ma_nil))) (ma_cons (m_var 6) (ma_cons (m_tup (ma_cons (m_int) (ma_cons (m_int) (ma_cons (m_int) (ma_nil))))) (ma_nil)))))))))))))
theorem ok_law_sheet (Z : Zs P K mg) (C_law_take : Cal P w K mg base "_law_take" 1 ["d", "many"] m_law_take) (C_law_some : Cal P w K mg base "_law_some" 2 ["d", "many"] m_law_some) {fa : Addr} {fd : FuncData} (F : Fun K "_law_sheet" "_law_sheet" s_law_sheet fa fd) : FnM P w K mg base (2 + 1) fa fd ["d", "scenes", "whole"] (fnD 6 (b_law_sheet)) := fn_D F sc_law_sheet fun cdv A outer s1 H1 E1 hr => by
  have tk : Takes (cxOf (L2.CX P w) P w K mg base ["d", "scenes", "whole", "full", "dry", "rain"] "_law_sheet" (defScope s_law_sheet) fa cdv A outer s1 H1 E1) (fun cls d _ H => E1 cls d H) := takes_of rfl rfl rfl rfl
  have hp : PassesOwn (model P w) (cxOf (L2.CX P w) P w K mg base ["d", "scenes", "whole", "full", "dry", "rain"] "_law_sheet" (defScope s_law_sheet) fa cdv A outer s1 H1 E1).A (cxOf (L2.CX P w) P w K mg base ["d", "scenes", "whole", "full", "dry", "rain"] "_law_sheet" (defScope s_law_sheet) fa cdv A outer s1 H1 E1).env (cxOf (L2.CX P w) P w K mg base ["d", "scenes", "whole", "full", "dry", "rain"] "_law_sheet" (defScope s_law_sheet) fa cdv A outer s1 H1 E1).xe := passes_of rfl
  exact ms_cons (st_set 3 sc_law_sheet.nd (m_tr1 rfl Z.tuple Z.range (m_var 1))) (ms_cons (st_set 4 sc_law_sheet.nd (m_if (t_w (w_or (t_tru (m_var 2)) (w_or1 (t_cmp op_gt s_gt (m_cal C_law_take (hr.mono (by omega)) tk (ma_cons (m_var 0) (ma_cons (m_int) (ma_nil)))) (m_int))))) (m_var 3) (m_cal C_law_some (hr.mono (by omega)) tk (ma_cons (m_var 0) (ma_cons (m_var 1) (ma_nil)))))) (ms_cons (st_set 5 sc_law_sheet.nd (m_if (t_w (w_or (t_tru (m_var 2)) (w_or1 (t_cmp op_gt s_gt (m_cal C_law_take (hr.mono (by omega)) tk (ma_cons (m_var 0) (ma_cons (m_int) (ma_nil)))) (m_int))))) (m_var 3) (m_cal C_law_some (hr.mono (by omega)) tk (ma_cons (m_var 0) (ma_cons (m_var 1) (ma_nil)))))) (ms_cons (st_if (t_cmp (or_eq (hu64 hr)) s_eq (m_cal C_law_take (hr.mono (by omega)) tk (ma_cons (m_var 0) (ma_cons (m_int) (ma_nil)))) (m_int)) (ms_cons (st_set 4 sc_law_sheet.nd (m_op or_add (s_add false) (m_op or_add (s_add false) (m_sl false (m_var 4) (mo_none) (mo_some (m_int))) (m_tup (ma_cons (m_un un_neg s_neg (m_int)) (ma_nil)))) (m_sl false (m_var 4) (mo_some (m_int)) (mo_none)))) (ms_one (st_set 5 sc_law_sheet.nd (m_op or_add (s_add false) (m_tup (ma_cons (m_un un_neg s_neg (m_int)) (ma_nil))) (m_var 5))))) (ms_nil)) (ms_one (st_ret (m_tup (ma_cons (m_ixA (hu1 hr) (m_lst false (ma_cons (m_int) (ma_cons (m_int) (ma_cons (m_op or_add (s_add false) (m_int) (m_op or_mul (s_mul false) (m_int) (m_cal C_law_take (hr.mono (by omega)) tk (ma_cons (m_var 0) (ma_cons (m_int) (ma_nil)))))) (ma_cons (m_int) (ma_nil)))))) (m_cal C_law_take (hr.mono (by omega)) tk (ma_cons (m_var 0) (ma_cons (m_int) (ma_nil))))) (ma_cons (m_var 4) (ma_cons (m_var 5) (ma_nil))))))))))
theorem ok_law_case (Z : Zs P K mg) (C_law_take : Cal P w K mg base "_law_take" 1 ["d", "many"] m_law_take) (C_law_film : Cal P w K mg base "_law_film" 3 ["d", "scenes"] m_law_film) (C_law_sheet : Cal P w K mg base "_law_sheet" 3 ["d", "scenes", "whole"] m_law_sheet) {fa : Addr} {fd : FuncData} (F : Fun K "_law_case" "_law_case" s_law_case fa fd) : FnM P w K mg base (3 + 1) fa fd ["d", "days"] (fnD 10 (b_law_case)) := fn_D F sc_law_case fun cdv A outer s1 H1 E1 hr => by
  have tk : Takes (cxOf (L2.CX P w) P w K mg base ["d", "days", "scenes", "film", "menu", "k", "rows", "j", "bounds", "fees"] "_law_case" (defScope s_law_case) fa cdv A outer s1 H1 E1) (fun cls d _ H => E1 cls d H) := takes_of rfl rfl rfl rfl
  have hp : PassesOwn (model P w) (cxOf (L2.CX P w) P w K mg base ["d", "days", "scenes", "film", "menu", "k", "rows", "j", "bounds", "fees"] "_law_case" (defScope s_law_case) fa cdv A outer s1 H1 E1).A (cxOf (L2.CX P w) P w K mg base ["d", "days", "scenes", "film", "menu", "k", "rows", "j", "bounds", "fees"] "_law_case" (defScope s_law_case) fa cdv A outer s1 H1 E1).env (cxOf (L2.CX P w) P w K mg base ["d", "days", "scenes", "film", "menu", "k", "rows", "j", "bounds", "fees"] "_law_case" (defScope s_law_case) fa cdv A outer s1 H1 E1).xe := passes_of rfl
  exact ms_cons (st_set 2 sc_law_case.nd (m_op or_add (s_add false) (m_int) (m_cal C_law_take (hr.mono (by omega)) tk (ma_cons (m_var 0) (ma_cons (m_int) (ma_nil)))))) (ms_cons (st_set 3 sc_law_case.nd (m_cal C_law_film (hr.mono (by omega)) tk (ma_cons (m_var 0) (ma_cons (m_var 2) (ma_nil))))) (ms_cons (st_set 4 sc_law_case.nd (m_lst true (ma_nil))) (ms_cons (st_for [5, 6] hp (i_rng1 Z.range (ma_cons (m_var 1) (ma_nil))) (g_name 5 sc_law_case.nd) (ms_cons (st_set 6 sc_law_case.nd (m_op or_add (s_add false) (m_tup (ma_cons (m_cal C_law_sheet (hr.mono (by omega)) tk (ma_cons (m_var 0) (ma_cons (m_var 2) (ma_cons (m_bl) (ma_nil))))) (ma_nil))) (m_ty call_tuple_of s_tuple Z.tuple (by decide +kernel) (ma_cons (m_comp false [("j", 7)] sc_law_case.nd (i_rng1 Z.range (ma_cons (m_cal C_law_take (hr.mono (by omega)) tk (ma_cons (m_var 0) (ma_cons (m_int) (ma_nil)))) (ma_nil))) (blkOk_by (N := ["d", "days", "scenes", "film", "menu", "k", "rows", "j", "bounds", "fees"]) (sc := defScope s_law_case) (by decide +kernel)) (fun s2 H2 C2 cl2 fp2 => g_name 7 sc_law_case.nd) (fun s2 H2 C2 cl2 fp2 => ts_nil) (fun s2 H2 C2 cl2 fp2 => m_cal C_law_sheet (hr.mono (by omega)) tk0 (ma_cons (m_var 0) (ma_cons (m_var 2) (ma_cons (m_bl) (ma_nil)))))) (ma_nil))))) (ms_one (st_expr (m_meth PySem.F.plainAttrs_list PySem.F.slot_list_append PySem.F.type_list_append mt_append s_append (m_var 4) (ma_cons (m_if (t_cmp (or_eq (hu64 hr)) s_eq (m_cal C_law_take (hr.mono (by omega)) tk (ma_cons (m_var 0) (ma_cons (m_int) (ma_nil)))) (m_int)) (m_rev false (m_var 6) (m_un un_neg s_neg (m_int))) (m_var 6)) (ma_nil))))))) (ms_cons (st_set 8 sc_law_case.nd (m_tup (ma_cons (m_cal C_law_take (hr.mono (by omega)) tk (ma_cons (m_var 0) (ma_cons (m_int) (ma_nil)))) (ma_cons (m_cal C_law_take (hr.mono (by omega)) tk (ma_cons (m_var 0) (ma_cons (m_int) (ma_nil)))) (ma_cons (m_cal C_law_take (hr.mono (by omega)) tk (ma_cons (m_var 0) (ma_cons (m_int) (ma_nil)))) (ma_cons (m_int) (ma_nil))))))) (ms_cons (st_set 9 sc_law_case.nd (m_ty call_tuple_of s_tuple Z.tuple (by decide +kernel) (ma_cons (m_comp false [("k", 5)] sc_law_case.nd (i_rng1 Z.range (ma_cons (m_bi or_len s_len Z.len (by decide +kernel) (ma_cons (m_ixA (hu1 hr) (m_var 3) (m_int)) (ma_nil))) (ma_nil))) (blkOk_by (N := ["d", "days", "scenes", "film", "menu", "k", "rows", "j", "bounds", "fees"]) (sc := defScope s_law_case) (by decide +kernel)) (fun s2 H2 C2 cl2 fp2 => g_name 5 sc_law_case.nd) (fun s2 H2 C2 cl2 fp2 => ts_nil) (fun s2 H2 C2 cl2 fp2 => m_tup (ma_cons (m_cal C_law_take (hr.mono (by omega)) tk0 (ma_cons (m_var 0) (ma_cons (m_int) (ma_nil)))) (ma_cons (m_tup (ma_nil)) (ma_nil))))) (ma_nil)))) (ms_one (st_ret (m_tup (ma_cons (m_var 3) (ma_cons (m_tup (ma_cons (m_op or_mulQ (s_mulQ false) (m_tup (ma_cons (m_tup (ma_cons (m_int) (ma_cons (m_int) (ma_nil)))) (ma_nil))) (m_var 1)) (ma_cons (m_tup (ma_nil)) (ma_cons (m_tup (ma_nil)) (ma_nil))))) (ma_cons (m_tup (ma_nil)) (ma_cons (m_ty call_tuple_of s_tuple Z.tuple (by decide +kernel) (ma_cons (m_var 4) (ma_nil))) (ma_cons (m_var 8) (ma_cons (m_var 9) (ma_nil)))))))))))))))
theorem ok_law_course (Z : Zs P K mg) (C_first_stand : Cal P w K mg base "first_stand" 1 ["case"] m_first_stand) (C_is_through : Cal P w K mg base "is_through" 1 ["case", "stand"] m_is_through) (C_law_take : Cal P w K mg base "_law_take" 1 ["d", "many"] m_law_take) (C_natures : Cal P w K mg base "natures" 3 ["case", "stand"] m_natures) (C_step : Cal P w K mg base "step" 13 ["case", "stand", "number", "nature"] m_step) {fa : Addr} {fd : FuncData} (F : Fun K "_law_course" "_law_course" s_law_course fa fd) : FnM P w K mg base (13 + 1) fa fd ["d", "case"] (fnD 8 (b_law_course)) := fn_D F sc_law_course fun cdv A outer s1 H1 E1 hr => by
  have tk : Takes (cxOf (L2.CX P w) P w K mg base ["d", "case", "stand", "course", "number", "all_natures", "nature", "told"] "_law_course" (defScope s_law_course) fa cdv A outer s1 H1 E1) (fun cls d _ H => E1 cls d H) := takes_of rfl rfl rfl rfl
  have hp : PassesOwn (model P w) (cxOf (L2.CX P w) P w K mg base ["d", "case", "stand", "course", "number", "all_natures", "nature", "told"] "_law_course" (defScope s_law_course) fa cdv A outer s1 H1 E1).A (cxOf (L2.CX P w) P w K mg base ["d", "case", "stand", "course", "number", "all_natures", "nature", "told"] "_law_course" (defScope s_law_course) fa cdv A outer s1 H1 E1).env (cxOf (L2.CX P w) P w K mg base ["d", "case", "stand", "course", "number", "all_natures", "nature", "told"] "_law_course" (defScope s_law_course) fa cdv A outer s1 H1 E1).xe := passes_of rfl
  exact ms_cons (st_set 2 sc_law_course.nd (m_cal C_first_stand (hr.mono (by omega)) tk (ma_cons (m_var 1) (ma_nil)))) (ms_cons (st_set 3 sc_law_course.nd (m_lst true (ma_nil))) (ms_cons (st_while hp (t_w (w_and (t_not (t_tru (m_cal C_is_through (hr.mono (by omega)) tk (ma_cons (m_var 1) (ma_cons (m_var 2) (ma_nil)))))) (w_and (t_cmp or_lt s_lt (m_bi or_len s_len Z.len (by decide +kernel) (ma_cons (m_var 3) (ma_nil))) (m_bi or_len s_len Z.len (by decide +kernel) (ma_cons (m_ixA (hu1 hr) (m_ixA (hu1 hr) (m_var 1) (m_int)) (m_int)) (ma_nil)))) (w_and1 (t_cmp op_gt s_gt (m_cal C_law_take (hr.mono (by omega)) tk (ma_cons (m_var 0) (ma_cons (m_int) (ma_nil)))) (m_int)))))) (ms_cons (st_set 4 sc_law_course.nd (m_cal C_law_take (hr.mono (by omega)) tk (ma_cons (m_var 0) (ma_cons (m_bi or_len s_len Z.len (by decide +kernel) (ma_cons (m_ixA (hu1 hr) (m_ixA (hu1 hr) (m_var 1) (m_int)) (m_ixA (hu1 hr) (m_var 2) (m_int))) (ma_nil))) (ma_nil))))) (ms_cons (st_set 5 sc_law_course.nd (m_cal C_natures (hr.mono (by omega)) tk (ma_cons (m_var 1) (ma_cons (m_var 2) (ma_nil))))) (ms_cons (st_set 6 sc_law_course.nd (m_ixA (hu1 hr) (m_var 5) (m_cal C_law_take (hr.mono (by omega)) tk (ma_cons (m_var 0) (ma_cons (m_bi or_len s_len Z.len (by decide +kernel) (ma_cons (m_var 5) (ma_nil))) (ma_nil)))))) (ms_cons (st_expr (m_meth PySem.F.plainAttrs_list PySem.F.slot_list_append PySem.F.type_list_append mt_append s_append (m_var 3) (ma_cons (m_tup (ma_cons (m_var 4) (ma_cons (m_var 6) (ma_nil)))) (ma_nil)))) (ms_cons (st_set 7 sc_law_course.nd (m_cal C_step (hr.mono (by omega)) tk (ma_cons (m_var 1) (ma_cons (m_var 2) (ma_cons (m_var 4) (ma_cons (m_var 6) (ma_nil))))))) (ms_cons (st_if (t_cmp (or_eq (hu64 hr)) s_eq (m_ixA (hu1 hr) (m_var 7) (m_int)) (m_str)) (ms_one (st_ret (m_ty call_tuple_of s_tuple Z.tuple (by decide +kernel) (ma_cons (m_var 3) (ma_nil))))) (ms_nil)) (ms_one (st_set 2 sc_law_course.nd (m_ixA (hu1 hr) (m_var 7) (m_int))))))))))) (ms_one (st_ret (m_ty call_tuple_of s_tuple Z.tuple (by decide +kernel) (ma_cons (m_var 3) (ma_nil)))))))
theorem ok_law_asked (Z : Zs P K mg) (C_back_days : Cal P w K mg base "back_days" 16 ["case", "course", "lab"] m_back_days) (C_cut_day : Cal P w K mg base "cut_day" 16 ["case", "course", "sequence", "lab"] m_cut_day) (C_rolls_of : Cal P w K mg base "rolls_of" 15 ["case", "course", "roll"] m_rolls_of) {fa : Addr} {fd : FuncData} (F : Fun K "_law_asked" "_law_asked" s_law_asked fa fd) : FnM P w K mg base (16 + 1) fa fd ["kind", "case", "course", "sequence", "number"] (fnD 6 (b_law_asked)) := fn_D F sc_law_asked fun cdv A outer s1 H1 E1 hr => by
  have tk : Takes (cxOf (L2.CX P w) P w K mg base ["kind", "case", "course", "sequence", "number", "e"] "_law_asked" (defScope s_law_asked) fa cdv A outer s1 H1 E1) (fun cls d _ H => E1 cls d H) := takes_of rfl rfl rfl rfl
  have hp : PassesOwn (model P w) (cxOf (L2.CX P w) P w K mg base ["kind", "case", "course", "sequence", "number", "e"] "_law_asked" (defScope s_law_asked) fa cdv A outer s1 H1 E1).A (cxOf (L2.CX P w) P w K mg base ["kind", "case", "course", "sequence", "number", "e"] "_law_asked" (defScope s_law_asked) fa cdv A outer s1 H1 E1).env (cxOf (L2.CX P w) P w K mg base ["kind", "case", "course", "sequence", "number", "e"] "_law_asked" (defScope s_law_asked) fa cdv A outer s1 H1 E1).xe := passes_of rfl
  exact ms_one (st_try_asE rfl rfl sc_law_asked.nd (i := 5) rfl rfl Z.y0 tk (fun W2 pn2 xe2 tk2 hp2 => ms_cons (st_if (t_cmp (or_eq (hu64 hr)) s_eq (m_var 0) (m_int)) (ms_one (st_ret (m_cal C_back_days (hr.mono (by omega)) tk2 (ma_cons (m_var 1) (ma_cons (m_var 2) (ma_cons (m_var 4) (ma_nil))))))) (ms_nil)) (ms_cons (st_if (t_cmp (or_eq (hu64 hr)) s_eq (m_var 0) (m_int)) (ms_one (st_ret (m_cal C_cut_day (hr.mono (by omega)) tk2 (ma_cons (m_var 1) (ma_cons (m_var 2) (ma_cons (m_var 3) (ma_cons (m_var 4) (ma_nil)))))))) (ms_nil)) (ms_one (st_ret (m_cal C_rolls_of (hr.mono (by omega)) tk2 (ma_cons (m_var 1) (ma_cons (m_var 2) (ma_cons (m_var 4) (ma_nil))))))))) (fun a oe C dd pn ef hz hf => ms_one (st_ret (m_code ef hz hf))))
theorem ok_law_rolls (Z : Zs P K mg) (C_hours : Cal P w K mg base "hours" 3 ["film", "sheet", "shot", "news"] m_hours) {fa : Addr} {fd : FuncData} (F : Fun K "_law_rolls" "_law_rolls" s_law_rolls fa fd) : FnM P w K mg base (3 + 1) fa fd ["case", "stand", "number", "nature", "roll"] (fnD 12 (b_law_rolls)) := fn_D F sc_law_rolls fun cdv A outer s1 H1 E1 hr => by
  have tk : Takes (cxOf (L2.CX P w) P w K mg base ["case", "stand", "number", "nature", "roll", "rows", "used", "left", "item", "begin", "end", "minutes"] "_law_rolls" (defScope s_law_rolls) fa cdv A outer s1 H1 E1) (fun cls d _ H => E1 cls d H) := takes_of rfl rfl rfl rfl
  have hp : PassesOwn (model P w) (cxOf (L2.CX P w) P w K mg base ["case", "stand", "number", "nature", "roll", "rows", "used", "left", "item", "begin", "end", "minutes"] "_law_rolls" (defScope s_law_rolls) fa cdv A outer s1 H1 E1).A (cxOf (L2.CX P w) P w K mg base ["case", "stand", "number", "nature", "roll", "rows", "used", "left", "item", "begin", "end", "minutes"] "_law_rolls" (defScope s_law_rolls) fa cdv A outer s1 H1 E1).env (cxOf (L2.CX P w) P w K mg base ["case", "stand", "number", "nature", "roll", "rows", "used", "left", "item", "begin", "end", "minutes"] "_law_rolls" (defScope s_law_rolls) fa cdv A outer s1 H1 E1).xe := passes_of rfl
  exact ms_cons (st_set 5 sc_law_rolls.nd (m_ixA (hu1 hr) (m_cal C_hours (hr.mono (by omega)) tk (ma_cons (m_ixA (hu1 hr) (m_var 0) (m_int)) (ma_cons (m_ixA (hu1 hr) (m_ixA (hu1 hr) (m_ixA (hu1 hr) (m_var 0) (m_int)) (m_ixA (hu1 hr) (m_var 1) (m_int))) (m_var 2)) (ma_cons (m_ixA (hu1 hr) (m_var 1) (m_int)) (ma_cons (m_var 3) (ma_nil)))))) (m_int))) (ms_cons (st_set 6 sc_law_rolls.nd (m_int)) (ms_cons (st_set 7 sc_law_rolls.nd (m_int)) (ms_cons (st_for [8, 9, 10, 11] hp (i_sq (m_var 5)) (g_tup (g_cons (g_name 8 sc_law_rolls.nd) (g_cons (g_name 9 sc_law_rolls.nd) (g_cons (g_name 10 sc_law_rolls.nd) (g_nil))))) (ms_one (st_if (t_cmp (or_ne (hu64 hr)) s_ne (m_var 8) (m_un un_neg s_neg (m_int))) (ms_cons (st_set 11 sc_law_rolls.nd (m_ixA (hu1 hr) (m_ixA (hu1 hr) (m_ixA (hu1 hr) (m_ixA (hu1 hr) (m_var 0) (m_int)) (m_int)) (m_var 8)) (m_int))) (ms_cons (st_set 6 sc_law_rolls.nd (m_op or_add (s_add false) (m_var 6) (m_ty call_int1 s_intF Z.int (by decide +kernel) (ma_cons (m_cmp op_gt s_gt (m_var 11) (m_var 7)) (ma_nil))))) (ms_one (st_set 7 sc_law_rolls.nd (m_op op_sub s_sub (m_if (t_cmp op_gt s_gt (m_var 11) (m_var 7)) (m_var 4) (m_var 7)) (m_var 11)))))) (ms_nil)))) (ms_one (st_ret (m_var 6))))))
theorem ok_law (Z : Zs P K mg) (C_law_begin : Cal P w K mg base "_law_begin" 1 ["script"] m_law_begin) (C_law_take : Cal P w K mg base "_law_take" 1 ["d", "many"] m_law_take) (C_law_case : Cal P w K mg base "_law_case" 4 ["d", "days"] m_law_case) (C_law_course : Cal P w K mg base "_law_course" 14 ["d", "case"] m_law_course) (C_run : Cal P w K mg base "run" 14 ["case", "course"] m_run) (C_law_asked : Cal P w K mg base "_law_asked" 17 ["kind", "case", "course", "sequence", "number"] m_law_asked) (C_law_some : Cal P w K mg base "_law_some" 2 ["d", "many"] m_law_some) (C_law_rolls : Cal P w K mg base "_law_rolls" 4 ["case", "stand", "number", "nature", "roll"] m_law_rolls) {fa : Addr} {fd : FuncData} (F : Fun K "law" "law" s_law fa fd) : FnM P w K mg base (17 + 1) fa fd ["script"] (fnD 21 (b_law)) := fn_D F sc_law fun cdv A outer s1 H1 E1 hr => by
  have tk : Takes (cxOf (L2.CX P w) P w K mg base ["script", "d", "case", "scenes", "course", "stands", "days", "k", "scene", "lab", "due", "day", "sequence", "own", "longest", "roll", "rolls", "kind", "row", "number", "code"] "law" (defScope s_law) fa cdv A outer s1 H1 E1) (fun cls d _ H => E1 cls d H) := takes_of rfl rfl rfl rfl
  have hp : PassesOwn (model P w) (cxOf (L2.CX P w) P w K mg base ["script", "d", "case", "scenes", "course", "stands", "days", "k", "scene", "lab", "due", "day", "sequence", "own", "longest", "roll", "rolls", "kind", "row", "number", "code"] "law" (defScope s_law) fa cdv A outer s1 H1 E1).A (cxOf (L2.CX P w) P w K mg base ["script", "d", "case", "scenes", "course", "stands", "days", "k", "scene", "lab", "due", "day", "sequence", "own", "longest", "roll", "rolls", "kind", "row", "number", "code"] "law" (defScope s_law) fa cdv A outer s1 H1 E1).env (cxOf (L2.CX P w) P w K mg base ["script", "d", "case", "scenes", "course", "stands", "days", "k", "scene", "lab", "due", "day", "sequence", "own", "longest", "roll", "rolls", "kind", "row", "number", "code"] "law" (defScope s_law) fa cdv A outer s1 H1 E1).xe := passes_of rfl
  exact ms_cons (st_set 1 sc_law.nd (m_cal C_law_begin (hr.mono (by omega)) tk (ma_cons (m_var 0) (ma_nil)))) (ms_cons (st_set 2 sc_law.nd (m_cal C_law_case (hr.mono (by omega)) tk (ma_cons (m_var 1) (ma_cons (m_op or_add (s_add false) (m_int) (m_cal C_law_take (hr.mono (by omega)) tk (ma_cons (m_var 1) (ma_cons (m_int) (ma_nil))))) (ma_nil))))) (ms_cons (st_set 3 sc_law.nd (m_bi or_len s_len Z.len (by decide +kernel) (ma_cons (m_ixA (hu1 hr) (m_ixA (hu1 hr) (m_var 2) (m_int)) (m_int)) (ma_nil)))) (ms_cons (st_set 4 sc_law.nd (m_cal C_law_course (hr.mono (by omega)) tk (ma_cons (m_var 1) (ma_cons (m_var 2) (ma_nil))))) (ms_cons (st_set 5 sc_law.nd (m_ixA (hu1 hr) (m_cal C_run (hr.mono (by omega)) tk (ma_cons (m_var 2) (ma_cons (m_var 4) (ma_nil)))) (m_int))) (ms_cons (st_set 6 sc_law.nd (m_op or_mul (s_mul true) (m_lst false (ma_cons (m_non) (ma_nil))) (m_var 3))) (ms_cons (st_for [7] hp (i_rng2 Z.range (ma_cons (m_int) (ma_cons (m_bi or_len s_len Z.len (by decide +kernel) (ma_cons (m_var 5) (ma_nil))) (ma_nil)))) (g_name 7 sc_law.nd) (ms_one (st_for [] hp (i_sq (m_ixA (hu1 hr) (m_ixA (hu1 hr) (m_var 5) (m_var 7)) (m_int))) (g_name 8 sc_law.nd) (ms_one (st_if (t_cmp (or_ninA (hu65 hr)) (s_inA s_nin) (m_var 8) (m_ixA (hu1 hr) (m_ixA (hu1 hr) (m_var 5) (m_op op_sub s_sub (m_var 7) (m_int))) (m_int))) (ms_one (st_sub (set_a (hu1 hr)) s_setA (m_var 6) (m_var 8) (m_ixA (hu1 hr) (m_ixA (hu1 hr) (m_var 5) (m_op op_sub s_sub (m_var 7) (m_int))) (m_int)))) (ms_nil)))))) (ms_cons (st_set 9 sc_law.nd (m_cal C_law_take (hr.mono (by omega)) tk (ma_cons (m_var 1) (ma_cons (m_int) (ma_nil))))) (ms_cons (st_set 10 sc_law.nd (m_comp false [("day", 11)] sc_law.nd (i_sq (m_var 6)) (blkOk_by (N := ["script", "d", "case", "scenes", "course", "stands", "days", "k", "scene", "lab", "due", "day", "sequence", "own", "longest", "roll", "rolls", "kind", "row", "number", "code"]) (sc := defScope s_law) (by decide +kernel)) (fun s2 H2 C2 cl2 fp2 => g_name 11 sc_law.nd) (fun s2 H2 C2 cl2 fp2 => ts_nil) (fun s2 H2 C2 cl2 fp2 => m_if (t_cmp or_is s_is (m_var 11) (m_non)) (m_non) (m_op or_add (s_add false) (m_var 11) (m_var 9))))) (ms_cons (st_if (t_cmp (or_ne (hu64 hr)) s_ne (m_cal C_law_asked (hr.mono (by omega)) tk (ma_cons (m_int) (ma_cons (m_var 2) (ma_cons (m_var 4) (ma_cons (m_tup (ma_nil)) (ma_cons (m_var 9) (ma_nil))))))) (m_ty call_tuple_of s_tuple Z.tuple (by decide +kernel) (ma_cons (m_var 10) (ma_nil)))) (ms_one (st_ret (m_bl))) (ms_nil)) (ms_cons (st_set 12 sc_law.nd (m_cal C_law_some (hr.mono (by omega)) tk (ma_cons (m_var 1) (ma_cons (m_var 3) (ma_nil))))) (ms_cons (st_if (t_cmp (or_eq (hu64 hr)) s_eq (m_bi or_len s_len Z.len (by decide +kernel) (ma_cons (m_var 12) (ma_nil))) (m_int)) (ms_one (st_set 12 sc_law.nd (m_tup (ma_cons (m_cal C_law_take (hr.mono (by omega)) tk (ma_cons (m_var 1) (ma_cons (m_var 3) (ma_nil)))) (ma_nil))))) (ms_nil)) (ms_cons (st_setLc false 13 [("scene", 8)] sc_law.nd (i_sq (m_var 12)) (blkOk_by (N := ["script", "d", "case", "scenes", "course", "stands", "days", "k", "scene", "lab", "due", "day", "sequence", "own", "longest", "roll", "rolls", "kind", "row", "number", "code"]) (sc := defScope s_law) (by decide +kernel)) (fun s2 H2 C2 cl2 fp2 => g_name 8 sc_law.nd) (fun s2 H2 C2 cl2 fp2 => ts_nil) (fun s2 H2 C2 cl2 fp2 => m_ixA (hu1 hr) (m_var 10) (m_var 8)) (sw_true rfl rfl rfl (by decide +kernel))) (ms_cons (st_if (t_cmp (or_ne (hu64 hr)) s_ne (m_cal C_law_asked (hr.mono (by omega)) tk (ma_cons (m_int) (ma_cons (m_var 2) (ma_cons (m_var 4) (ma_cons (m_var 12) (ma_cons (m_var 9) (ma_nil))))))) (m_if (t_cmp (or_inA (hu65 hr)) (s_inA s_in) (m_non) (m_var 13)) (m_non) (m_bi (or_max rfl) s_max Z.max (by decide +kernel) (ma_cons (m_var 13) (ma_nil))))) (ms_one (st_ret (m_bl))) (ms_nil)) (ms_cons (st_set 14 sc_law.nd (m_bi (or_max rfl) s_max Z.max (by decide +kernel) (ma_cons (m_comp false [("scene", 8)] sc_law.nd (i_sq (m_ixA (hu1 hr) (m_ixA (hu1 hr) (m_var 2) (m_int)) (m_int))) (blkOk_by (N := ["script", "d", "case", "scenes", "course", "stands", "days", "k", "scene", "lab", "due", "day", "sequence", "own", "longest", "roll", "rolls", "kind", "row", "number", "code"]) (sc := defScope s_law) (by decide +kernel)) (fun s2 H2 C2 cl2 fp2 => g_name 8 sc_law.nd) (fun s2 H2 C2 cl2 fp2 => ts_nil) (fun s2 H2 C2 cl2 fp2 => m_ixA (hu1 hr) (m_var 8) (m_int))) (ma_nil)))) (ms_cons (st_set 15 sc_law.nd (m_op or_add (s_add false) (m_var 14) (m_ixA (hu1 hr) (m_lst false (ma_cons (m_int) (ma_cons (m_int) (ma_cons (m_cal C_law_take (hr.mono (by omega)) tk (ma_cons (m_var 1) (ma_cons (m_int) (ma_nil)))) (ma_cons (m_op op_sub s_sub (m_int) (m_var 14)) (ma_nil)))))) (m_cal C_law_take (hr.mono (by omega)) tk (ma_cons (m_var 1) (ma_cons (m_int) (ma_nil))))))) (ms_cons (st_set 16 sc_law.nd (m_int)) (ms_cons (st_for [7] hp (i_rng1 Z.range (ma_cons (m_op op_sub s_sub (m_bi or_len s_len Z.len (by decide +kernel) (ma_cons (m_var 5) (ma_nil))) (m_int)) (ma_nil))) (g_name 7 sc_law.nd) (ms_one (st_set 16 sc_law.nd (m_op or_add (s_add false) (m_var 16) (m_cal C_law_rolls (hr.mono (by omega)) tk (ma_cons (m_var 2) (ma_cons (m_ixA (hu1 hr) (m_var 5) (m_var 7)) (ma_cons (m_ixA (hu1 hr) (m_ixA (hu1 hr) (m_var 4) (m_var 7)) (m_int)) (ma_cons (m_ixA (hu1 hr) (m_ixA (hu1 hr) (m_var 4) (m_var 7)) (m_int)) (ma_cons (m_var 15) (ma_nil))))))))))) (ms_cons (st_if (t_cmp (or_ne (hu64 hr)) s_ne (m_cal C_law_asked (hr.mono (by omega)) tk (ma_cons (m_int) (ma_cons (m_var 2) (ma_cons (m_var 4) (ma_cons (m_tup (ma_nil)) (ma_cons (m_var 15) (ma_nil))))))) (m_var 16)) (ms_one (st_ret (m_bl))) (ms_nil)) (ms_cons (st_for [17, 18, 19, 20] hp (i_sq (m_lst false (ma_cons (m_tup (ma_cons (m_int) (ma_cons (m_tup (ma_nil)) (ma_cons (m_un un_neg s_neg (m_int)) (ma_cons (m_str) (ma_nil)))))) (ma_cons (m_tup (ma_cons (m_int) (ma_cons (m_tup (ma_nil)) (ma_cons (m_int) (ma_cons (m_str) (ma_nil)))))) (ma_cons (m_tup (ma_cons (m_int) (ma_cons (m_tup (ma_cons (m_int) (ma_nil))) (ma_cons (m_int) (ma_cons (m_str) (ma_nil)))))) (ma_cons (m_tup (ma_cons (m_int) (ma_cons (m_tup (ma_nil)) (ma_cons (m_int) (ma_cons (m_str) (ma_nil)))))) (ma_cons (m_tup (ma_cons (m_int) (ma_cons (m_tup (ma_cons (m_int) (ma_cons (m_int) (ma_nil)))) (ma_cons (m_int) (ma_cons (m_str) (ma_nil)))))) (ma_cons (m_tup (ma_cons (m_int) (ma_cons (m_tup (ma_cons (m_var 3) (ma_nil))) (ma_cons (m_int) (ma_cons (m_str) (ma_nil)))))) (ma_cons (m_tup (ma_cons (m_int) (ma_cons (m_tup (ma_cons (m_un un_neg s_neg (m_int)) (ma_cons (m_int) (ma_nil)))) (ma_cons (m_int) (ma_cons (m_str) (ma_nil)))))) (ma_cons (m_tup (ma_cons (m_int) (ma_cons (m_tup (ma_cons (m_int) (ma_cons (m_var 3) (ma_nil)))) (ma_cons (m_int) (ma_cons (m_str) (ma_nil)))))) (ma_cons (m_tup (ma_cons (m_int) (ma_cons (m_tup (ma_nil)) (ma_cons (m_un un_neg s_neg (m_int)) (ma_cons (m_str) (ma_nil)))))) (ma_cons (m_tup (ma_cons (m_int) (ma_cons (m_tup (ma_nil)) (ma_cons (m_op op_sub s_sub (m_var 14) (m_int)) (ma_cons (m_str) (ma_nil)))))) (ma_cons (m_tup (ma_cons (m_int) (ma_cons (m_tup (ma_nil)) (ma_cons (m_int) (ma_cons (m_str) (ma_nil)))))) (ma_cons (m_tup (ma_cons (m_int) (ma_cons (m_tup (ma_nil)) (ma_cons (m_int) (ma_cons (m_str) (ma_nil)))))) (ma_nil))))))))))))))) (g_tup (g_cons (g_name 17 sc_law.nd) (g_cons (g_name 18 sc_law.nd) (g_cons (g_name 19 sc_law.nd) (g_cons (g_name 20 sc_law.nd) (g_nil)))))) (ms_one (st_if (t_cmp (or_ne (hu64 hr)) s_ne (m_cal C_law_asked (hr.mono (by omega)) tk (ma_cons (m_var 17) (ma_cons (m_var 2) (ma_cons (m_var 4) (ma_cons (m_var 18) (ma_cons (m_var 19) (ma_nil))))))) (m_var 20)) (ms_one (st_ret (m_bl))) (ms_nil)))) (ms_one (st_ret (m_bl))))))))))))))))))))))
end
/-! what the top has written -/
def spLaw (K : PySem.W.Frag) : Sp := fun vs H Q _ => ∃ (a : Addr) (ns : List Int), vs = [.ref a] ∧ SqL K H a (ns.map V.int) ∧ ns.length ≤ 63 ∧ ∀ H2, Q (.bl true) H2
theorem fin_law {P : Program} {w : World} {K : PySem.W.Frag} {mg : Str → Option Value} {base : Heap} {k : Nat} {fa : Addr} {fd : FuncData} (hm : ∀ ns : List Int, ns.length ≤ 63 → ∃ st, m_law [.frz (ns.map D.int)] [] = .ok (.bl true) st) (Fl : FnM P w K mg base k fa fd ["script"] m_law) : FnOk P w K mg base (L2.CX P w) k fa fd ["script"] (spLaw K) :=
  Fl.imp fun vs H Q E h => by
    obtain ⟨a, ns, rfl, hs, hl, hq⟩ := h
    obtain ⟨st, e⟩ := hm ns hl
    exact law_start hs e hq
theorem all_mk {l : PySem.W.OpenLaw} {w : World} {K : PySem.W.Frag} {h : Heap} {mg : Str → Option Value} {fa : Addr} (X : K.In h) (G : h.Ns mainGlobals mg) (hfa : mg "law" = some (.ref fa)) (hm : ∀ ns : List Int, ns.length ≤ 63 → ∃ st, m_law [.frz (ns.map D.int)] [] = .ok (.bl true) st)
    {kMEAL_1 : Tok}
    {kDAY_1 : Tok}
    {kNO_REST_1 : Tok}
    {kHALF_HOUR_1 : Tok}
    {kIDLE_2 : Tok}
    {kIDLE_3 : Tok}
    {aIDLE_1 : Addr} {nIDLE_1 : Nat} {lIDLE_1 : Array (Option Value)}
    {kMOST_LAB_1 : Tok}
    {kMOST_MINUTES_1 : Tok}
    {kFIGURES_2 : Tok}
    {kFIGURES_3 : Tok}
    {kFIGURES_4 : Tok}
    {kFIGURES_5 : Tok}
    {kFIGURES_6 : Tok}
    {kFIGURES_7 : Tok}
    {kFIGURES_8 : Tok}
    {kFIGURES_9 : Tok}
    {kFIGURES_10 : Tok}
    {aFIGURES_1 : Addr} {nFIGURES_1 : Nat} {lFIGURES_1 : Array (Option Value)}
    {f1 : Addr} {od1 an1 : Option Addr} {sl1 : Array (Option Value)} {oc1 kV1 dc1 pm1 cd1 ct1 : Value}
    {f2 : Addr} {od2 an2 : Option Addr} {sl2 : Array (Option Value)} {oc2 kV2 dc2 pm2 cd2 ct2 : Value}
    {kc_Clock : Addr}
    {f3 : Addr} {od3 an3 : Option Addr} {sl3 : Array (Option Value)} {oc3 kV3 dc3 pm3 cd3 ct3 : Value}
    {f4 : Addr} {od4 an4 : Option Addr} {sl4 : Array (Option Value)} {oc4 kV4 dc4 pm4 cd4 ct4 : Value}
    {f5 : Addr} {od5 an5 : Option Addr} {sl5 : Array (Option Value)} {oc5 kV5 dc5 pm5 cd5 ct5 : Value}
    {f6 : Addr} {od6 an6 : Option Addr} {sl6 : Array (Option Value)} {oc6 kV6 dc6 pm6 cd6 ct6 : Value}
    {f7 : Addr} {od7 an7 : Option Addr} {sl7 : Array (Option Value)} {oc7 kV7 dc7 pm7 cd7 ct7 : Value}
    {f8 : Addr} {od8 an8 : Option Addr} {sl8 : Array (Option Value)} {oc8 kV8 dc8 pm8 cd8 ct8 : Value}
    {f9 : Addr} {od9 an9 : Option Addr} {sl9 : Array (Option Value)} {oc9 kV9 dc9 pm9 cd9 ct9 : Value}
    {f10 : Addr} {od10 an10 : Option Addr} {sl10 : Array (Option Value)} {oc10 kV10 dc10 pm10 cd10 ct10 : Value}
    {f11 : Addr} {od11 an11 : Option Addr} {sl11 : Array (Option Value)} {oc11 kV11 dc11 pm11 cd11 ct11 : Value}
    {f12 : Addr} {od12 an12 : Option Addr} {sl12 : Array (Option Value)} {oc12 kV12 dc12 pm12 cd12 ct12 : Value}
    {f13 : Addr} {od13 an13 : Option Addr} {sl13 : Array (Option Value)} {oc13 kV13 dc13 pm13 cd13 ct13 : Value}
    {f14 : Addr} {od14 an14 : Option Addr} {sl14 : Array (Option Value)} {oc14 kV14 dc14 pm14 cd14 ct14 : Value}
    {f15 : Addr} {od15 an15 : Option Addr} {sl15 : Array (Option Value)} {oc15 kV15 dc15 pm15 cd15 ct15 : Value}
    {f16 : Addr} {od16 an16 : Option Addr} {sl16 : Array (Option Value)} {oc16 kV16 dc16 pm16 cd16 ct16 : Value}
    {f17 : Addr} {od17 an17 : Option Addr} {sl17 : Array (Option Value)} {oc17 kV17 dc17 pm17 cd17 ct17 : Value}
    {f18 : Addr} {od18 an18 : Option Addr} {sl18 : Array (Option Value)} {oc18 kV18 dc18 pm18 cd18 ct18 : Value}
    {f19 : Addr} {od19 an19 : Option Addr} {sl19 : Array (Option Value)} {oc19 kV19 dc19 pm19 cd19 ct19 : Value}
    {f20 : Addr} {od20 an20 : Option Addr} {sl20 : Array (Option Value)} {oc20 kV20 dc20 pm20 cd20 ct20 : Value}
    {f21 : Addr} {od21 an21 : Option Addr} {sl21 : Array (Option Value)} {oc21 kV21 dc21 pm21 cd21 ct21 : Value}
    {f22 : Addr} {od22 an22 : Option Addr} {sl22 : Array (Option Value)} {oc22 kV22 dc22 pm22 cd22 ct22 : Value}
    {f23 : Addr} {od23 an23 : Option Addr} {sl23 : Array (Option Value)} {oc23 kV23 dc23 pm23 cd23 ct23 : Value}
    {f24 : Addr} {od24 an24 : Option Addr} {sl24 : Array (Option Value)} {oc24 kV24 dc24 pm24 cd24 ct24 : Value}
    {f25 : Addr} {od25 an25 : Option Addr} {sl25 : Array (Option Value)} {oc25 kV25 dc25 pm25 cd25 ct25 : Value}
    {f26 : Addr} {od26 an26 : Option Addr} {sl26 : Array (Option Value)} {oc26 kV26 dc26 pm26 cd26 ct26 : Value}
    {f27 : Addr} {od27 an27 : Option Addr} {sl27 : Array (Option Value)} {oc27 kV27 dc27 pm27 cd27 ct27 : Value}
    {f28 : Addr} {od28 an28 : Option Addr} {sl28 : Array (Option Value)} {oc28 kV28 dc28 pm28 cd28 ct28 : Value}
    {f29 : Addr} {od29 an29 : Option Addr} {sl29 : Array (Option Value)} {oc29 kV29 dc29 pm29 cd29 ct29 : Value}
    {f30 : Addr} {od30 an30 : Option Addr} {sl30 : Array (Option Value)} {oc30 kV30 dc30 pm30 cd30 ct30 : Value}
    {f31 : Addr} {od31 an31 : Option Addr} {sl31 : Array (Option Value)} {oc31 kV31 dc31 pm31 cd31 ct31 : Value}
    {f32 : Addr} {od32 an32 : Option Addr} {sl32 : Array (Option Value)} {oc32 kV32 dc32 pm32 cd32 ct32 : Value}
    {f33 : Addr} {od33 an33 : Option Addr} {sl33 : Array (Option Value)} {oc33 kV33 dc33 pm33 cd33 ct33 : Value}
    {f34 : Addr} {od34 an34 : Option Addr} {sl34 : Array (Option Value)} {oc34 kV34 dc34 pm34 cd34 ct34 : Value}
    {f35 : Addr} {od35 an35 : Option Addr} {sl35 : Array (Option Value)} {oc35 kV35 dc35 pm35 cd35 ct35 : Value}
    {f36 : Addr} {od36 an36 : Option Addr} {sl36 : Array (Option Value)} {oc36 kV36 dc36 pm36 cd36 ct36 : Value}
    {f37 : Addr} {od37 an37 : Option Addr} {sl37 : Array (Option Value)} {oc37 kV37 dc37 pm37 cd37 ct37 : Value}
    {f38 : Addr} {od38 an38 : Option Addr} {sl38 : Array (Option Value)} {oc38 kV38 dc38 pm38 cd38 ct38 : Value}
    {f39 : Addr} {od39 an39 : Option Addr} {sl39 : Array (Option Value)} {oc39 kV39 dc39 pm39 cd39 ct39 : Value}
    {f40 : Addr} {od40 an40 : Option Addr} {sl40 : Array (Option Value)} {oc40 kV40 dc40 pm40 cd40 ct40 : Value}
    {f41 : Addr} {od41 an41 : Option Addr} {sl41 : Array (Option Value)} {oc41 kV41 dc41 pm41 cd41 ct41 : Value}
    {f42 : Addr} {od42 an42 : Option Addr} {sl42 : Array (Option Value)} {oc42 kV42 dc42 pm42 cd42 ct42 : Value}
    {f43 : Addr} {od43 an43 : Option Addr} {sl43 : Array (Option Value)} {oc43 kV43 dc43 pm43 cd43 ct43 : Value}
    {f44 : Addr} {od44 an44 : Option Addr} {sl44 : Array (Option Value)} {oc44 kV44 dc44 pm44 cd44 ct44 : Value}
    {f45 : Addr} {od45 an45 : Option Addr} {sl45 : Array (Option Value)} {oc45 kV45 dc45 pm45 cd45 ct45 : Value}
    {f46 : Addr} {od46 an46 : Option Addr} {sl46 : Array (Option Value)} {oc46 kV46 dc46 pm46 cd46 ct46 : Value}
    {er_D er_I er_cda er_cc : Addr} {er_oc er_doc er_pm er_ct er_ccl er_cl : Value} {er_od er_an er_cdd er_cld : Option Addr} {er_osl er_ccs er_csl : Array (Option Value)} {er_vs : Array Value} {er_file : Str} {er_tf : Tok} {er_cdD : ClassData}
    {er_CaseError eN_CaseError : Addr} {en_CaseError eq_CaseError : Str} {eb_CaseError eu_CaseError : List Value} {es_CaseError : List Str} {ea_CaseError : Bool} {ec_CaseError : Option Bool} {ed_CaseError : Option Addr} {e0_CaseError e1_CaseError e2_CaseError e3_CaseError e5_CaseError : Option Value}
    {er_StockError eN_StockError : Addr} {en_StockError eq_StockError : Str} {eb_StockError eu_StockError : List Value} {es_StockError : List Str} {ea_StockError : Bool} {ec_StockError : Option Bool} {ed_StockError : Option Addr} {e0_StockError e1_StockError e2_StockError e3_StockError e5_StockError : Option Value}
    (g_MEAL : PySem.W.nsIn K mainGlobals "MEAL" = some (some (Value.int (-1) kMEAL_1)))
    (g_DAY : PySem.W.nsIn K mainGlobals "DAY" = some (some (Value.int 1440 kDAY_1)))
    (g_NO_REST : PySem.W.nsIn K mainGlobals "NO_REST" = some (some (Value.int 9999 kNO_REST_1)))
    (g_HALF_HOUR : PySem.W.nsIn K mainGlobals "HALF_HOUR" = some (some (Value.int 30 kHALF_HOUR_1)))
    (g_IDLE : PySem.W.nsIn K mainGlobals "IDLE" = some (some (Value.ref aIDLE_1)))
    (hIDLE_1 : K.lookup aIDLE_1 = some ⟨.type "tuple", none, .seq #[(Value.int (-1) kIDLE_2), (Value.int 0 kIDLE_3)] nIDLE_1, lIDLE_1⟩)
    (g_MOST_LAB : PySem.W.nsIn K mainGlobals "MOST_LAB" = some (some (Value.int 9 kMOST_LAB_1)))
    (g_MOST_MINUTES : PySem.W.nsIn K mainGlobals "MOST_MINUTES" = some (some (Value.int 999 kMOST_MINUTES_1)))
    (g_FIGURES : PySem.W.nsIn K mainGlobals "FIGURES" = some (some (Value.ref aFIGURES_1)))
    (hFIGURES_1 : K.lookup aFIGURES_1 = some ⟨.type "tuple", none, .seq #[(Value.str "call" kFIGURES_2), (Value.str "wrap" kFIGURES_3), (Value.str "span" kFIGURES_4), (Value.str "work" kFIGURES_5), (Value.str "rest" kFIGURES_6), (Value.str "row" kFIGURES_7), (Value.str "dark" kFIGURES_8), (Value.str "stretch" kFIGURES_9), (Value.str "scenes" kFIGURES_10)] nFIGURES_1, lFIGURES_1⟩)
    (a1 : PySem.W.nsIn K mainGlobals "ascends" = some (some (.ref f1)))
    (l1 : K.lookup f1 = some ⟨oc1, od1, .func (PySem.W.fnOf "ascends" "ascends" (defArgs s_ascends) (defBody s_ascends) (defScope s_ascends) .none kV1 dc1 pm1 an1 cd1 ct1), sl1⟩)
    (c1 : PySem.W.codeIn K cd1 "ascends" = true)
    (k1 : PySem.W.keepIn K (.ref f1) = true)
    (k_a_Clock : PySem.W.nsIn K mainGlobals "Clock" = some (some (.ref kc_Clock)))
    (k_pg_Clock : PySem.W.plainGet K kc_Clock Str.empty = true)
    (k_hd_Clock : PySem.W.hasDictIn K kc_Clock = true)
    (k_po_Clock : PySem.W.plainOver K kc_Clock = true)
    (k_sa_Clock : PySem.W.findIn K (.ref kc_Clock) "__setattr__" = some (some (.builtin "object.__setattr__")))
    (k_mk_Clock : PySem.W.makesIn K kc_Clock = true)
    (k_kp_Clock : PySem.W.keepIn K (.ref kc_Clock) = true)
    (k_n_Clock_film : PySem.W.findIn K (.ref kc_Clock) "film" = some none)
    (k_n_Clock_minute : PySem.W.findIn K (.ref kc_Clock) "minute" = some none)
    (k_n_Clock_place : PySem.W.findIn K (.ref kc_Clock) "place" = some none)
    (k_n_Clock_rows : PySem.W.findIn K (.ref kc_Clock) "rows" = some none)
    (a2 : PySem.W.findIn K (.ref kc_Clock) "__init__" = some (some (.ref f2)))
    (i2 : PySem.W.isFn K (.ref f2) = true)
    (l2 : K.lookup f2 = some ⟨oc2, od2, .func (PySem.W.fnOf "__init__" "Clock.__init__" (defArgs s_Clock_init) (defBody s_Clock_init) (defScope s_Clock_init) .none kV2 dc2 pm2 an2 cd2 ct2), sl2⟩)
    (c2 : PySem.W.codeIn K cd2 "Clock.__init__" = true)
    (k2 : PySem.W.keepIn K (.ref f2) = true)
    (a3 : PySem.W.findIn K (.ref kc_Clock) "take" = some (some (.ref f3)))
    (i3 : PySem.W.isFn K (.ref f3) = true)
    (l3 : K.lookup f3 = some ⟨oc3, od3, .func (PySem.W.fnOf "take" "Clock.take" (defArgs s_Clock_take) (defBody s_Clock_take) (defScope s_Clock_take) .none kV3 dc3 pm3 an3 cd3 ct3), sl3⟩)
    (c3 : PySem.W.codeIn K cd3 "Clock.take" = true)
    (k3 : PySem.W.keepIn K (.ref f3) = true)
    (a4 : PySem.W.findIn K (.ref kc_Clock) "shoot" = some (some (.ref f4)))
    (i4 : PySem.W.isFn K (.ref f4) = true)
    (l4 : K.lookup f4 = some ⟨oc4, od4, .func (PySem.W.fnOf "shoot" "Clock.shoot" (defArgs s_Clock_shoot) (defBody s_Clock_shoot) (defScope s_Clock_shoot) .none kV4 dc4 pm4 an4 cd4 ct4), sl4⟩)
    (c4 : PySem.W.codeIn K cd4 "Clock.shoot" = true)
    (k4 : PySem.W.keepIn K (.ref f4) = true)
    (a5 : PySem.W.nsIn K mainGlobals "hours" = some (some (.ref f5)))
    (l5 : K.lookup f5 = some ⟨oc5, od5, .func (PySem.W.fnOf "hours" "hours" (defArgs s_hours) (defBody s_hours) (defScope s_hours) .none kV5 dc5 pm5 an5 cd5 ct5), sl5⟩)
    (c5 : PySem.W.codeIn K cd5 "hours" = true)
    (k5 : PySem.W.keepIn K (.ref f5) = true)
    (a6 : PySem.W.nsIn K mainGlobals "compared" = some (some (.ref f6)))
    (l6 : K.lookup f6 = some ⟨oc6, od6, .func (PySem.W.fnOf "compared" "compared" (defArgs s_compared) (defBody s_compared) (defScope s_compared) .none kV6 dc6 pm6 an6 cd6 ct6), sl6⟩)
    (c6 : PySem.W.codeIn K cd6 "compared" = true)
    (k6 : PySem.W.keepIn K (.ref f6) = true)
    (a7 : PySem.W.nsIn K mainGlobals "holds" = some (some (.ref f7)))
    (l7 : K.lookup f7 = some ⟨oc7, od7, .func (PySem.W.fnOf "holds" "holds" (defArgs s_holds) (defBody s_holds) (defScope s_holds) .none kV7 dc7 pm7 an7 cd7 ct7), sl7⟩)
    (c7 : PySem.W.codeIn K cd7 "holds" = true)
    (k7 : PySem.W.keepIn K (.ref f7) = true)
    (a8 : PySem.W.nsIn K mainGlobals "is_for" = some (some (.ref f8)))
    (l8 : K.lookup f8 = some ⟨oc8, od8, .func (PySem.W.fnOf "is_for" "is_for" (defArgs s_is_for) (defBody s_is_for) (defScope s_is_for) .none kV8 dc8 pm8 an8 cd8 ct8), sl8⟩)
    (c8 : PySem.W.codeIn K cd8 "is_for" = true)
    (k8 : PySem.W.keepIn K (.ref f8) = true)
    (a9 : PySem.W.nsIn K mainGlobals "broken" = some (some (.ref f9)))
    (l9 : K.lookup f9 = some ⟨oc9, od9, .func (PySem.W.fnOf "broken" "broken" (defArgs s_broken) (defBody s_broken) (defScope s_broken) .none kV9 dc9 pm9 an9 cd9 ct9), sl9⟩)
    (c9 : PySem.W.codeIn K cd9 "broken" = true)
    (k9 : PySem.W.keepIn K (.ref f9) = true)
    (a10 : PySem.W.nsIn K mainGlobals "is_there" = some (some (.ref f10)))
    (l10 : K.lookup f10 = some ⟨oc10, od10, .func (PySem.W.fnOf "is_there" "is_there" (defArgs s_is_there) (defBody s_is_there) (defScope s_is_there) .none kV10 dc10 pm10 an10 cd10 ct10), sl10⟩)
    (c10 : PySem.W.codeIn K cd10 "is_there" = true)
    (k10 : PySem.W.keepIn K (.ref f10) = true)
    (a11 : PySem.W.nsIn K mainGlobals "is_open" = some (some (.ref f11)))
    (l11 : K.lookup f11 = some ⟨oc11, od11, .func (PySem.W.fnOf "is_open" "is_open" (defArgs s_is_open) (defBody s_is_open) (defScope s_is_open) .none kV11 dc11 pm11 an11 cd11 ct11), sl11⟩)
    (c11 : PySem.W.codeIn K cd11 "is_open" = true)
    (k11 : PySem.W.keepIn K (.ref f11) = true)
    (a12 : PySem.W.nsIn K mainGlobals "dark_minutes" = some (some (.ref f12)))
    (l12 : K.lookup f12 = some ⟨oc12, od12, .func (PySem.W.fnOf "dark_minutes" "dark_minutes" (defArgs s_dark_minutes) (defBody s_dark_minutes) (defScope s_dark_minutes) .none kV12 dc12 pm12 an12 cd12 ct12), sl12⟩)
    (c12 : PySem.W.codeIn K cd12 "dark_minutes" = true)
    (k12 : PySem.W.keepIn K (.ref f12) = true)
    (a13 : PySem.W.nsIn K mainGlobals "longest_stretch" = some (some (.ref f13)))
    (l13 : K.lookup f13 = some ⟨oc13, od13, .func (PySem.W.fnOf "longest_stretch" "longest_stretch" (defArgs s_longest_stretch) (defBody s_longest_stretch) (defScope s_longest_stretch) .none kV13 dc13 pm13 an13 cd13 ct13), sl13⟩)
    (c13 : PySem.W.codeIn K cd13 "longest_stretch" = true)
    (k13 : PySem.W.keepIn K (.ref f13) = true)
    (a14 : PySem.W.nsIn K mainGlobals "figures_of" = some (some (.ref f14)))
    (l14 : K.lookup f14 = some ⟨oc14, od14, .func (PySem.W.fnOf "figures_of" "figures_of" (defArgs s_figures_of) (defBody s_figures_of) (defScope s_figures_of) .none kV14 dc14 pm14 an14 cd14 ct14), sl14⟩)
    (c14 : PySem.W.codeIn K cd14 "figures_of" = true)
    (k14 : PySem.W.keepIn K (.ref f14) = true)
    (a15 : PySem.W.nsIn K mainGlobals "is_lit" = some (some (.ref f15)))
    (l15 : K.lookup f15 = some ⟨oc15, od15, .func (PySem.W.fnOf "is_lit" "is_lit" (defArgs s_is_lit) (defBody s_is_lit) (defScope s_is_lit) .none kV15 dc15 pm15 an15 cd15 ct15), sl15⟩)
    (c15 : PySem.W.codeIn K cd15 "is_lit" = true)
    (k15 : PySem.W.keepIn K (.ref f15) = true)
    (a16 : PySem.W.nsIn K mainGlobals "scene_break" = some (some (.ref f16)))
    (l16 : K.lookup f16 = some ⟨oc16, od16, .func (PySem.W.fnOf "scene_break" "scene_break" (defArgs s_scene_break) (defBody s_scene_break) (defScope s_scene_break) .none kV16 dc16 pm16 an16 cd16 ct16), sl16⟩)
    (c16 : PySem.W.codeIn K cd16 "scene_break" = true)
    (k16 : PySem.W.keepIn K (.ref f16) = true)
    (a17 : PySem.W.nsIn K mainGlobals "rule_break" = some (some (.ref f17)))
    (l17 : K.lookup f17 = some ⟨oc17, od17, .func (PySem.W.fnOf "rule_break" "rule_break" (defArgs s_rule_break) (defBody s_rule_break) (defScope s_rule_break) .none kV17 dc17 pm17 an17 cd17 ct17), sl17⟩)
    (c17 : PySem.W.codeIn K cd17 "rule_break" = true)
    (k17 : PySem.W.keepIn K (.ref f17) = true)
    (a18 : PySem.W.nsIn K mainGlobals "rows_break" = some (some (.ref f18)))
    (l18 : K.lookup f18 = some ⟨oc18, od18, .func (PySem.W.fnOf "rows_break" "rows_break" (defArgs s_rows_break) (defBody s_rows_break) (defScope s_rows_break) .none kV18 dc18 pm18 an18 cd18 ct18), sl18⟩)
    (c18 : PySem.W.codeIn K cd18 "rows_break" = true)
    (k18 : PySem.W.keepIn K (.ref f18) = true)
    (a19 : PySem.W.nsIn K mainGlobals "day_cost" = some (some (.ref f19)))
    (l19 : K.lookup f19 = some ⟨oc19, od19, .func (PySem.W.fnOf "day_cost" "day_cost" (defArgs s_day_cost) (defBody s_day_cost) (defScope s_day_cost) .none kV19 dc19 pm19 an19 cd19 ct19), sl19⟩)
    (c19 : PySem.W.codeIn K cd19 "day_cost" = true)
    (k19 : PySem.W.keepIn K (.ref f19) = true)
    (a20 : PySem.W.nsIn K mainGlobals "first_stand" = some (some (.ref f20)))
    (l20 : K.lookup f20 = some ⟨oc20, od20, .func (PySem.W.fnOf "first_stand" "first_stand" (defArgs s_first_stand) (defBody s_first_stand) (defScope s_first_stand) .none kV20 dc20 pm20 an20 cd20 ct20), sl20⟩)
    (c20 : PySem.W.codeIn K cd20 "first_stand" = true)
    (k20 : PySem.W.keepIn K (.ref f20) = true)
    (a21 : PySem.W.nsIn K mainGlobals "is_through" = some (some (.ref f21)))
    (l21 : K.lookup f21 = some ⟨oc21, od21, .func (PySem.W.fnOf "is_through" "is_through" (defArgs s_is_through) (defBody s_is_through) (defScope s_is_through) .none kV21 dc21 pm21 an21 cd21 ct21), sl21⟩)
    (c21 : PySem.W.codeIn K cd21 "is_through" = true)
    (k21 : PySem.W.keepIn K (.ref f21) = true)
    (a22 : PySem.W.nsIn K mainGlobals "used_by" = some (some (.ref f22)))
    (l22 : K.lookup f22 = some ⟨oc22, od22, .func (PySem.W.fnOf "used_by" "used_by" (defArgs s_used_by) (defBody s_used_by) (defScope s_used_by) .none kV22 dc22 pm22 an22 cd22 ct22), sl22⟩)
    (c22 : PySem.W.codeIn K cd22 "used_by" = true)
    (k22 : PySem.W.keepIn K (.ref f22) = true)
    (a23 : PySem.W.nsIn K mainGlobals "may_choose" = some (some (.ref f23)))
    (l23 : K.lookup f23 = some ⟨oc23, od23, .func (PySem.W.fnOf "may_choose" "may_choose" (defArgs s_may_choose) (defBody s_may_choose) (defScope s_may_choose) .none kV23 dc23 pm23 an23 cd23 ct23), sl23⟩)
    (c23 : PySem.W.codeIn K cd23 "may_choose" = true)
    (k23 : PySem.W.keepIn K (.ref f23) = true)
    (a24 : PySem.W.nsIn K mainGlobals "natures" = some (some (.ref f24)))
    (l24 : K.lookup f24 = some ⟨oc24, od24, .func (PySem.W.fnOf "natures" "natures" (defArgs s_natures) (defBody s_natures) (defScope s_natures) .none kV24 dc24 pm24 an24 cd24 ct24), sl24⟩)
    (c24 : PySem.W.codeIn K cd24 "natures" = true)
    (k24 : PySem.W.keepIn K (.ref f24) = true)
    (a25 : PySem.W.nsIn K mainGlobals "check_step" = some (some (.ref f25)))
    (l25 : K.lookup f25 = some ⟨oc25, od25, .func (PySem.W.fnOf "check_step" "check_step" (defArgs s_check_step) (defBody s_check_step) (defScope s_check_step) .none kV25 dc25 pm25 an25 cd25 ct25), sl25⟩)
    (c25 : PySem.W.codeIn K cd25 "check_step" = true)
    (k25 : PySem.W.keepIn K (.ref f25) = true)
    (a26 : PySem.W.nsIn K mainGlobals "step" = some (some (.ref f26)))
    (l26 : K.lookup f26 = some ⟨oc26, od26, .func (PySem.W.fnOf "step" "step" (defArgs s_step) (defBody s_step) (defScope s_step) .none kV26 dc26 pm26 an26 cd26 ct26), sl26⟩)
    (c26 : PySem.W.codeIn K cd26 "step" = true)
    (k26 : PySem.W.keepIn K (.ref f26) = true)
    (a27 : PySem.W.nsIn K mainGlobals "run" = some (some (.ref f27)))
    (l27 : K.lookup f27 = some ⟨oc27, od27, .func (PySem.W.fnOf "run" "run" (defArgs s_run) (defBody s_run) (defScope s_run) .none kV27 dc27 pm27 an27 cd27 ct27), sl27⟩)
    (c27 : PySem.W.codeIn K cd27 "run" = true)
    (k27 : PySem.W.keepIn K (.ref f27) = true)
    (a28 : PySem.W.nsIn K mainGlobals "put_in_order" = some (some (.ref f28)))
    (l28 : K.lookup f28 = some ⟨oc28, od28, .func (PySem.W.fnOf "put_in_order" "put_in_order" (defArgs s_put_in_order) (defBody s_put_in_order) (defScope s_put_in_order) .none kV28 dc28 pm28 an28 cd28 ct28), sl28⟩)
    (c28 : PySem.W.codeIn K cd28 "put_in_order" = true)
    (k28 : PySem.W.keepIn K (.ref f28) = true)
    (a29 : PySem.W.nsIn K mainGlobals "check_lab" = some (some (.ref f29)))
    (l29 : K.lookup f29 = some ⟨oc29, od29, .func (PySem.W.fnOf "check_lab" "check_lab" (defArgs s_check_lab) (defBody s_check_lab) (defScope s_check_lab) .none kV29 dc29 pm29 an29 cd29 ct29), sl29⟩)
    (c29 : PySem.W.codeIn K cd29 "check_lab" = true)
    (k29 : PySem.W.keepIn K (.ref f29) = true)
    (a30 : PySem.W.nsIn K mainGlobals "check_scenes" = some (some (.ref f30)))
    (l30 : K.lookup f30 = some ⟨oc30, od30, .func (PySem.W.fnOf "check_scenes" "check_scenes" (defArgs s_check_scenes) (defBody s_check_scenes) (defScope s_check_scenes) .none kV30 dc30 pm30 an30 cd30 ct30), sl30⟩)
    (c30 : PySem.W.codeIn K cd30 "check_scenes" = true)
    (k30 : PySem.W.keepIn K (.ref f30) = true)
    (a31 : PySem.W.nsIn K mainGlobals "shot_days" = some (some (.ref f31)))
    (l31 : K.lookup f31 = some ⟨oc31, od31, .func (PySem.W.fnOf "shot_days" "shot_days" (defArgs s_shot_days) (defBody s_shot_days) (defScope s_shot_days) .none kV31 dc31 pm31 an31 cd31 ct31), sl31⟩)
    (c31 : PySem.W.codeIn K cd31 "shot_days" = true)
    (k31 : PySem.W.keepIn K (.ref f31) = true)
    (a32 : PySem.W.nsIn K mainGlobals "back_days" = some (some (.ref f32)))
    (l32 : K.lookup f32 = some ⟨oc32, od32, .func (PySem.W.fnOf "back_days" "back_days" (defArgs s_back_days) (defBody s_back_days) (defScope s_back_days) .none kV32 dc32 pm32 an32 cd32 ct32), sl32⟩)
    (c32 : PySem.W.codeIn K cd32 "back_days" = true)
    (k32 : PySem.W.keepIn K (.ref f32) = true)
    (a33 : PySem.W.nsIn K mainGlobals "cut_day" = some (some (.ref f33)))
    (l33 : K.lookup f33 = some ⟨oc33, od33, .func (PySem.W.fnOf "cut_day" "cut_day" (defArgs s_cut_day) (defBody s_cut_day) (defScope s_cut_day) .none kV33 dc33 pm33 an33 cd33 ct33), sl33⟩)
    (c33 : PySem.W.codeIn K cd33 "cut_day" = true)
    (k33 : PySem.W.keepIn K (.ref f33) = true)
    (a34 : PySem.W.nsIn K mainGlobals "check_roll" = some (some (.ref f34)))
    (l34 : K.lookup f34 = some ⟨oc34, od34, .func (PySem.W.fnOf "check_roll" "check_roll" (defArgs s_check_roll) (defBody s_check_roll) (defScope s_check_roll) .none kV34 dc34 pm34 an34 cd34 ct34), sl34⟩)
    (c34 : PySem.W.codeIn K cd34 "check_roll" = true)
    (k34 : PySem.W.keepIn K (.ref f34) = true)
    (a35 : PySem.W.nsIn K mainGlobals "day_rolls" = some (some (.ref f35)))
    (l35 : K.lookup f35 = some ⟨oc35, od35, .func (PySem.W.fnOf "day_rolls" "day_rolls" (defArgs s_day_rolls) (defBody s_day_rolls) (defScope s_day_rolls) .none kV35 dc35 pm35 an35 cd35 ct35), sl35⟩)
    (c35 : PySem.W.codeIn K cd35 "day_rolls" = true)
    (k35 : PySem.W.keepIn K (.ref f35) = true)
    (a36 : PySem.W.nsIn K mainGlobals "rolls_of" = some (some (.ref f36)))
    (l36 : K.lookup f36 = some ⟨oc36, od36, .func (PySem.W.fnOf "rolls_of" "rolls_of" (defArgs s_rolls_of) (defBody s_rolls_of) (defScope s_rolls_of) .none kV36 dc36 pm36 an36 cd36 ct36), sl36⟩)
    (c36 : PySem.W.codeIn K cd36 "rolls_of" = true)
    (k36 : PySem.W.keepIn K (.ref f36) = true)
    (a37 : PySem.W.nsIn K mainGlobals "_law_begin" = some (some (.ref f37)))
    (l37 : K.lookup f37 = some ⟨oc37, od37, .func (PySem.W.fnOf "_law_begin" "_law_begin" (defArgs s_law_begin) (defBody s_law_begin) (defScope s_law_begin) .none kV37 dc37 pm37 an37 cd37 ct37), sl37⟩)
    (c37 : PySem.W.codeIn K cd37 "_law_begin" = true)
    (k37 : PySem.W.keepIn K (.ref f37) = true)
    (a38 : PySem.W.nsIn K mainGlobals "_law_take" = some (some (.ref f38)))
    (l38 : K.lookup f38 = some ⟨oc38, od38, .func (PySem.W.fnOf "_law_take" "_law_take" (defArgs s_law_take) (defBody s_law_take) (defScope s_law_take) .none kV38 dc38 pm38 an38 cd38 ct38), sl38⟩)
    (c38 : PySem.W.codeIn K cd38 "_law_take" = true)
    (k38 : PySem.W.keepIn K (.ref f38) = true)
    (a39 : PySem.W.nsIn K mainGlobals "_law_some" = some (some (.ref f39)))
    (l39 : K.lookup f39 = some ⟨oc39, od39, .func (PySem.W.fnOf "_law_some" "_law_some" (defArgs s_law_some) (defBody s_law_some) (defScope s_law_some) .none kV39 dc39 pm39 an39 cd39 ct39), sl39⟩)
    (c39 : PySem.W.codeIn K cd39 "_law_some" = true)
    (k39 : PySem.W.keepIn K (.ref f39) = true)
    (a40 : PySem.W.nsIn K mainGlobals "_law_film" = some (some (.ref f40)))
    (l40 : K.lookup f40 = some ⟨oc40, od40, .func (PySem.W.fnOf "_law_film" "_law_film" (defArgs s_law_film) (defBody s_law_film) (defScope s_law_film) .none kV40 dc40 pm40 an40 cd40 ct40), sl40⟩)
    (c40 : PySem.W.codeIn K cd40 "_law_film" = true)
    (k40 : PySem.W.keepIn K (.ref f40) = true)
    (a41 : PySem.W.nsIn K mainGlobals "_law_sheet" = some (some (.ref f41)))
    (l41 : K.lookup f41 = some ⟨oc41, od41, .func (PySem.W.fnOf "_law_sheet" "_law_sheet" (defArgs s_law_sheet) (defBody s_law_sheet) (defScope s_law_sheet) .none kV41 dc41 pm41 an41 cd41 ct41), sl41⟩)
    (c41 : PySem.W.codeIn K cd41 "_law_sheet" = true)
    (k41 : PySem.W.keepIn K (.ref f41) = true)
    (a42 : PySem.W.nsIn K mainGlobals "_law_case" = some (some (.ref f42)))
    (l42 : K.lookup f42 = some ⟨oc42, od42, .func (PySem.W.fnOf "_law_case" "_law_case" (defArgs s_law_case) (defBody s_law_case) (defScope s_law_case) .none kV42 dc42 pm42 an42 cd42 ct42), sl42⟩)
    (c42 : PySem.W.codeIn K cd42 "_law_case" = true)
    (k42 : PySem.W.keepIn K (.ref f42) = true)
    (a43 : PySem.W.nsIn K mainGlobals "_law_course" = some (some (.ref f43)))
    (l43 : K.lookup f43 = some ⟨oc43, od43, .func (PySem.W.fnOf "_law_course" "_law_course" (defArgs s_law_course) (defBody s_law_course) (defScope s_law_course) .none kV43 dc43 pm43 an43 cd43 ct43), sl43⟩)
    (c43 : PySem.W.codeIn K cd43 "_law_course" = true)
    (k43 : PySem.W.keepIn K (.ref f43) = true)
    (a44 : PySem.W.nsIn K mainGlobals "_law_asked" = some (some (.ref f44)))
    (l44 : K.lookup f44 = some ⟨oc44, od44, .func (PySem.W.fnOf "_law_asked" "_law_asked" (defArgs s_law_asked) (defBody s_law_asked) (defScope s_law_asked) .none kV44 dc44 pm44 an44 cd44 ct44), sl44⟩)
    (c44 : PySem.W.codeIn K cd44 "_law_asked" = true)
    (k44 : PySem.W.keepIn K (.ref f44) = true)
    (a45 : PySem.W.nsIn K mainGlobals "_law_rolls" = some (some (.ref f45)))
    (l45 : K.lookup f45 = some ⟨oc45, od45, .func (PySem.W.fnOf "_law_rolls" "_law_rolls" (defArgs s_law_rolls) (defBody s_law_rolls) (defScope s_law_rolls) .none kV45 dc45 pm45 an45 cd45 ct45), sl45⟩)
    (c45 : PySem.W.codeIn K cd45 "_law_rolls" = true)
    (k45 : PySem.W.keepIn K (.ref f45) = true)
    (a46 : PySem.W.nsIn K mainGlobals "law" = some (some (.ref f46)))
    (l46 : K.lookup f46 = some ⟨oc46, od46, .func (PySem.W.fnOf "law" "law" (defArgs s_law) (defBody s_law) (defScope s_law) .none kV46 dc46 pm46 an46 cd46 ct46), sl46⟩)
    (c46 : PySem.W.codeIn K cd46 "law" = true)
    (k46 : PySem.W.keepIn K (.ref f46) = true)
    (e_D : PySem.W.nsIn K mainGlobals "CallError" = some (some (.ref er_D)))
    (e_I : PySem.W.findIn K (.ref er_D) "__init__" = some (some (.ref er_I)))
    (e_tI : PySem.W.typeIn K (.ref er_I) = some (.type "function"))
    (e_lI : K.lookup er_I = some ⟨er_oc, er_od, .func (PySem.W.ksFn "__init__" "CallError.__init__" (erA ⟨4, 17, 4, 21⟩ ⟨4, 23, 4, 27⟩) (erB ⟨5, 8, 5, 13⟩ ⟨5, 8, 5, 15⟩ ⟨5, 8, 5, 24⟩ ⟨5, 25, 5, 29⟩ ⟨5, 8, 5, 30⟩ ⟨5, 8, 5, 30⟩ ⟨6, 8, 6, 12⟩ ⟨6, 8, 6, 17⟩ ⟨6, 20, 6, 24⟩ ⟨6, 8, 6, 24⟩) erS .none .none er_doc er_pm er_an (.ref er_cda) er_ct er_cc), er_osl⟩)
    (e_cI : PySem.W.codeIn K (.ref er_cda) "CallError.__init__" = true)
    (e_lc : K.lookup er_cda = some ⟨er_ccl, er_cdd, .fields er_vs, er_ccs⟩)
    (e_lcc : K.lookup er_cc = some ⟨er_cl, er_cld, .cell (some (.ref er_D)), er_csl⟩)
    (e_clD : PySem.W.clsIn K er_D = some er_cdD)
    (e_zs : PySem.W.nsIn K mainGlobals "super" = some none)
    (e_zy : PySem.W.nsIn K PySem.cStatics "thirdparty.any" = some none)
    (e_a_CaseError : PySem.W.nsIn K mainGlobals "CaseError" = some (some (.ref er_CaseError)))
    (e_x_CaseError : K.lookup er_CaseError = some (PySem.excClassObj en_CaseError eq_CaseError er_CaseError eN_CaseError eb_CaseError (.ref er_D :: PySem.HandSPX.veTail) true es_CaseError eu_CaseError ea_CaseError ec_CaseError ed_CaseError e0_CaseError e1_CaseError e2_CaseError e3_CaseError e5_CaseError "ValueError.__new__"))
    (e_sa_CaseError : PySem.W.findIn K (.ref er_CaseError) "__setattr__" = some (some (.builtin "object.__setattr__")))
    (e_ga_CaseError : PySem.W.findIn K (.ref er_CaseError) "__getattribute__" = some (some (.builtin "BaseException.__getattribute__")))
    (e_gg_CaseError : PySem.W.findIn K (.ref er_CaseError) "__getattr__" = some none)
    (e_nb_CaseError : PySem.W.findIn K (.ref er_CaseError) "code" = some none)
    (e_ic_CaseError : PySem.W.findIn K (.ref er_CaseError) "__init__" = some (some (.ref er_I)))
    (e_k_CaseError : PySem.W.keepIn K (.ref er_CaseError) = true)
    (e_e_CaseError : PySem.W.subIn K (.ref er_CaseError) (.type "BaseException") = some true)
    (e_v_CaseError : PySem.W.subIn K (.ref er_CaseError) (.type "ValueError") = some true)
    (e_t_CaseError : PySem.W.typeIn K (.ref er_CaseError) = some (.type "type"))
    (e_h_CaseError : PySem.W.hasDictIn K er_CaseError = true)
    (e_s_CaseError : PySem.W.mroIn K er_CaseError (.ref er_D) = some true)
    (e_a_StockError : PySem.W.nsIn K mainGlobals "StockError" = some (some (.ref er_StockError)))
    (e_x_StockError : K.lookup er_StockError = some (PySem.excClassObj en_StockError eq_StockError er_StockError eN_StockError eb_StockError (.ref er_D :: PySem.HandSPX.veTail) true es_StockError eu_StockError ea_StockError ec_StockError ed_StockError e0_StockError e1_StockError e2_StockError e3_StockError e5_StockError "ValueError.__new__"))
    (e_sa_StockError : PySem.W.findIn K (.ref er_StockError) "__setattr__" = some (some (.builtin "object.__setattr__")))
    (e_ga_StockError : PySem.W.findIn K (.ref er_StockError) "__getattribute__" = some (some (.builtin "BaseException.__getattribute__")))
    (e_gg_StockError : PySem.W.findIn K (.ref er_StockError) "__getattr__" = some none)
    (e_nb_StockError : PySem.W.findIn K (.ref er_StockError) "code" = some none)
    (e_ic_StockError : PySem.W.findIn K (.ref er_StockError) "__init__" = some (some (.ref er_I)))
    (e_k_StockError : PySem.W.keepIn K (.ref er_StockError) = true)
    (e_e_StockError : PySem.W.subIn K (.ref er_StockError) (.type "BaseException") = some true)
    (e_v_StockError : PySem.W.subIn K (.ref er_StockError) (.type "ValueError") = some true)
    (e_t_StockError : PySem.W.typeIn K (.ref er_StockError) = some (.type "type"))
    (e_h_StockError : PySem.W.hasDictIn K er_StockError = true)
    (e_s_StockError : PySem.W.mroIn K er_StockError (.ref er_D) = some true)
    (y_e_StockError : PySem.W.subIn K (.ref er_StockError) (.type "BaseException") = some true)
    (y_i_StockError : PySem.W.isClsIn K er_StockError = true)
    (y_t_StockError : PySem.W.typeIn K (.ref er_StockError) = some (.type "type"))
    (y_s_CaseError_StockError : PySem.W.subIn K (.ref er_CaseError) (.ref er_StockError) = some false)
    (y_s_StockError_StockError : PySem.W.subIn K (.ref er_StockError) (.ref er_StockError) = some true)
    (z_abs : PySem.W.nsIn K mainGlobals "abs" = some none)
    (z_all : PySem.W.nsIn K mainGlobals "all" = some none)
    (z_any : PySem.W.nsIn K mainGlobals "any" = some none)
    (z_enumerate : PySem.W.nsIn K mainGlobals "enumerate" = some none)
    (z_int : PySem.W.nsIn K mainGlobals "int" = some none)
    (z_len : PySem.W.nsIn K mainGlobals "len" = some none)
    (z_list : PySem.W.nsIn K mainGlobals "list" = some none)
    (z_max : PySem.W.nsIn K mainGlobals "max" = some none)
    (z_min : PySem.W.nsIn K mainGlobals "min" = some none)
    (z_range : PySem.W.nsIn K mainGlobals "range" = some none)
    (z_sorted : PySem.W.nsIn K mainGlobals "sorted" = some none)
    (z_str : PySem.W.nsIn K mainGlobals "str" = some none)
    (z_sum : PySem.W.nsIn K mainGlobals "sum" = some none)
    (z_tuple : PySem.W.nsIn K mainGlobals "tuple" = some none)
    (z_zip : PySem.W.nsIn K mainGlobals "zip" = some none)
    (v_hv : er_vs[2]? = some (.str er_file er_tf))
    (v_file : ((l.prog.main.file : Str) == er_file) = true)
    (v_top : (l.prog.main.scope.names.lookup ("super" : Str)).isSome = false)
    (v_ne_CaseError : (Value.ref er_CaseError != Value.ref er_D) = true)
    (v_ne_StockError : (Value.ref er_StockError != Value.ref er_D) = true)
    : ∃ fd : FuncData, (∀ (s : Shared) (v : Value), BindsTo s fd ⟨[v], []⟩ [("script", v)]) ∧ ∀ base : Heap, K.In base → base.Ns mainGlobals mg → FnOk l.prog w K mg base (L2.CX l.prog w) 18 fa fd ["script"] (spLaw K) := by
  have e := hfa.symm.trans (PySem.W.mg_of X G a46)
  cases e
  have F1 := fun_mk (st := s_ascends) l1 c1 k1
  have b1 := F1.binds (ps := ["row"]) fun _ _ _ _ _ _ us hl => match us, hl with | [_], _ => rfl
  have F2 := fun_mk (st := s_Clock_init) l2 c2 k2
  have b2 := F2.binds (ps := ["self", "film", "minute"]) fun _ _ _ _ _ _ us hl => match us, hl with | [_, _, _], _ => rfl
  have F3 := fun_mk (st := s_Clock_take) l3 c3 k3
  have b3 := F3.binds (ps := ["self", "item", "minutes"]) fun _ _ _ _ _ _ us hl => match us, hl with | [_, _, _], _ => rfl
  have F4 := fun_mk (st := s_Clock_shoot) l4 c4 k4
  have b4 := F4.binds (ps := ["self", "scene"]) fun _ _ _ _ _ _ us hl => match us, hl with | [_, _], _ => rfl
  have F5 := fun_mk (st := s_hours) l5 c5 k5
  have b5 := F5.binds (ps := ["film", "sheet", "shot", "news"]) fun _ _ _ _ _ _ us hl => match us, hl with | [_, _, _, _], _ => rfl
  have F6 := fun_mk (st := s_compared) l6 c6 k6
  have b6 := F6.binds (ps := ["number", "sign", "other"]) fun _ _ _ _ _ _ us hl => match us, hl with | [_, _, _], _ => rfl
  have F7 := fun_mk (st := s_holds) l7 c7 k7
  have b7 := F7.binds (ps := ["condition", "figures"]) fun _ _ _ _ _ _ us hl => match us, hl with | [_, _], _ => rfl
  have F8 := fun_mk (st := s_is_for) l8 c8 k8
  have b8 := F8.binds (ps := ["film", "who", "actor"]) fun _ _ _ _ _ _ us hl => match us, hl with | [_, _, _], _ => rfl
  have F9 := fun_mk (st := s_broken) l9 c9 k9
  have b9 := F9.binds (ps := ["film", "rules", "actor", "figures"]) fun _ _ _ _ _ _ us hl => match us, hl with | [_, _, _, _], _ => rfl
  have F10 := fun_mk (st := s_is_there) l10 c10 k10
  have b10 := F10.binds (ps := ["calendar", "actor", "day"]) fun _ _ _ _ _ _ us hl => match us, hl with | [_, _, _], _ => rfl
  have F11 := fun_mk (st := s_is_open) l11 c11 k11
  have b11 := F11.binds (ps := ["calendar", "place", "day"]) fun _ _ _ _ _ _ us hl => match us, hl with | [_, _, _], _ => rfl
  have F12 := fun_mk (st := s_dark_minutes) l12 c12 k12
  have b12 := F12.binds (ps := ["light", "dark", "begin", "end"]) fun _ _ _ _ _ _ us hl => match us, hl with | [_, _, _, _], _ => rfl
  have F13 := fun_mk (st := s_longest_stretch) l13 c13 k13
  have b13 := F13.binds (ps := ["rows", "call", "wrap"]) fun _ _ _ _ _ _ us hl => match us, hl with | [_, _, _], _ => rfl
  have F14 := fun_mk (st := s_figures_of) l14 c14 k14
  have b14 := F14.binds (ps := ["film", "calendar", "day", "rows", "actor", "before"]) fun _ _ _ _ _ _ us hl => match us, hl with | [_, _, _, _, _, _], _ => rfl
  have F15 := fun_mk (st := s_is_lit) l15 c15 k15
  have b15 := F15.binds (ps := ["light", "ends", "begin", "end"]) fun _ _ _ _ _ _ us hl => match us, hl with | [_, _, _, _], _ => rfl
  have F16 := fun_mk (st := s_scene_break) l16 c16 k16
  have b16 := F16.binds (ps := ["film", "calendar", "day", "row", "done", "is_rain"]) fun _ _ _ _ _ _ us hl => match us, hl with | [_, _, _, _, _, _], _ => rfl
  have F17 := fun_mk (st := s_rule_break) l17 c17 k17
  have b17 := F17.binds (ps := ["film", "calendar", "rules", "day", "rows", "befores"]) fun _ _ _ _ _ _ us hl => match us, hl with | [_, _, _, _, _, _], _ => rfl
  have F18 := fun_mk (st := s_rows_break) l18 c18 k18
  have b18 := F18.binds (ps := ["film", "calendar", "rules", "day", "rows", "shot", "befores", "is_rain"]) fun _ _ _ _ _ _ us hl => match us, hl with | [_, _, _, _, _, _, _, _], _ => rfl
  have F19 := fun_mk (st := s_day_cost) l19 c19 k19
  have b19 := F19.binds (ps := ["fee", "span"]) fun _ _ _ _ _ _ us hl => match us, hl with | [_, _], _ => rfl
  have F20 := fun_mk (st := s_first_stand) l20 c20 k20
  have b20 := F20.binds (ps := ["case"]) fun _ _ _ _ _ _ us hl => match us, hl with | [_], _ => rfl
  have F21 := fun_mk (st := s_is_through) l21 c21 k21
  have b21 := F21.binds (ps := ["case", "stand"]) fun _ _ _ _ _ _ us hl => match us, hl with | [_, _], _ => rfl
  have F22 := fun_mk (st := s_used_by) l22 c22 k22
  have b22 := F22.binds (ps := ["nature"]) fun _ _ _ _ _ _ us hl => match us, hl with | [_], _ => rfl
  have F23 := fun_mk (st := s_may_choose) l23 c23 k23
  have b23 := F23.binds (ps := ["case", "stand", "nature"]) fun _ _ _ _ _ _ us hl => match us, hl with | [_, _, _], _ => rfl
  have F24 := fun_mk (st := s_natures) l24 c24 k24
  have b24 := F24.binds (ps := ["case", "stand"]) fun _ _ _ _ _ _ us hl => match us, hl with | [_, _], _ => rfl
  have F25 := fun_mk (st := s_check_step) l25 c25 k25
  have b25 := F25.binds (ps := ["case", "stand", "number"]) fun _ _ _ _ _ _ us hl => match us, hl with | [_, _, _], _ => rfl
  have F26 := fun_mk (st := s_step) l26 c26 k26
  have b26 := F26.binds (ps := ["case", "stand", "number", "nature"]) fun _ _ _ _ _ _ us hl => match us, hl with | [_, _, _, _], _ => rfl
  have F27 := fun_mk (st := s_run) l27 c27 k27
  have b27 := F27.binds (ps := ["case", "course"]) fun _ _ _ _ _ _ us hl => match us, hl with | [_, _], _ => rfl
  have F28 := fun_mk (st := s_put_in_order) l28 c28 k28
  have b28 := F28.binds (ps := ["takes", "roll"]) fun _ _ _ _ _ _ us hl => match us, hl with | [_, _], _ => rfl
  have F29 := fun_mk (st := s_check_lab) l29 c29 k29
  have b29 := F29.binds (ps := ["lab"]) fun _ _ _ _ _ _ us hl => match us, hl with | [_], _ => rfl
  have F30 := fun_mk (st := s_check_scenes) l30 c30 k30
  have b30 := F30.binds (ps := ["case", "sequence"]) fun _ _ _ _ _ _ us hl => match us, hl with | [_, _], _ => rfl
  have F31 := fun_mk (st := s_shot_days) l31 c31 k31
  have b31 := F31.binds (ps := ["case", "course"]) fun _ _ _ _ _ _ us hl => match us, hl with | [_, _], _ => rfl
  have F32 := fun_mk (st := s_back_days) l32 c32 k32
  have b32 := F32.binds (ps := ["case", "course", "lab"]) fun _ _ _ _ _ _ us hl => match us, hl with | [_, _, _], _ => rfl
  have F33 := fun_mk (st := s_cut_day) l33 c33 k33
  have b33 := F33.binds (ps := ["case", "course", "sequence", "lab"]) fun _ _ _ _ _ _ us hl => match us, hl with | [_, _, _, _], _ => rfl
  have F34 := fun_mk (st := s_check_roll) l34 c34 k34
  have b34 := F34.binds (ps := ["case", "roll"]) fun _ _ _ _ _ _ us hl => match us, hl with | [_, _], _ => rfl
  have F35 := fun_mk (st := s_day_rolls) l35 c35 k35
  have b35 := F35.binds (ps := ["case", "stand", "number", "nature", "roll"]) fun _ _ _ _ _ _ us hl => match us, hl with | [_, _, _, _, _], _ => rfl
  have F36 := fun_mk (st := s_rolls_of) l36 c36 k36
  have b36 := F36.binds (ps := ["case", "course", "roll"]) fun _ _ _ _ _ _ us hl => match us, hl with | [_, _, _], _ => rfl
  have F37 := fun_mk (st := s_law_begin) l37 c37 k37
  have b37 := F37.binds (ps := ["script"]) fun _ _ _ _ _ _ us hl => match us, hl with | [_], _ => rfl
  have F38 := fun_mk (st := s_law_take) l38 c38 k38
  have b38 := F38.binds (ps := ["d", "many"]) fun _ _ _ _ _ _ us hl => match us, hl with | [_, _], _ => rfl
  have F39 := fun_mk (st := s_law_some) l39 c39 k39
  have b39 := F39.binds (ps := ["d", "many"]) fun _ _ _ _ _ _ us hl => match us, hl with | [_, _], _ => rfl
  have F40 := fun_mk (st := s_law_film) l40 c40 k40
  have b40 := F40.binds (ps := ["d", "scenes"]) fun _ _ _ _ _ _ us hl => match us, hl with | [_, _], _ => rfl
  have F41 := fun_mk (st := s_law_sheet) l41 c41 k41
  have b41 := F41.binds (ps := ["d", "scenes", "whole"]) fun _ _ _ _ _ _ us hl => match us, hl with | [_, _, _], _ => rfl
  have F42 := fun_mk (st := s_law_case) l42 c42 k42
  have b42 := F42.binds (ps := ["d", "days"]) fun _ _ _ _ _ _ us hl => match us, hl with | [_, _], _ => rfl
  have F43 := fun_mk (st := s_law_course) l43 c43 k43
  have b43 := F43.binds (ps := ["d", "case"]) fun _ _ _ _ _ _ us hl => match us, hl with | [_, _], _ => rfl
  have F44 := fun_mk (st := s_law_asked) l44 c44 k44
  have b44 := F44.binds (ps := ["kind", "case", "course", "sequence", "number"]) fun _ _ _ _ _ _ us hl => match us, hl with | [_, _, _, _, _], _ => rfl
  have F45 := fun_mk (st := s_law_rolls) l45 c45 k45
  have b45 := F45.binds (ps := ["case", "stand", "number", "nature", "roll"]) fun _ _ _ _ _ _ us hl => match us, hl with | [_, _, _, _, _], _ => rfl
  have F46 := fun_mk (st := s_law) l46 c46 k46
  have b46 := F46.binds (ps := ["script"]) fun _ _ _ _ _ _ us hl => match us, hl with | [_], _ => rfl
  have T_CaseError : ErrTxt l.prog K mg "CaseError" er_CaseError er_D er_I := err_mk X G e_a_CaseError e_x_CaseError e_sa_CaseError e_ga_CaseError e_gg_CaseError e_nb_CaseError e_ic_CaseError e_tI e_lI e_cI e_lc e_lcc e_k_CaseError e_e_CaseError e_v_CaseError e_t_CaseError e_h_CaseError e_clD e_s_CaseError e_zs e_zy v_ne_CaseError v_hv v_file rfl v_top
  have T_StockError : ErrTxt l.prog K mg "StockError" er_StockError er_D er_I := err_mk X G e_a_StockError e_x_StockError e_sa_StockError e_ga_StockError e_gg_StockError e_nb_StockError e_ic_StockError e_tI e_lI e_cI e_lc e_lcc e_k_StockError e_e_StockError e_v_StockError e_t_StockError e_h_StockError e_clD e_s_StockError e_zs e_zy v_ne_StockError v_hv v_file rfl v_top
  have L_Clock : Cls K kc_Clock := ⟨k_pg_Clock, k_hd_Clock, k_po_Clock, k_sa_Clock⟩
  have Z : Zs l.prog K mg := ⟨PySem.W.mg_none_of X G z_abs, PySem.W.mg_none_of X G z_all, PySem.W.mg_none_of X G z_any, PySem.W.mg_none_of X G z_enumerate, PySem.W.mg_none_of X G z_int, PySem.W.mg_none_of X G z_len, PySem.W.mg_none_of X G z_list, PySem.W.mg_none_of X G z_max, PySem.W.mg_none_of X G z_min, PySem.W.mg_none_of X G z_range, PySem.W.mg_none_of X G z_sorted, PySem.W.mg_none_of X G z_str, PySem.W.mg_none_of X G z_sum, PySem.W.mg_none_of X G z_tuple, PySem.W.mg_none_of X G z_zip, ⟨_, _, PySem.W.mg_of X G g_MEAL, (show RelV (V.int (-1)) (Value.int (-1) kMEAL_1) from rv_int), fun μ G1 => Rep.int⟩, ⟨_, _, PySem.W.mg_of X G g_DAY, (show RelV (V.int 1440) (Value.int 1440 kDAY_1) from rv_int), fun μ G1 => Rep.int⟩, ⟨_, _, PySem.W.mg_of X G g_NO_REST, (show RelV (V.int 9999) (Value.int 9999 kNO_REST_1) from rv_int), fun μ G1 => Rep.int⟩, ⟨_, _, PySem.W.mg_of X G g_HALF_HOUR, (show RelV (V.int 30) (Value.int 30 kHALF_HOUR_1) from rv_int), fun μ G1 => Rep.int⟩, ⟨_, _, PySem.W.mg_of X G g_IDLE, (show RelV (V.ref aIDLE_1) (Value.ref aIDLE_1) from rv_ref), fun μ G1 => (Rep.tup (Or.inr ⟨_, _, _, hIDLE_1, rfl, rfl, (by show 2 ≤ sizeLine; decide), (.cons rv_int (.cons rv_int .nil))⟩) (.cons Rep.int (.cons Rep.int Reps.nil)))⟩, ⟨_, _, PySem.W.mg_of X G g_MOST_LAB, (show RelV (V.int 9) (Value.int 9 kMOST_LAB_1) from rv_int), fun μ G1 => Rep.int⟩, ⟨_, _, PySem.W.mg_of X G g_MOST_MINUTES, (show RelV (V.int 999) (Value.int 999 kMOST_MINUTES_1) from rv_int), fun μ G1 => Rep.int⟩, ⟨_, _, PySem.W.mg_of X G g_FIGURES, hFIGURES_1, rfl, rfl, fun H => Or.inr ⟨_, _, _, hFIGURES_1, rfl, rfl, (by show 9 ≤ sizeLine; decide), (.cons rv_str (.cons rv_str (.cons rv_str (.cons rv_str (.cons rv_str (.cons rv_str (.cons rv_str (.cons rv_str (.cons rv_str .nil)))))))))⟩⟩, fun p h => (List.mem_cons.mp h).elim (fun e => by subst e; exact ⟨_, PySem.W.mg_of X G k_a_Clock, L_Clock, fun f h => (List.mem_cons.mp h).elim (fun e => by rw [e]; exact k_n_Clock_film) (fun h => (List.mem_cons.mp h).elim (fun e => by rw [e]; exact k_n_Clock_minute) (fun h => (List.mem_cons.mp h).elim (fun e => by rw [e]; exact k_n_Clock_place) (fun h => (List.mem_cons.mp h).elim (fun e => by rw [e]; exact k_n_Clock_rows) (fun h => nomatch h))))⟩) (fun h => nomatch h), ⟨_, _, _, T_CaseError⟩, ⟨_, _, _, T_StockError⟩, ⟨⟨_, PySem.W.mg_of X G e_a_StockError⟩, exms_cons (exm_mk T_CaseError (PySem.W.mg_of X G e_a_StockError) y_e_StockError y_i_StockError y_t_StockError y_s_CaseError_StockError) (exms_cons (exm_mk T_StockError (PySem.W.mg_of X G e_a_StockError) y_e_StockError y_i_StockError y_t_StockError y_s_StockError_StockError) (fun _ h => nomatch h))⟩⟩
  refine ⟨PySem.W.fnOf "law" "law" (defArgs s_law) (defBody s_law) (defScope s_law) .none kV46 dc46 pm46 an46 cd46 ct46, fun s v => .of_eq rfl, fun base _ _ => ?_⟩
  have M_ascends : FnM l.prog w K mg base 1 _ _ ["row"] m_ascends := ok_ascends Z F1
  have C_ascends : Cal l.prog w K mg base "ascends" 1 ["row"] m_ascends := ⟨_, _, M_ascends, PySem.W.mg_of X G a1, k1, b1⟩
  have M_Clock_init : FnM l.prog w K mg base 1 _ _ ["self", "film", "minute"] m_Clock_init := ok_Clock_init Z F2
  have C_Clock_init : CalI l.prog w K mg base "Clock" 1 ["self", "film", "minute"] m_Clock_init := ⟨_, _, _, M_Clock_init, PySem.W.mg_of X G k_a_Clock, ⟨k_mk_Clock, a2, i2, k_kp_Clock⟩, b2⟩
  have M_Clock_take : FnM l.prog w K mg base 1 _ _ ["self", "item", "minutes"] m_Clock_take := ok_Clock_take Z F3
  have C_Clock_take : CalM l.prog w K mg base "Clock" "take" 1 ["self", "item", "minutes"] m_Clock_take := ⟨_, _, _, M_Clock_take, PySem.W.mg_of X G k_a_Clock, L_Clock, ⟨a3, i3, k3⟩, b3⟩
  have M_Clock_shoot : FnM l.prog w K mg base 2 _ _ ["self", "scene"] m_Clock_shoot := ok_Clock_shoot Z C_Clock_take F4
  have C_Clock_shoot : CalM l.prog w K mg base "Clock" "shoot" 2 ["self", "scene"] m_Clock_shoot := ⟨_, _, _, M_Clock_shoot, PySem.W.mg_of X G k_a_Clock, L_Clock, ⟨a4, i4, k4⟩, b4⟩
  have M_hours : FnM l.prog w K mg base 3 _ _ ["film", "sheet", "shot", "news"] m_hours := ok_hours Z C_Clock_init C_Clock_take C_Clock_shoot F5
  have C_hours : Cal l.prog w K mg base "hours" 3 ["film", "sheet", "shot", "news"] m_hours := ⟨_, _, M_hours, PySem.W.mg_of X G a5, k5, b5⟩
  have M_compared : FnM l.prog w K mg base 1 _ _ ["number", "sign", "other"] m_compared := ok_compared Z F6
  have C_compared : Cal l.prog w K mg base "compared" 1 ["number", "sign", "other"] m_compared := ⟨_, _, M_compared, PySem.W.mg_of X G a6, k6, b6⟩
  have R_holds : ∀ n, Cal l.prog w K mg base "holds" (1 + n) ["condition", "figures"] (m_holds n) := by
    intro n
    induction n with
    | zero => exact ⟨_, _, fnM_bad, PySem.W.mg_of X G a7, k7, b7⟩
    | succ n ih =>
      have C_holds := ih
      exact ⟨_, _, ok_holds Z C_compared C_holds F7, PySem.W.mg_of X G a7, k7, b7⟩
  have C_holds : Cal l.prog w K mg base "holds" 9 ["condition", "figures"] (m_holds 8) := (R_holds 8)
  have M_is_for : FnM l.prog w K mg base 1 _ _ ["film", "who", "actor"] m_is_for := ok_is_for Z F8
  have C_is_for : Cal l.prog w K mg base "is_for" 1 ["film", "who", "actor"] m_is_for := ⟨_, _, M_is_for, PySem.W.mg_of X G a8, k8, b8⟩
  have M_broken : FnM l.prog w K mg base 10 _ _ ["film", "rules", "actor", "figures"] m_broken := ok_broken Z C_is_for C_holds F9
  have C_broken : Cal l.prog w K mg base "broken" 10 ["film", "rules", "actor", "figures"] m_broken := ⟨_, _, M_broken, PySem.W.mg_of X G a9, k9, b9⟩
  have M_is_there : FnM l.prog w K mg base 1 _ _ ["calendar", "actor", "day"] m_is_there := ok_is_there Z F10
  have C_is_there : Cal l.prog w K mg base "is_there" 1 ["calendar", "actor", "day"] m_is_there := ⟨_, _, M_is_there, PySem.W.mg_of X G a10, k10, b10⟩
  have M_is_open : FnM l.prog w K mg base 1 _ _ ["calendar", "place", "day"] m_is_open := ok_is_open Z F11
  have C_is_open : Cal l.prog w K mg base "is_open" 1 ["calendar", "place", "day"] m_is_open := ⟨_, _, M_is_open, PySem.W.mg_of X G a11, k11, b11⟩
  have M_dark_minutes : FnM l.prog w K mg base 1 _ _ ["light", "dark", "begin", "end"] m_dark_minutes := ok_dark_minutes Z F12
  have C_dark_minutes : Cal l.prog w K mg base "dark_minutes" 1 ["light", "dark", "begin", "end"] m_dark_minutes := ⟨_, _, M_dark_minutes, PySem.W.mg_of X G a12, k12, b12⟩
  have M_longest_stretch : FnM l.prog w K mg base 1 _ _ ["rows", "call", "wrap"] m_longest_stretch := ok_longest_stretch Z F13
  have C_longest_stretch : Cal l.prog w K mg base "longest_stretch" 1 ["rows", "call", "wrap"] m_longest_stretch := ⟨_, _, M_longest_stretch, PySem.W.mg_of X G a13, k13, b13⟩
  have M_figures_of : FnM l.prog w K mg base 2 _ _ ["film", "calendar", "day", "rows", "actor", "before"] m_figures_of := ok_figures_of Z C_longest_stretch C_dark_minutes F14
  have C_figures_of : Cal l.prog w K mg base "figures_of" 2 ["film", "calendar", "day", "rows", "actor", "before"] m_figures_of := ⟨_, _, M_figures_of, PySem.W.mg_of X G a14, k14, b14⟩
  have M_is_lit : FnM l.prog w K mg base 1 _ _ ["light", "ends", "begin", "end"] m_is_lit := ok_is_lit Z F15
  have C_is_lit : Cal l.prog w K mg base "is_lit" 1 ["light", "ends", "begin", "end"] m_is_lit := ⟨_, _, M_is_lit, PySem.W.mg_of X G a15, k15, b15⟩
  have M_scene_break : FnM l.prog w K mg base 2 _ _ ["film", "calendar", "day", "row", "done", "is_rain"] m_scene_break := ok_scene_break Z C_is_open C_is_there C_is_lit F16
  have C_scene_break : Cal l.prog w K mg base "scene_break" 2 ["film", "calendar", "day", "row", "done", "is_rain"] m_scene_break := ⟨_, _, M_scene_break, PySem.W.mg_of X G a16, k16, b16⟩
  have M_rule_break : FnM l.prog w K mg base 11 _ _ ["film", "calendar", "rules", "day", "rows", "befores"] m_rule_break := ok_rule_break Z C_figures_of C_broken F17
  have C_rule_break : Cal l.prog w K mg base "rule_break" 11 ["film", "calendar", "rules", "day", "rows", "befores"] m_rule_break := ⟨_, _, M_rule_break, PySem.W.mg_of X G a17, k17, b17⟩
  have M_rows_break : FnM l.prog w K mg base 12 _ _ ["film", "calendar", "rules", "day", "rows", "shot", "befores", "is_rain"] m_rows_break := ok_rows_break Z C_scene_break C_rule_break F18
  have C_rows_break : Cal l.prog w K mg base "rows_break" 12 ["film", "calendar", "rules", "day", "rows", "shot", "befores", "is_rain"] m_rows_break := ⟨_, _, M_rows_break, PySem.W.mg_of X G a18, k18, b18⟩
  have M_day_cost : FnM l.prog w K mg base 1 _ _ ["fee", "span"] m_day_cost := ok_day_cost Z F19
  have C_day_cost : Cal l.prog w K mg base "day_cost" 1 ["fee", "span"] m_day_cost := ⟨_, _, M_day_cost, PySem.W.mg_of X G a19, k19, b19⟩
  have M_first_stand : FnM l.prog w K mg base 1 _ _ ["case"] m_first_stand := ok_first_stand Z F20
  have C_first_stand : Cal l.prog w K mg base "first_stand" 1 ["case"] m_first_stand := ⟨_, _, M_first_stand, PySem.W.mg_of X G a20, k20, b20⟩
  have M_is_through : FnM l.prog w K mg base 1 _ _ ["case", "stand"] m_is_through := ok_is_through Z F21
  have C_is_through : Cal l.prog w K mg base "is_through" 1 ["case", "stand"] m_is_through := ⟨_, _, M_is_through, PySem.W.mg_of X G a21, k21, b21⟩
  have M_used_by : FnM l.prog w K mg base 1 _ _ ["nature"] m_used_by := ok_used_by Z F22
  have C_used_by : Cal l.prog w K mg base "used_by" 1 ["nature"] m_used_by := ⟨_, _, M_used_by, PySem.W.mg_of X G a22, k22, b22⟩
  have M_may_choose : FnM l.prog w K mg base 2 _ _ ["case", "stand", "nature"] m_may_choose := ok_may_choose Z C_used_by F23
  have C_may_choose : Cal l.prog w K mg base "may_choose" 2 ["case", "stand", "nature"] m_may_choose := ⟨_, _, M_may_choose, PySem.W.mg_of X G a23, k23, b23⟩
  have M_natures : FnM l.prog w K mg base 3 _ _ ["case", "stand"] m_natures := ok_natures Z C_may_choose C_used_by F24
  have C_natures : Cal l.prog w K mg base "natures" 3 ["case", "stand"] m_natures := ⟨_, _, M_natures, PySem.W.mg_of X G a24, k24, b24⟩
  have M_check_step : FnM l.prog w K mg base 2 _ _ ["case", "stand", "number"] m_check_step := ok_check_step Z C_is_through F25
  have C_check_step : Cal l.prog w K mg base "check_step" 2 ["case", "stand", "number"] m_check_step := ⟨_, _, M_check_step, PySem.W.mg_of X G a25, k25, b25⟩
  have M_step : FnM l.prog w K mg base 13 _ _ ["case", "stand", "number", "nature"] m_step := ok_step Z C_check_step C_may_choose C_hours C_rows_break C_figures_of C_day_cost C_used_by F26
  have C_step : Cal l.prog w K mg base "step" 13 ["case", "stand", "number", "nature"] m_step := ⟨_, _, M_step, PySem.W.mg_of X G a26, k26, b26⟩
  have M_run : FnM l.prog w K mg base 14 _ _ ["case", "course"] m_run := ok_run Z C_first_stand C_is_through C_step F27
  have C_run : Cal l.prog w K mg base "run" 14 ["case", "course"] m_run := ⟨_, _, M_run, PySem.W.mg_of X G a27, k27, b27⟩
  have M_put_in_order : FnM l.prog w K mg base 1 _ _ ["takes", "roll"] m_put_in_order := ok_put_in_order Z F28
  have C_put_in_order : Cal l.prog w K mg base "put_in_order" 1 ["takes", "roll"] m_put_in_order := ⟨_, _, M_put_in_order, PySem.W.mg_of X G a28, k28, b28⟩
  have M_check_lab : FnM l.prog w K mg base 2 _ _ ["lab"] m_check_lab := ok_check_lab Z F29
  have C_check_lab : Cal l.prog w K mg base "check_lab" 2 ["lab"] m_check_lab := ⟨_, _, M_check_lab, PySem.W.mg_of X G a29, k29, b29⟩
  have M_check_scenes : FnM l.prog w K mg base 2 _ _ ["case", "sequence"] m_check_scenes := ok_check_scenes Z C_ascends F30
  have C_check_scenes : Cal l.prog w K mg base "check_scenes" 2 ["case", "sequence"] m_check_scenes := ⟨_, _, M_check_scenes, PySem.W.mg_of X G a30, k30, b30⟩
  have M_shot_days : FnM l.prog w K mg base 15 _ _ ["case", "course"] m_shot_days := ok_shot_days Z C_run F31
  have C_shot_days : Cal l.prog w K mg base "shot_days" 15 ["case", "course"] m_shot_days := ⟨_, _, M_shot_days, PySem.W.mg_of X G a31, k31, b31⟩
  have M_back_days : FnM l.prog w K mg base 16 _ _ ["case", "course", "lab"] m_back_days := ok_back_days Z C_check_lab C_shot_days F32
  have C_back_days : Cal l.prog w K mg base "back_days" 16 ["case", "course", "lab"] m_back_days := ⟨_, _, M_back_days, PySem.W.mg_of X G a32, k32, b32⟩
  have M_cut_day : FnM l.prog w K mg base 16 _ _ ["case", "course", "sequence", "lab"] m_cut_day := ok_cut_day Z C_check_lab C_check_scenes C_shot_days F33
  have C_cut_day : Cal l.prog w K mg base "cut_day" 16 ["case", "course", "sequence", "lab"] m_cut_day := ⟨_, _, M_cut_day, PySem.W.mg_of X G a33, k33, b33⟩
  have M_check_roll : FnM l.prog w K mg base 2 _ _ ["case", "roll"] m_check_roll := ok_check_roll Z F34
  have C_check_roll : Cal l.prog w K mg base "check_roll" 2 ["case", "roll"] m_check_roll := ⟨_, _, M_check_roll, PySem.W.mg_of X G a34, k34, b34⟩
  have M_day_rolls : FnM l.prog w K mg base 4 _ _ ["case", "stand", "number", "nature", "roll"] m_day_rolls := ok_day_rolls Z C_hours C_put_in_order F35
  have C_day_rolls : Cal l.prog w K mg base "day_rolls" 4 ["case", "stand", "number", "nature", "roll"] m_day_rolls := ⟨_, _, M_day_rolls, PySem.W.mg_of X G a35, k35, b35⟩
  have M_rolls_of : FnM l.prog w K mg base 15 _ _ ["case", "course", "roll"] m_rolls_of := ok_rolls_of Z C_check_roll C_run C_day_rolls F36
  have C_rolls_of : Cal l.prog w K mg base "rolls_of" 15 ["case", "course", "roll"] m_rolls_of := ⟨_, _, M_rolls_of, PySem.W.mg_of X G a36, k36, b36⟩
  have M_law_begin : FnM l.prog w K mg base 1 _ _ ["script"] m_law_begin := ok_law_begin Z F37
  have C_law_begin : Cal l.prog w K mg base "_law_begin" 1 ["script"] m_law_begin := ⟨_, _, M_law_begin, PySem.W.mg_of X G a37, k37, b37⟩
  have M_law_take : FnM l.prog w K mg base 1 _ _ ["d", "many"] m_law_take := ok_law_take Z F38
  have C_law_take : Cal l.prog w K mg base "_law_take" 1 ["d", "many"] m_law_take := ⟨_, _, M_law_take, PySem.W.mg_of X G a38, k38, b38⟩
  have M_law_some : FnM l.prog w K mg base 2 _ _ ["d", "many"] m_law_some := ok_law_some Z C_law_take F39
  have C_law_some : Cal l.prog w K mg base "_law_some" 2 ["d", "many"] m_law_some := ⟨_, _, M_law_some, PySem.W.mg_of X G a39, k39, b39⟩
  have M_law_film : FnM l.prog w K mg base 3 _ _ ["d", "scenes"] m_law_film := ok_law_film Z C_law_take C_law_some F40
  have C_law_film : Cal l.prog w K mg base "_law_film" 3 ["d", "scenes"] m_law_film := ⟨_, _, M_law_film, PySem.W.mg_of X G a40, k40, b40⟩
  have M_law_sheet : FnM l.prog w K mg base 3 _ _ ["d", "scenes", "whole"] m_law_sheet := ok_law_sheet Z C_law_take C_law_some F41
  have C_law_sheet : Cal l.prog w K mg base "_law_sheet" 3 ["d", "scenes", "whole"] m_law_sheet := ⟨_, _, M_law_sheet, PySem.W.mg_of X G a41, k41, b41⟩
  have M_law_case : FnM l.prog w K mg base 4 _ _ ["d", "days"] m_law_case := ok_law_case Z C_law_take C_law_film C_law_sheet F42
  have C_law_case : Cal l.prog w K mg base "_law_case" 4 ["d", "days"] m_law_case := ⟨_, _, M_law_case, PySem.W.mg_of X G a42, k42, b42⟩
  have M_law_course : FnM l.prog w K mg base 14 _ _ ["d", "case"] m_law_course := ok_law_course Z C_first_stand C_is_through C_law_take C_natures C_step F43
  have C_law_course : Cal l.prog w K mg base "_law_course" 14 ["d", "case"] m_law_course := ⟨_, _, M_law_course, PySem.W.mg_of X G a43, k43, b43⟩
  have M_law_asked : FnM l.prog w K mg base 17 _ _ ["kind", "case", "course", "sequence", "number"] m_law_asked := ok_law_asked Z C_back_days C_cut_day C_rolls_of F44
  have C_law_asked : Cal l.prog w K mg base "_law_asked" 17 ["kind", "case", "course", "sequence", "number"] m_law_asked := ⟨_, _, M_law_asked, PySem.W.mg_of X G a44, k44, b44⟩
  have M_law_rolls : FnM l.prog w K mg base 4 _ _ ["case", "stand", "number", "nature", "roll"] m_law_rolls := ok_law_rolls Z C_hours F45
  have C_law_rolls : Cal l.prog w K mg base "_law_rolls" 4 ["case", "stand", "number", "nature", "roll"] m_law_rolls := ⟨_, _, M_law_rolls, PySem.W.mg_of X G a45, k45, b45⟩
  have M_law : FnM l.prog w K mg base 18 _ _ ["script"] m_law := ok_law Z C_law_begin C_law_take C_law_case C_law_course C_run C_law_asked C_law_some C_law_rolls F46
  exact fin_law hm M_law
end Lk72
namespace Lk72
open PySem Dn
theorem take_is : m_law_take = takeM := rfl
theorem begin_is : m_law_begin = beginM := rfl
/-! ### films -/
structure Scene where
  nm : Str
  place : Nat
  light : Str
  mins : Int
  dry : Bool
  cast : List Nat
structure Film where
  places : List (Str × Bool)
  actors : List (Str × Bool)
  scenes : List Scene
  orders : List (Nat × Nat)
  move : Int
  bef : Int
  meal : Int
def encA (a : Str × Bool) : D := .tup [.str a.1, .bl a.2]
def encN (s : List Nat) : D := .tup (s.map fun k => .int ((k : Nat) : Int))
def encSc (s : Scene) : D := .tup [.str s.nm, .int (s.place : Nat), .str s.light, .int s.mins, .bl s.dry, encN s.cast]
def encP (p : Nat × Nat) : D := .tup [.int (p.1 : Nat), .int (p.2 : Nat)]
def encF (f : Film) : D := .tup [.tup (f.places.map encA), .tup (f.actors.map encA), .tup (f.scenes.map encSc), .tup (f.orders.map encP), .tup [.int f.move, .int f.bef, .int f.meal]]
def ScOk (np na : Nat) (s : Scene) : Prop := s.place < np ∧ (s.light = "day" ∨ s.light = "any" ∨ s.light = "night") ∧ (5 ≤ s.mins ∧ s.mins ≤ 200) ∧ s.cast.Sublist (List.range na)
structure FilmOk (m : Nat) (f : Film) : Prop where
  pl : 1 ≤ f.places.length ∧ f.places.length ≤ 3
  ac : 1 ≤ f.actors.length ∧ f.actors.length ≤ 3
  sc : 1 ≤ f.scenes.length ∧ f.scenes.length ≤ m
  so : ∀ s ∈ f.scenes, ScOk f.places.length f.actors.length s
  od : ∀ o ∈ f.orders, o.1 < o.2 ∧ o.2 < f.scenes.length
  ol : f.orders.length ≤ m * m
  mi : (0 ≤ f.move ∧ f.move < 60) ∧ (0 ≤ f.bef ∧ f.bef < 90) ∧ 5 ≤ f.meal ∧ f.meal < 65
theorem lf_encA (a : Str × Bool) : lf (encA a) = true := by simp [encA]
theorem lf_encN (s : List Nat) : lf (encN s) = true := by
  unfold encN
  rw [lf_tup]
  exact lfs_map fun _ => lf_int
theorem lf_encSc (s : Scene) : lf (encSc s) = true := by simp [encSc, lf_encN]
theorem lf_encP (s : Nat × Nat) : lf (encP s) = true := by simp [encP]
theorem lf_encF (f : Film) : lf (encF f) = true := by simp [encF, lfs_map lf_encA, lfs_map lf_encSc, lfs_map lf_encP]
def IsA (y : D) : Prop := ∃ a, y = encA a
def IsP (n : Nat) (y : D) : Prop := ∃ p : Nat × Nat, y = encP p ∧ p.1 < p.2 ∧ p.2 < n
end Lk72
namespace Lk72
open PySem Dn
/-! ### calendars -/
structure Calx where
  lights : List (Int × Int)
  away : List (Nat × Nat × Nat)
  closed : List (Nat × Nat × Nat)
def kW (w : Nat × Nat × Nat) : List Int := [(w.1 : Int), (w.2.1 : Int), (w.2.2 : Int)]
def encW (w : Nat × Nat × Nat) : D := .tup [.int (w.1 : Nat), .int (w.2.1 : Nat), .int (w.2.2 : Nat)]
def encL (p : Int × Int) : D := .tup [.int p.1, .int p.2]
def encC (c : Calx) : D := .tup [.tup (c.lights.map encL), .tup (c.away.map encW), .tup (c.closed.map encW)]
def WOk (many days : Nat) (w : Nat × Nat × Nat) : Prop := w.1 < many ∧ w.2.1 ≤ w.2.2 ∧ w.2.2 < days
def WsOk (many days : Nat) (ws : List (Nat × Nat × Nat)) : Prop := ws.length ≤ 2 ∧ (∀ w ∈ ws, WOk many days w) ∧ ∃ rows : List (Nat × Nat × Nat), ws.map kW = ssT (rows.map kW)
def LOk (p : Int × Int) : Prop := 300 ≤ p.1 ∧ p.1 < 500 ∧ 1000 ≤ p.2 ∧ p.2 < 1300
structure CalOk (np na days : Nat) (c : Calx) : Prop where
  li : c.lights.length = days
  lo : ∀ l ∈ c.lights, LOk l
  aw : WsOk na days c.away
  cl : WsOk np days c.closed
theorem lf_encW (w : Nat × Nat × Nat) : lf (encW w) = true := by simp [encW]
theorem lf_encL (w : Int × Int) : lf (encL w) = true := by simp [encL]
theorem lf_encC (c : Calx) : lf (encC c) = true := by simp [encC, lfs_map lf_encW, lfs_map lf_encL]
def IsL (y : D) : Prop := ∃ p, y = encL p ∧ LOk p
end Lk72
namespace Lk72
open PySem Dn
def signs : List Str := ["<", "<=", ">", ">=", "=", "!="]
/-- conditions -/
inductive Cond where
  | is (f sg : Str) (n : Int) | no (c : Cond) | bin (op : Str) (a b : Cond)
def enc : Cond → D
  | .is f sg n => .tup [.str "is", .str f, .str sg, .int n]
  | .no c => .tup [.str "not", enc c]
  | .bin op a b => .tup [.str op, enc a, enc b]
def Ok : Cond → Prop
  | .is f sg n => f ∈ t_FIGURES ∧ sg ∈ signs
  | .no c => Ok c
  | .bin op a b => (op = "and" ∨ op = "or" ∨ op = "then") ∧ Ok a ∧ Ok b
def dep : Cond → Nat
  | .is _ _ _ => 0
  | .no c => dep c + 1
  | .bin _ a b => max (dep a) (dep b) + 1
def cmp (sg : Str) (a b : Int) : Bool := if sg = "<" then decide (a < b) else if sg = "<=" then decide (a ≤ b) else if sg = ">" then decide (b < a) else if sg = ">=" then decide (b ≤ a) else if sg = "=" then decide (a = b) else !decide (a = b)
def truth (fs : List Int) : Cond → Bool
  | .is f sg n => cmp sg (fs.getD (t_FIGURES.idxOf f) 0) n
  | .no c => !truth fs c
  | .bin op a b => if op = "and" then truth fs a && truth fs b else if op = "or" then truth fs a || truth fs b else !truth fs a || truth fs b
theorem lf_enc : ∀ c : Cond, lf (enc c) = true
  | .is _ _ _ => by simp [enc]
  | .no c => by simp [enc, lf_enc c]
  | .bin _ a b => by simp [enc, lf_enc a, lf_enc b]
theorem compared_ok {sg : Str} {a b : Int} {st : Store} (h : sg ∈ signs) : m_compared [.int a, .str sg, .int b] st = .ok (.bl (cmp sg a b)) st := by
  refine wp_eq ?_
  unfold m_compared
  rw [wp_fnD]
  unfold b_compared
  simp [signs] at h
  rcases h with rfl | rfl | rfl | rfl | rfl | rfl <;> simp [cmp]
theorem fig_at {f : Str} {fs : List Int} (h : f ∈ t_FIGURES) (hl : fs.length = 9) : (fs.map D.int)[t_FIGURES.idxOf f]? = some (.int (fs.getD (t_FIGURES.idxOf f) 0)) := by
  have hi : t_FIGURES.idxOf f < fs.length := by rw [hl]; exact List.idxOf_lt_length_of_mem h
  rw [List.getElem?_map, List.getElem?_eq_getElem hi]
  simp [List.getD, List.getElem?_eq_getElem hi]
theorem holds_ok {fs : List Int} {st : Store} (hl : fs.length = 9) : ∀ (c : Cond) (n : Nat), Ok c → dep c < n → m_holds n [enc c, .tup (fs.map .int)] st = .ok (.bl (truth fs c)) st
  | .is f sg k, n + 1, hc, hd => by
    obtain ⟨h1, h2⟩ := hc
    refine wp_eq ?_
    unfold m_holds
    rw [wp_fnD]
    unfold b_holds
    simp [enc, h1, fig_at h1 hl, compared_ok h2, truth]
  | .no c, n + 1, hc, hd => by
    have hd' : dep c < n := by simp [dep] at hd; omega
    have ih := holds_ok hl (st := st) c n hc hd'
    refine wp_eq ?_
    unfold m_holds
    rw [wp_fnD]
    unfold b_holds
    simp [enc, ih, truth]
  | .bin op a b, n + 1, hc, hd => by
    obtain ⟨ho, ha, hb⟩ := hc
    have hd1 : dep a < n := by simp [dep] at hd; omega
    have hd2 : dep b < n := by simp [dep] at hd; omega
    have ih1 := holds_ok hl (st := st) a n ha hd1
    have ih2 := holds_ok hl (st := st) b n hb hd2
    refine wp_eq ?_
    unfold m_holds
    rw [wp_fnD]
    unfold b_holds
    rcases ho with rfl | rfl | rfl <;> simp [enc, ih1, ih2, truth]

theorem figs_map : [D.str "call", D.str "wrap", D.str "span", D.str "work", D.str "rest", D.str "row", D.str "dark", D.str "stretch", D.str "scenes"] = t_FIGURES.map D.str := rfl
theorem figs_ok : t_FIGURES.all PyData.strOk = true := by decide +kernel
end Lk72
namespace Lk72
open PySem Dn
theorem erase_map {α β : Type} {f : α → β} : ∀ (l : List α) (i : Nat), (l.map f).eraseIdx i = (l.eraseIdx i).map f
  | [], _ => rfl
  | _ :: _, 0 => rfl
  | x :: l, i + 1 => congrArg (f x :: ·) (erase_map l i)
theorem pop_ints {st : Store} {n : Nat} {l : List Int} {i : Int} (h : lstAt st n = some (l.map .int)) (h0 : 0 ≤ i) (h1 : i < l.length) (hl : l.length ≤ 1000000) :
    ∃ x, x ∈ l ∧ l[i.toNat]? = some x ∧ popD (.loc n) [.int i] st = .ok (.int x) (st.set n (some (.lst ((l.eraseIdx i.toNat).map .int)))) := by
  have hi : i.toNat < l.length := by omega
  refine ⟨l[i.toNat], List.getElem_mem hi, List.getElem?_eq_getElem hi, ?_⟩
  show opt (lstAt st n) _ = _
  rw [h, opt_some, ixN_pos h0 (by simpa using h1), opt_some, List.getElem?_map, List.getElem?_eq_getElem hi]
  show (if (l.map D.int).length ≤ 1000000 then _ else _) = _
  rw [if_pos (by simpa using hl), erase_map]
def ItOk (n : Nat) (x : Int) : Prop := x = -1 ∨ (0 ≤ x ∧ x < n)
/-- no scene twice -/
def Dis (l : List Int) : Prop := (l.filter fun x => decide (x ≠ -1)).Nodup
theorem dis_meal {rest row : List Int} (h : (rest ++ row.filter fun x => decide (x ≠ -1)).Nodup) : (rest ++ (row ++ [-1]).filter fun x => decide (x ≠ -1)).Nodup := by
  rw [List.filter_append]
  simpa using h
theorem perm_erase : ∀ {l : List Int} {i : Nat} {x : Int}, l[i]? = some x → l.Perm (x :: l.eraseIdx i)
  | [], _, _, h => by simp at h
  | y :: l, 0, x, h => by
    simp at h
    subst h
    exact List.Perm.refl _
  | y :: l, i + 1, x, h => ((perm_erase (l := l) (i := i) (by simpa using h)).cons y).trans (List.Perm.swap _ _ _)
theorem dis_pop {rest row : List Int} {i : Nat} {x : Int} (hi : rest[i]? = some x) (hx : x ≠ -1) (h : (rest ++ row.filter fun x => decide (x ≠ -1)).Nodup) : (rest.eraseIdx i ++ (row ++ [x]).filter fun x => decide (x ≠ -1)).Nodup := by
  have p := perm_erase hi
  rw [List.filter_append]
  have e : [x].filter (fun x => decide (x ≠ -1)) = [x] := by simp [hx]
  rw [e, ← List.append_assoc]
  refine (List.Perm.nodup_iff ?_).mp h
  refine (p.append_right _).trans ?_
  exact (List.perm_append_singleton _ _).symm
theorem lr_ok {b : Bool} {j : Int} {st : Store} (h : fitR j) (h2 : j ≤ 1000000) : lrD b [.int j] st = mkNew b (rng 0 j.toNat) st := by
  unfold lrD one
  exact if_pos ⟨h, h2⟩
def encSh (call : Int) (a b : List Int) : D := .tup [.int call, .tup (a.map .int), .tup (b.map .int)]
theorem lf_ints (l : List Int) : lf (.tup (l.map .int)) = true := by rw [lf_tup]; exact lfs_ints
def RowsOk (n : Nat) (l : List Int) : Prop := l.length ≤ 100 ∧ ∀ x ∈ l, ItOk n x
/-! ### the hours of a day -/
structure Row where
  item : Int
  b : Int
  e : Int
def encRow (r : Row) : D := .tup [.int r.item, .int r.b, .int r.e]
theorem lf_encRow (r : Row) : lf (encRow r) = true := by simp [encRow]
theorem srt_ints (ns : List Int) : srtOk (ns.map .int) = true := by
  unfold srtOk
  rw [Bool.and_eq_true, Bool.and_eq_true, Bool.or_eq_true]
  refine ⟨List.all_eq_true.mpr (okd_map fun _ _ => okd_int), ?_, .inr ?_⟩
  · unfold likes
    rw [List.all_eq_true]
    intro x hx
    rw [List.all_eq_true]
    intro y hy
    rw [List.map_map] at hx hy
    obtain ⟨a, _, rfl⟩ := List.mem_map.mp hx
    obtain ⟨b, _, rfl⟩ := List.mem_map.mp hy
    simp [pd, PySem.W.alike]
  · rw [List.all_eq_true]
    intro x hx
    rw [List.map_map] at hx
    obtain ⟨a, _, rfl⟩ := List.mem_map.mp hx
    rfl
end Lk72
namespace Lk72
open PySem Dn
/-! ### the hours of a day, as a function -/
structure HS where
  clock : Int
  place : Option Nat
  rows : List Row
  fallen : List Int
def pD : Option Nat → D
  | none => .non
  | some p => .int (p : Nat)
def moved (f : Film) (s : HS) (p : Nat) : Int := if s.place = none ∨ s.place = some p then s.clock else s.clock + f.move
def stepH (f : Film) (shot : List Nat) (who : Int) (s : HS) (i : Int) : HS :=
  if i = -1 then { s with rows := s.rows ++ [⟨-1, s.clock, s.clock + f.meal⟩], clock := s.clock + f.meal }
  else if i.toNat ∈ shot then s
  else match f.scenes[i.toNat]? with
    | none => s
    | some sc => if ∃ a ∈ sc.cast, ((a : Nat) : Int) = who then { s with fallen := s.fallen ++ [i] }
      else { s with clock := moved f s sc.place + sc.mins, place := some sc.place, rows := s.rows ++ [⟨i, moved f s sc.place, moved f s sc.place + sc.mins⟩] }
def hrs (f : Film) (shot : List Nat) (who call : Int) (its : List Int) : HS := its.foldl (stepH f shot who) ⟨call, none, [], []⟩
theorem ixF2 {f : Film} {st : Store} : ixA (encF f) (.int 2) st = .ok (.tup (f.scenes.map encSc)) st := by simp [encF]
theorem ixF4 {f : Film} {st : Store} : ixA (encF f) (.int 4) st = .ok (.tup [.int f.move, .int f.bef, .int f.meal]) st := by simp [encF]
theorem in_cast {s : List Nat} {i : Int} {st : Store} : inD (.int i) (encN s) st = .ok (.bl (decide (∃ a ∈ s, ((a : Nat) : Int) = i))) st := in_ints (f := fun k : Nat => (k : Int)) rfl
theorem nin_shot {s : List Nat} {i : Nat} {st : Store} : ninD (.int (i : Nat)) (encN s) st = .ok (.bl !(decide (i ∈ s))) st := nin_nats (xs := s) (i := i) (y := encN s) rfl
/-! ### the clock -/
def clkF (n : Nat) (f : Film) (c : Int) (p : D) : List (Str × D) := [("film", encF f), ("minute", .int c), ("place", p), ("rows", .loc (n + 1))]
def clk (st : Store) (f : Film) (c : Int) (p : D) (rows : List Row) (fl : List Int) : Store := st ++ [some (.ins "Clock" (clkF st.length f c p)), some (.lst (rows.map encRow)), some (.lst (fl.map .int))]
section
variable {st : Store} {f : Film} {c : Int} {p : D} {rows : List Row} {fl : List Int}
theorem clk_cell : cell (clk st f c p rows fl) st.length = some (.ins "Clock" (clkF st.length f c p)) := by unfold clk; simp
theorem clk_rows : lstAt (clk st f c p rows fl) (st.length + 1) = some (rows.map encRow) := by unfold clk; simp
theorem clk_fl : lstAt (clk st f c p rows fl) (st.length + 2) = some (fl.map .int) := by unfold clk; simp
theorem clk_film {s2 : Store} (h : s2 = clk st f c p rows fl) : fldD fldT "film" (.loc st.length) s2 = .ok (encF f) s2 := by
  subst h
  exact fld_ins clk_cell (by simp) (by simp [clkF, lookup_consF])
theorem clk_minute {s2 : Store} (h : s2 = clk st f c p rows fl) : fldD fldT "minute" (.loc st.length) s2 = .ok (.int c) s2 := by
  subst h
  exact fld_ins clk_cell (by simp) (by simp [clkF, lookup_consF])
theorem clk_place {s2 : Store} (h : s2 = clk st f c p rows fl) : fldD fldT "place" (.loc st.length) s2 = .ok p s2 := by
  subst h
  exact fld_ins clk_cell (by simp) (by simp [clkF, lookup_consF])
theorem clk_rowsF {s2 : Store} (h : s2 = clk st f c p rows fl) : fldD fldT "rows" (.loc st.length) s2 = .ok (.loc (st.length + 1)) s2 := by
  subst h
  exact fld_ins clk_cell (by simp) (by simp [clkF, lookup_consF])
theorem clk_put_minute {c2 : Int} : putI fldT "minute" (.int c2) (.loc st.length) (clk st f c p rows fl) = some (clk st f c2 p rows fl) := by
  rw [put_ins clk_cell (by simp) (by simp [clkF])]
  unfold clk
  simp [clkF]
theorem clk_put_place {p2 : D} : putI fldT "place" p2 (.loc st.length) (clk st f c p rows fl) = some (clk st f c p2 rows fl) := by
  rw [put_ins clk_cell (by simp) (by simp [clkF])]
  unfold clk
  simp [clkF]
theorem clk_app {r : Row} (h : rows.length < 1000) : appendD (.loc (st.length + 1)) [encRow r] (clk st f c p rows fl) = .ok .non (clk st f c p (rows ++ [r]) fl) := by
  rw [append_eq, clk_rows, opt_some, if_pos (by simp; omega)]
  unfold clk
  simp
theorem clk_len : (clk st f c p rows fl).length = st.length + 3 := by unfold clk; simp
theorem clk_ok {m : Str} (h : m = "take" ∨ m = "shoot") {s2 : Store} (h2 : s2 = clk st f c p rows fl) : insOk "Clock" m (.loc st.length) s2 = true := by
  subst h2
  exact insOk_ins clk_cell (by rcases h with rfl | rfl <;> simp [clkF, lookup_consF])
theorem clk_keep {c2 : Int} {p2 : D} {rows2 : List Row} {fl2 : List Int} (hp : lf p2 = true) : keepOk (clk st f c p rows fl) (clk st f c2 p2 rows2 fl2) := fun i hi => by
  by_cases h : i < st.length
  · left
    unfold clk
    rw [List.getElem?_append_left h, List.getElem?_append_left h]
  · right
    rw [clk_len] at hi ⊢
    have e : ∀ k, i = st.length + k → (clk st f c2 p2 rows2 fl2)[i]? = [some (Ob.ins "Clock" (clkF st.length f c2 p2)), some (.lst (rows2.map encRow)), some (.lst (fl2.map .int))][k]? := fun k hk => by
      unfold clk
      rw [List.getElem?_append_right (by omega), hk]
      congr 1
      omega
    have mono : ∀ d : D, lf d = true → locsLt (st.length + 3) d = true := fun d hd => locsLt_mono (Nat.zero_le _) hd
    rcases (by omega : i = st.length + 0 ∨ i = st.length + 1 ∨ i = st.length + 2) with h1 | h1 | h1
    · refine ⟨_, (e 0 h1).trans rfl, fun ob ho => ?_⟩
      cases ho
      simp only [obLt, clkF, List.all_cons, List.all_nil, Bool.and_true, Bool.and_eq_true]
      exact ⟨mono _ (lf_encF f), mono _ (by simp), mono _ hp, by simp [locsLt]⟩
    · refine ⟨_, (e 1 h1).trans rfl, fun ob ho => ?_⟩
      cases ho
      exact locsLts_mono (Nat.zero_le _) (show lfs _ = true from lfs_map lf_encRow)
    · refine ⟨_, (e 2 h1).trans rfl, fun ob ho => ?_⟩
      cases ho
      exact locsLts_mono (Nat.zero_le _) (show lfs _ = true from lfs_ints)
theorem clk_gc {d : D} {c2 : Int} {p2 : D} {rows2 : List Row} {fl2 : List Int} (hp : lf p2 = true) (hd : lf d = true) : gcRet (clk st f c p rows fl) d (clk st f c2 p2 rows2 fl2) = .ok d (clk st f c2 p2 rows2 fl2) := by
  rw [gc_ret (clk_keep hp) hd, List.take_of_length_le (by rw [clk_len, clk_len]; exact Nat.le_refl _)]
theorem take_okC {i k : Int} (hl : rows.length < 1000) (hp : lf p = true) : m_Clock_take [.loc st.length, .int i, .int k] (clk st f c p rows fl) = .ok .non (clk st f (c + k) p (rows ++ [⟨i, c, c + k⟩]) fl) := by
  refine wp_eq ?_
  unfold m_Clock_take
  rw [wp_fnD]
  unfold b_Clock_take
  have e1 := clk_rowsF (st := st) (f := f) (c := c) (p := p) (rows := rows) (fl := fl) rfl
  have e2 := clk_minute (st := st) (f := f) (c := c) (p := p) (rows := rows) (fl := fl) rfl
  have e3 := clk_app (st := st) (f := f) (c := c) (p := p) (rows := rows) (fl := fl) (r := ⟨i, c, c + k⟩) hl
  have e4 := clk_minute (st := st) (f := f) (c := c) (p := p) (rows := rows ++ [⟨i, c, c + k⟩]) (fl := fl) rfl
  have e5 := clk_put_minute (st := st) (f := f) (c := c) (p := p) (rows := rows ++ [⟨i, c, c + k⟩]) (fl := fl) (c2 := c + k)
  have e6 := clk_rows (st := st) (f := f) (c := c) (p := p) (rows := rows) (fl := fl)
  have e7 := clk_gc (st := st) (f := f) (c := c) (p := p) (rows := rows) (fl := fl) (d := .non) (c2 := c + k) (p2 := p) (rows2 := rows ++ [⟨i, c, c + k⟩]) (fl2 := fl) hp (by simp)
  unfold encRow at e3
  simp [-Dn.append_eq, -insAt_loc, e1, e2, e6]
  simp [-Dn.append_eq, -insAt_loc, e3, e4, e5, e7, iaddD]
theorem shoot_okC {i : Int} {po : Option Nat} {sc : Scene} (hl : rows.length < 1000) (hi : 0 ≤ i) (hs : f.scenes[i.toNat]? = some sc) (c2 : Int) (hc : c2 = (if po = none ∨ po = some sc.place then c else c + f.move)) :
    m_Clock_shoot [.loc st.length, .int i] (clk st f c (pD po) rows fl) = .ok .non (clk st f (c2 + sc.mins) (.int (sc.place : Nat)) (rows ++ [⟨i, c2, c2 + sc.mins⟩]) fl) := by
  refine wp_eq ?_
  unfold m_Clock_shoot
  rw [wp_fnD]
  unfold b_Clock_shoot
  have e1 := clk_film (st := st) (f := f) (c := c) (p := pD po) (rows := rows) (fl := fl) rfl
  have e2 := clk_place (st := st) (f := f) (c := c) (p := pD po) (rows := rows) (fl := fl) rfl
  have e3 := clk_minute (st := st) (f := f) (c := c) (p := pD po) (rows := rows) (fl := fl) rfl
  have e4 := fun c' => clk_put_minute (st := st) (f := f) (c := c) (p := pD po) (rows := rows) (fl := fl) (c2 := c')
  have e5 := fun c' => clk_put_place (st := st) (f := f) (c := c') (p := pD po) (rows := rows) (fl := fl) (p2 := .int (sc.place : Nat))
  have e6 := fun c' => take_okC (st := st) (f := f) (c := c') (p := .int (sc.place : Nat)) (rows := rows) (fl := fl) (i := i) (k := sc.mins) hl (by simp)
  have e7 := fun c' => clk_ok (st := st) (f := f) (c := c') (p := .int (sc.place : Nat)) (rows := rows) (fl := fl) (m := "take") (.inl rfl) rfl
  have e8 := fun c' r => clk_gc (st := st) (f := f) (c := c) (p := pD po) (rows := rows) (fl := fl) (d := .non) (c2 := c') (p2 := .int (sc.place : Nat)) (rows2 := r) (fl2 := fl) (by simp) (by simp)
  simp [-insAt_loc, e1, ixF2, hi, hs, encSc, e2]
  cases po with
  | none =>
    have hc' : c2 = c := by rw [hc, if_pos (.inl rfl)]
    subst hc'
    simp [-insAt_loc, pD] at e1 e2 e3 e4 e5 e6 e7 e8 ⊢
    simp [-insAt_loc, e5, e7, e6, e8]
  | some q =>
    by_cases hq : q = sc.place
    · subst hq
      have hc' : c2 = c := by rw [hc, if_pos (.inr rfl)]
      subst hc'
      simp [-insAt_loc, pD] at e1 e2 e3 e4 e5 e6 e7 e8 ⊢
      simp [-insAt_loc, e2, e5, e7, e6, e8]
    · have hc' : c2 = c + f.move := by rw [hc, if_neg (by simp [hq])]
      subst hc'
      have hq2 : ¬ ((q : Int) = (sc.place : Int)) := by omega
      simp [-insAt_loc, pD] at e1 e2 e3 e4 e5 e6 e7 e8 ⊢
      simp [-insAt_loc, e1, e2, hq2, e3, ixF4, e4, e5, e7, e6, e8, iaddD]
end
end Lk72
namespace Lk72
open PySem Dn
def itsOfSheet (w : Str) (a b : List Int) : List Int := if w = "rain" then b else a
def fallD (fl : List Int) : D := .tup ((fl.map D.int).mergeSort leDt)
theorem lf_fall (fl : List Int) : lfs ((fl.map D.int).mergeSort leDt) = true := lfs_all.mpr fun d hd => by
  have := (List.mergeSort_perm _ _).mem_iff.mp hd
  obtain ⟨k, _, rfl⟩ := List.mem_map.mp this
  simp
/-- how long things are behind some items -/
theorem hrs_len {f : Film} {shot : List Nat} {who : Int} : ∀ (its : List Int) (s : HS), (its.foldl (stepH f shot who) s).rows.length ≤ s.rows.length + its.length ∧ (its.foldl (stepH f shot who) s).fallen.length ≤ s.fallen.length + its.length
  | [], s => ⟨by simp, by simp⟩
  | i :: its, s => by
    obtain ⟨h1, h2⟩ := hrs_len (f := f) (shot := shot) (who := who) its (stepH f shot who s i)
    have k : (stepH f shot who s i).rows.length ≤ s.rows.length + 1 ∧ (stepH f shot who s i).fallen.length ≤ s.fallen.length + 1 := by
      unfold stepH
      split
      · simp
      · split
        · simp
        · split
          · simp
          · split <;> simp
    rw [List.foldl_cons, List.length_cons]
    omega
theorem hours_okC {m : Nat} {f : Film} {call who late : Int} {w : Str} {a b : List Int} {shot : List Nat} {st : Store} (hf : FilmOk m f) (ha : RowsOk f.scenes.length a) (hb : RowsOk f.scenes.length b) :
    m_hours [encF f, encSh call a b, encN shot, .tup [.str w, .int who, .int late]] st = .ok (.tup [.tup ((hrs f shot who (call + late) (itsOfSheet w a b)).rows.map encRow), fallD (hrs f shot who (call + late) (itsOfSheet w a b)).fallen]) st := by
  refine wp_eq ?_
  unfold m_hours
  rw [wp_fnD]
  unfold b_hours
  simp [encSh]
  unfold b_hours_2
  simp
  refine make_wp ?_
  simp
  unfold m_Clock_init
  rw [wp_fnK]
  unfold b_Clock_init
  simp [-insAt_loc, putI]
  unfold b_hours_3
  simp
  unfold b_hours_4
  have hst : st ++ [some (Ob.ins "Clock" [("film", encF f), ("minute", D.int (call + late)), ("place", D.non), ("rows", D.loc (st.length + 1))]), some (.lst []), some (.lst [])] = clk st f (call + late) (pD none) [] [] := rfl
  rw [hst]
  obtain ⟨its, hits⟩ : ∃ its, its = itsOfSheet w a b := ⟨_, rfl⟩
  have hi : RowsOk f.scenes.length its := by
    rw [hits]
    unfold itsOfSheet
    split
    · exact hb
    · exact ha
  have eits : ∀ st2 : Store, (if w = "rain" then (Re.ok (D.tup (b.map .int)) st2) else .ok (.tup (a.map .int)) st2) = .ok (.tup (its.map .int)) st2 := fun st2 => by
    rw [hits]
    unfold itsOfSheet
    split <;> rfl
  have eif : ∀ st2 : Store, eIf (e2 eqD (eV 4) (eC (D.str "rain"))) (e2 ixA (eV 1) (eC (D.int 2))) (e2 ixA (eV 1) (eC (D.int 1))) [some (encF f), some (D.tup [D.int call, D.tup (List.map D.int a), D.tup (List.map D.int b)]), some (encN shot), some (D.tup [D.str w, D.int who, D.int late]), some (D.str w), some (D.int who), some (D.int late), some (D.loc (List.length st)), some (D.loc (List.length st + 2)), none] st2 = .ok (.tup (its.map .int)) st2 := fun st2 => by
    rw [hits]
    unfold itsOfSheet
    by_cases h : w = "rain" <;> simp [h]
  rw [← hits]
  simp [sFor_wp, -Dn.eIf_eq, eif]
  obtain ⟨HI, hHI⟩ : ∃ HI : List D → Vars → Store → Prop, HI = fun l vs st1 => ∃ (pre suf : List Int), its = pre ++ suf ∧ l = suf.map .int ∧ st1 = clk st f (hrs f shot who (call + late) pre).clock (pD (hrs f shot who (call + late) pre).place) (hrs f shot who (call + late) pre).rows (hrs f shot who (call + late) pre).fallen ∧
    vs = [some (encF f), some (D.tup [D.int call, D.tup (List.map D.int a), D.tup (List.map D.int b)]), some (encN shot), some (D.tup [D.str w, D.int who, D.int late]), some (D.str w), some (D.int who), some (D.int late), some (D.loc (List.length st)), some (D.loc (List.length st + 2)), none] := ⟨_, rfl⟩
  refine forGo_wp HI (fun _ _ _ _ => trivial) (fun d l vs st1 hI => ?_) (fun vs st1 hI => ?_) _ _ _ (by rw [hHI]; exact ⟨[], its, rfl, rfl, rfl, rfl⟩)
  · rw [hHI] at hI
    obtain ⟨pre, suf, hs, hl2, rfl, rfl⟩ := hI
    cases suf with
    | nil => cases hl2
    | cons i suf =>
      injection hl2 with e1 e2
      subst e1 e2
      have hpl : pre.length + 1 ≤ its.length := by rw [hs]; simp
      have hil := hi.1
      have hii : ItOk f.scenes.length i := hi.2 i (by rw [hs]; simp)
      have hlen := hrs_len (f := f) (shot := shot) (who := who) pre ⟨call + late, none, [], []⟩
      refine ⟨_, rfl, ?_⟩
      have fin : ∀ (s2 : HS), s2 = stepH f shot who (hrs f shot who (call + late) pre) i →
          HI (suf.map .int) [some (encF f), some (D.tup [D.int call, D.tup (List.map D.int a), D.tup (List.map D.int b)]), some (encN shot), some (D.tup [D.str w, D.int who, D.int late]), some (D.str w), some (D.int who), some (D.int late), some (D.loc (List.length st)), some (D.loc (List.length st + 2)), none] (clk st f s2.clock (pD s2.place) s2.rows s2.fallen) := fun s2 h2 => by
        rw [hHI]
        refine ⟨pre ++ [i], suf, by rw [hs]; simp, rfl, ?_, rfl⟩
        have e : hrs f shot who (call + late) (pre ++ [i]) = s2 := by
          rw [h2]
          unfold hrs
          rw [List.foldl_append]
          rfl
        rw [e]
      clear hHI
      have hl1 : (hrs f shot who (call + late) pre).rows.length < 1000 := by
        have := hlen.1
        simp only [List.length_nil] at this
        show (pre.foldl (stepH f shot who) ⟨call + late, none, [], []⟩).rows.length < 1000
        omega
      have hl2 : (hrs f shot who (call + late) pre).fallen.length < 1000 := by
        have := hlen.2
        simp only [List.length_nil] at this
        show (pre.foldl (stepH f shot who) ⟨call + late, none, [], []⟩).fallen.length < 1000
        omega
      generalize hrs f shot who (call + late) pre = s at *
      unfold b_hours_5
      have ed : d_MEAL = .int (-1) := rfl
      have lfp : lf (pD s.place) = true := by cases s.place <;> simp [pD]
      have ok1 := clk_ok (st := st) (f := f) (c := s.clock) (p := pD s.place) (rows := s.rows) (fl := s.fallen) (m := "take") (.inl rfl) rfl
      have ok2 := clk_ok (st := st) (f := f) (c := s.clock) (p := pD s.place) (rows := s.rows) (fl := s.fallen) (m := "shoot") (.inr rfl) rfl
      by_cases hm1 : i = -1
      · subst hm1
        simp [ed, ok1, ixF4, take_okC (st := st) (f := f) (c := s.clock) (p := pD s.place) (rows := s.rows) (fl := s.fallen) (i := -1) (k := f.meal) hl1 lfp]
        exact fin { s with rows := s.rows ++ [⟨-1, s.clock, s.clock + f.meal⟩], clock := s.clock + f.meal } (by simp [stepH])
      · have hn : 0 ≤ i ∧ i < f.scenes.length := hii.resolve_left hm1
        obtain ⟨k, rfl⟩ : ∃ k : Nat, i = (k : Int) := ⟨i.toNat, by omega⟩
        have hk : k < f.scenes.length := by omega
        have hsc : f.scenes[k]? = some f.scenes[k] := List.getElem?_eq_getElem hk
        generalize f.scenes[k] = sc at hsc
        have nsh : ∀ st2, inA true ninD (.int (k : Int)) (encN shot) st2 = .ok (.bl !(decide (k ∈ shot))) st2 := fun st2 => nin_shot
        have ic : ∀ st2, inA false inD (.int who) (encN sc.cast) st2 = .ok (.bl (decide (∃ a ∈ sc.cast, ((a : Nat) : Int) = who))) st2 := fun st2 => in_cast
        have e5 : ∀ st2, ixA (encSc sc) (.int 5) st2 = .ok (encN sc.cast) st2 := fun st2 => by simp [encSc]
        by_cases hsh : k ∈ shot
        · simp [ed, hm1, nsh, hsh]
          exact fin s (by unfold stepH; rw [if_neg hm1, if_pos (by simpa using hsh)])
        · have hfl := clk_fl (st := st) (f := f) (c := s.clock) (p := pD s.place) (rows := s.rows) (fl := s.fallen)
          by_cases hin : ∃ a ∈ sc.cast, ((a : Nat) : Int) = who
          · simp [ed, hm1, nsh, hsh, ixF2, hsc, e5, ic, hin, hfl]
            rw [if_pos (by omega), wp_ok, wpS_nx]
            have := fin { s with fallen := s.fallen ++ [(k : Int)] } (by unfold stepH; rw [if_neg hm1, if_neg (by simpa using hsh)]; simp [hsc, hin])
            refine Eq.mp ?_ this
            congr 1
            unfold clk
            simp
          · have hmv : moved f s sc.place = (if s.place = none ∨ s.place = some sc.place then s.clock else s.clock + f.move) := rfl
            have hsk := shoot_okC (st := st) (f := f) (c := s.clock) (po := s.place) (rows := s.rows) (fl := s.fallen) (i := (k : Int)) (sc := sc) hl1 (by omega) (by simpa using hsc) (moved f s sc.place) hmv
            simp [ed, hm1, nsh, hsh, ixF2, hsc, e5, ic, hin, ok2, hsk]
            exact fin { s with clock := moved f s sc.place + sc.mins, place := some sc.place, rows := s.rows ++ [⟨(k : Int), moved f s sc.place, moved f s sc.place + sc.mins⟩] } (by unfold stepH; rw [if_neg hm1, if_neg (by simpa using hsh)]; simp [hsc, hin])
  · rw [hHI] at hI
    obtain ⟨pre, suf, hs, hl2, rfl, rfl⟩ := hI
    have e : suf = [] := by
      cases suf with
      | nil => rfl
      | cons _ _ => cases hl2
    subst e
    rw [List.append_nil] at hs
    subst hs
    clear hHI
    generalize hrs f shot who (call + late) its = s at *
    unfold b_hours_12
    have e1 := clk_rowsF (st := st) (f := f) (c := s.clock) (p := pD s.place) (rows := s.rows) (fl := s.fallen) rfl
    have e2 := clk_rows (st := st) (f := f) (c := s.clock) (p := pD s.place) (rows := s.rows) (fl := s.fallen)
    have e3 := clk_fl (st := st) (f := f) (c := s.clock) (p := pD s.place) (rows := s.rows) (fl := s.fallen)
    have hl1 : lfs (s.rows.map encRow) = true := lfs_map lf_encRow
    have h4 : lf (D.tup [.tup (s.rows.map encRow), fallD s.fallen]) = true := by
      unfold fallD
      simp [hl1, lf_fall]
    have h5 : ∀ st2 : Store, lstAt (clk st f s.clock (pD s.place) s.rows s.fallen) (st.length + 2) = some (s.fallen.map .int) := fun _ => e3
    unfold fallD at h4 ⊢
    simp [e1, e2, e3, srt_ints]
    have hg : gcRet st (D.tup [.tup (s.rows.map encRow), .tup ((s.fallen.map D.int).mergeSort leDt)]) (clk st f s.clock (pD s.place) s.rows s.fallen) = .ok (D.tup [.tup (s.rows.map encRow), .tup ((s.fallen.map D.int).mergeSort leDt)]) st := by
      unfold clk
      exact gc_app h4
    simp [hg]
end Lk72
namespace Lk72
open PySem Dn
theorem atI_last {xs : List D} {z : D} : L2.atI (xs ++ [z]) (-1) = some z := by
  unfold L2.atI L2.ixN
  rw [if_neg (by omega), if_pos (by simp; omega)]
  simp
  have e : (-1 + ((xs.length : Int) + 1)).toNat = xs.length := by omega
  rw [e]
  simp
def castOf (f : Film) (item : Int) : List Nat := match f.scenes[item.toNat]? with
  | some sc => sc.cast
  | none => []
def mine (f : Film) (actor : Nat) (r : Row) : Bool := decide (0 ≤ r.item) && decide (actor ∈ castOf f r.item)
theorem cast_at {f : Film} {item : Int} {actor : Nat} {st : Store} (h0 : 0 ≤ item) (h1 : item < f.scenes.length) : ∃ sc, f.scenes[item.toNat]? = some sc ∧ castOf f item = sc.cast := by
  have hsc : f.scenes[item.toNat]? = some f.scenes[item.toNat] := List.getElem?_eq_getElem (by omega)
  exact ⟨_, hsc, by unfold castOf; rw [hsc]⟩
def RsOk (n : Nat) (rows : List Row) : Prop := rows.length ≤ 100 ∧ ∀ r ∈ rows, ItOk n r.item
def dark (l d b e : Int) : Int := e - b - (if (if d < e then d else e) - (if l > b then l else b) > 0 then (if d < e then d else e) - (if l > b then l else b) else 0)
theorem dark_ok {l d b e : Int} {st : Store} : m_dark_minutes [.int l, .int d, .int b, .int e] st = .ok (.int (dark l d b e)) st := by
  refine wp_eq ?_
  unfold m_dark_minutes
  rw [wp_fnD]
  unfold b_dark_minutes
  have hm : ∀ i j : Int, ∀ st, minB [.int i, .int j] st = .ok (.int (if j < i then j else i)) st := fun i j st => rfl
  simp [hm, max2_int, dark]
/-- the meals within a span -/
def meals (call wrap : Int) (rows : List Row) : List (Int × Int) := (rows.filter fun r => decide (r.item = -1) && (decide (call ≤ r.b) && decide (r.e ≤ wrap))).map fun r => (r.b, r.e)
def mx (x y : Int) : Int := if y > x then y else x
def str (lo s0 wrap : Int) : List (Int × Int) → Int
  | [] => mx lo (wrap - s0)
  | p :: r => str (mx lo (p.1 - s0)) p.2 wrap r
theorem stretch_ok {rows : List Row} {call wrap : Int} {st : Store} : m_longest_stretch [.tup (rows.map encRow), .int call, .int wrap] st = .ok (.int (str 0 call wrap (meals call wrap rows))) st := by
  refine wp_eq ?_
  unfold m_longest_stretch
  rw [wp_fnD]
  unfold b_longest_stretch
  simp
  unfold b_longest_stretch_2
  simp
  unfold b_longest_stretch_3
  simp [sFor_wp]
  obtain ⟨T, hT⟩ : ∃ T, T = str 0 call wrap (meals call wrap rows) := ⟨_, rfl⟩
  rw [← hT]
  obtain ⟨HI, hHI⟩ : ∃ HI : List D → Vars → Store → Prop, HI = fun l vs st1 => ∃ (suf : List Row) (lo s0 : Int), l = suf.map encRow ∧ st1 = st ∧ str lo s0 wrap (meals call wrap suf) = T ∧ vs = [some (.tup (rows.map encRow)), some (.int call), some (.int wrap), some (.int lo), some (.int s0), none, none, none] := ⟨_, rfl⟩
  refine forGo_wp HI (fun _ _ _ _ => trivial) (fun d l vs st1 hI => ?_) (fun vs st1 hI => ?_) _ _ _ (by rw [hHI]; exact ⟨rows, 0, call, rfl, rfl, hT.symm, rfl⟩)
  · rw [hHI] at hI
    obtain ⟨suf, lo, s0, hl2, hst, hst2, rfl⟩ := hI
    cases suf with
    | nil => cases hl2
    | cons r suf =>
      injection hl2 with e1 e2
      subst e1 e2
      refine ⟨_, rfl, ?_⟩
      have fin : ∀ lo2 s2 : Int, str lo2 s2 wrap (meals call wrap suf) = T → HI (suf.map encRow) [some (.tup (rows.map encRow)), some (.int call), some (.int wrap), some (.int lo2), some (.int s2), none, none, none] st1 := fun lo2 s2 h => by
        rw [hHI]
        exact ⟨suf, lo2, s2, rfl, hst, h, rfl⟩
      clear hHI
      have ed : d_MEAL = .int (-1) := rfl
      unfold b_longest_stretch_4
      have hno : ¬ (r.item = -1 ∧ call ≤ r.b ∧ r.e ≤ wrap) → str lo s0 wrap (meals call wrap suf) = T := fun h => by
        rw [← hst2]
        unfold meals
        rw [List.filter_cons_of_neg (by simpa using h)]
      by_cases h1 : r.item = -1
      · by_cases h2 : call ≤ r.b
        · by_cases h3 : r.e ≤ wrap
          · simp [encRow, ed, h1, h2, h3]
            unfold b_longest_stretch_5
            simp [max2_int]
            unfold b_longest_stretch_6
            simp
            refine fin _ _ ?_
            rw [← hst2]
            unfold meals
            rw [List.filter_cons_of_pos (by simp [h1, h2, h3])]
            simp only [List.map_cons, str, mx]
          · simp [encRow, ed, h1, h2, h3]
            exact fin _ _ (hno fun h => h3 h.2.2)
        · simp [encRow, ed, h1, h2]
          exact fin _ _ (hno fun h => h2 h.2.1)
      · simp [encRow, ed, h1]
        exact fin _ _ (hno fun h => h1 h.1)
  · rw [hHI] at hI
    obtain ⟨suf, lo, s0, hl2, rfl, hst2, rfl⟩ := hI
    have e : suf = [] := by
      cases suf with
      | nil => rfl
      | cons _ _ => cases hl2
    subst e
    unfold b_longest_stretch_7
    simp [max2_int]
    rw [← hst2]
    rfl
def callO (f : Film) (a : Row) : Int := if f.bef < a.b then a.b - f.bef else 0
def figL (f : Film) (li : Int × Int) (rows O : List Row) (call wrap b0 b1 : Int) : List Int :=
  [call, wrap, wrap - call, (O.map fun r => r.e - r.b).sum, if b0 = -1 then 9999 else (if b0 < call + 1440 then call + 1440 - b0 else 0), if b0 = -1 then 1 else b1 + 1, (O.map fun r => dark li.1 li.2 r.b r.e).sum, str 0 call wrap (meals call wrap rows), (O.length : Int)]
def figO (f : Film) (li : Int × Int) (rows : List Row) (b0 b1 : Int) : List Row → Option (List Int)
  | [] => none
  | a :: r => some (figL f li rows (a :: r) (callO f a) ((a :: r).getLast (by simp)).e b0 b1)
def figs (f : Film) (li : Int × Int) (rows : List Row) (actor : Nat) (b0 b1 : Int) : Option (List Int) := figO f li rows b0 b1 (rows.filter (mine f actor))
def encFig : Option (List Int) → D
  | none => .non
  | some l => .tup (l.map .int)
theorem figures_ok {m days : Nat} {f : Film} {cal : Calx} {rows : List Row} {actor day : Nat} {li : Int × Int} {b0 b1 : Int} {st : Store} (hf : FilmOk m f) (hli : cal.lights[day]? = some li) (hr : RsOk f.scenes.length rows) (hb : b0 = -1 ∨ 0 ≤ b0) :
    m_figures_of [encF f, encC cal, .int (day : Nat), .tup (rows.map encRow), .int (actor : Nat), .tup [.int b0, .int b1]] st = .ok (encFig (figs f li rows actor b0 b1)) st := by
  refine wp_eq ?_
  unfold m_figures_of
  rw [wp_fnD]
  unfold b_figures_of
  have hrl := hr.1
  have ed : d_MEAL = .int (-1) := rfl
  have ed2 : d_DAY = .int 1440 := rfl
  have ed3 : d_NO_REST = .int 9999 := rfl
  simp [eComp_wp]
  refine ⟨by omega, ?_⟩
  rw [compGo_fmap (p := mine f actor) (h := fun r : Row => D.tup [.int r.b, .int r.e]) trivial fun r hrm => ⟨_, rfl, by
    rcases hr.2 r hrm with h | ⟨h0, h1⟩
    · simp [encRow, ed, h, mine]
    · obtain ⟨sc, s1, s2⟩ := cast_at (f := f) (actor := actor) (st := st) h0 h1
      have hn : ¬ r.item = -1 := by omega
      have ic : ∀ st, inA false inD (.int (actor : Int)) (encN sc.cast) st = .ok (.bl (decide (actor ∈ sc.cast))) st := fun st => in_nats (xs := sc.cast) (i := actor) (y := encN sc.cast) rfl
      have e5 : ∀ st, ixA (encSc sc) (.int 5) st = .ok (encN sc.cast) st := fun st => by simp [encSc]
      simp [encRow, ed, hn, mine, h0, ixF2, s1, e5, ic, s2], fun _ => by simp [encRow]⟩]
  unfold figs
  have hol : (rows.filter (mine f actor)).length ≤ 100 := Nat.le_trans (List.length_filter_le _ _) hrl
  generalize rows.filter (mine f actor) = own at *
  cases own with
  | nil => simp [truthB_lst, figO, encFig]
  | cons a r =>
    obtain ⟨ys, z, hyz⟩ : ∃ ys z, a :: r = ys ++ [z] := ⟨(a :: r).dropLast, (a :: r).getLast (by simp), (List.dropLast_concat_getLast (by simp)).symm⟩
    have hz : (a :: r).getLast (by simp) = z := by simp [hyz]
    have elast : ∀ st, ixA (.lst ((a :: r).map fun r : Row => D.tup [.int r.b, .int r.e])) (.int (-1)) st = .ok (.tup [.int z.b, .int z.e]) st := fun st => by
      rw [hyz, List.map_append, List.map_cons, List.map_nil, ixA_lst, atI_last]
    have ehead : ∀ st, ixA (.lst ((a :: r).map fun r : Row => D.tup [.int r.b, .int r.e])) (.int 0) st = .ok (.tup [.int a.b, .int a.e]) st := fun st => by simp
    have xC0 : ∀ st, ixA (encC cal) (.int 0) st = .ok (.tup (cal.lights.map encL)) st := fun st => by simp [encC]
    have htr : ∀ st, truthB st (.lst ((a :: r).map fun r : Row => D.tup [.int r.b, .int r.e])) = some true := fun st => rfl
    have hits : ∀ st, itsOf st (.lst ((a :: r).map fun r : Row => D.tup [.int r.b, .int r.e])) = some ((a :: r).map (fun r : Row => D.tup [.int r.b, .int r.e]), []) := fun st => rfl
    have hlen : ∀ st, lenB st (.lst ((a :: r).map fun r : Row => D.tup [.int r.b, .int r.e])) = some (a :: r).length := fun st => by simp
    have hfig : figO f li rows b0 b1 (a :: r) = some (figL f li rows (a :: r) (callO f a) z.e b0 b1) := by
      show some _ = some _
      rw [hz]
    rw [hfig]
    clear hyz hz hfig
    generalize hO : (a :: r) = O at *
    have hOl : O.length ≤ 1000000 := by omega
    have hcl : (if f.bef < a.b then a.b - f.bef else 0) = callO f a := rfl
    by_cases hb0 : b0 = -1
    · simp [htr, ehead, ixF4, max2_int, elast, xC0, hli, encL, eComp_wp, hcl, hb0, ed2, ed3]
      refine ⟨by omega, ?_⟩
      rw [compGo_map (h := fun r : Row => D.int (r.e - r.b)) trivial fun r _ => ⟨_, rfl, by simp⟩]
      simp [eComp_wp]
      refine ⟨by omega, ?_⟩
      rw [compGo_map (h := fun r : Row => D.int (dark li.1 li.2 r.b r.e)) trivial fun r _ => ⟨_, rfl, by simp [dark_ok]⟩]
      simp [stretch_ok]
      simp [encFig, figL, hb0]
    · simp [htr, ehead, ixF4, max2_int, elast, xC0, hli, encL, eComp_wp, hcl, hb0, ed2, ed3]
      refine ⟨by omega, ?_⟩
      rw [compGo_map (h := fun r : Row => D.int (r.e - r.b)) trivial fun r _ => ⟨_, rfl, by simp⟩]
      simp [eComp_wp]
      refine ⟨by omega, ?_⟩
      rw [compGo_map (h := fun r : Row => D.int (dark li.1 li.2 r.b r.e)) trivial fun r _ => ⟨_, rfl, by simp [dark_ok]⟩]
      simp [stretch_ok]
      simp [encFig, figL, hb0]
end Lk72
namespace Lk72
open PySem Dn
theorem rg2 : ∀ p : Nat, p < 128 → rgOk 0 ((2 * p : Nat) : Int) 2 = true ∧ (Builtin.Range.rangeSize 0 ((2 * p : Nat) : Int) 2).toNat = p := by decide +kernel
def RowsG (rows : List Row) : Prop := (∀ r ∈ rows, 0 ≤ r.b ∧ r.b ≤ r.e) ∧ rows.Pairwise fun r q => r.e ≤ q.b
def pp (s wrap : Int) : List (Int × Int) → List Int
  | [] => [s, wrap]
  | p :: r => s :: p.1 :: pp p.2 wrap r
def ivs (s wrap : Int) : List (Int × Int) → List Int
  | [] => [wrap - s]
  | p :: r => (p.1 - s) :: ivs p.2 wrap r
theorem pp_len {wrap : Int} : ∀ {s : Int} {ms : List (Int × Int)}, (pp s wrap ms).length = 2 * (ms.length + 1)
  | _, [] => rfl
  | s, p :: r => by
    simp only [pp, List.length_cons, pp_len (s := p.2) (ms := r)]
    omega
theorem pp_diff {wrap : Int} : ∀ {s : Int} {ms : List (Int × Int)}, (List.range (ms.length + 1)).map (fun i => (pp s wrap ms).getD (2 * i + 1) 0 - (pp s wrap ms).getD (2 * i) 0) = ivs s wrap ms
  | s, [] => by simp [pp, ivs, List.range_succ]
  | s, p :: r => by
    rw [List.length_cons, List.range_succ_eq_map, List.map_cons, List.map_map]
    have ih := pp_diff (wrap := wrap) (s := p.2) (ms := r)
    rw [ivs, ← ih]
    congr 1
theorem ivs_ne {s wrap : Int} {ms : List (Int × Int)} : ivs s wrap ms ≠ [] := by cases ms <;> simp [ivs]
theorem str_le {wrap d : Int} : ∀ {lo s : Int} {ms : List (Int × Int)}, str lo s wrap ms ≤ d ↔ lo ≤ d ∧ ∀ x ∈ ivs s wrap ms, x ≤ d
  | lo, s, [] => by
    simp only [str, ivs, mx, List.mem_singleton, forall_eq]
    split <;> omega
  | lo, s, p :: r => by
    rw [str, str_le, ivs, List.forall_mem_cons]
    have : mx lo (p.1 - s) ≤ d ↔ lo ≤ d ∧ p.1 - s ≤ d := by
      unfold mx
      split <;> omega
    rw [this, and_assoc]
theorem str_max {call wrap : Int} {rows : List Row} (h : call ≤ wrap) : maxI (ivs call wrap (meals call wrap rows)) = str 0 call wrap (meals call wrap rows) := by
  have hz : ∃ x ∈ ivs call wrap (meals call wrap rows), 0 ≤ x := by
    cases hm : meals call wrap rows with
    | nil => exact ⟨wrap - call, by simp [ivs], by omega⟩
    | cons p r =>
      refine ⟨p.1 - call, by simp [ivs], ?_⟩
      have hp : p ∈ meals call wrap rows := by rw [hm]; exact List.mem_cons_self
      unfold meals at hp
      obtain ⟨q, hq, rfl⟩ := List.mem_map.mp hp
      have := (List.mem_filter.mp hq).2
      simp at this
      show 0 ≤ q.b - call
      omega
  have key : ∀ d, maxI (ivs call wrap (meals call wrap rows)) ≤ d ↔ str 0 call wrap (meals call wrap rows) ≤ d := fun d => by
    rw [maxI_le ivs_ne, str_le]
    obtain ⟨x, hx, h0⟩ := hz
    exact ⟨fun k => ⟨Int.le_trans h0 (k x hx), k⟩, fun k => k.2⟩
  exact Int.le_antisymm ((key _).mpr (Int.le_refl _)) ((key _).mp (Int.le_refl _))
def night1 (l d b e : Int) : Int := (if (if l < e then l else e) - b > 0 then (if l < e then l else e) - b else 0)
def night2 (l d b e : Int) : Int := (if e - (if d > b then d else b) > 0 then e - (if d > b then d else b) else 0)
theorem night_dark {l d b e : Int} (h1 : b ≤ e) (h2 : l ≤ d) : night1 l d b e + night2 l d b e = dark l d b e := by
  unfold night1 night2 dark
  repeat' split
  all_goals omega
theorem call_wrap {f : Film} {rows : List Row} {actor : Nat} {a z : Row} {r : List Row} (hg : RowsG rows) (hb : 0 ≤ f.bef) (h : rows.filter (mine f actor) = a :: r) (hz : (a :: r).getLast (by simp) = z) : callO f a ≤ z.e := by
  have hp : (a :: r).Pairwise fun r q => r.e ≤ q.b := by rw [← h]; exact hg.2.filter _
  have ha : a ∈ rows := (List.mem_filter.mp (by rw [h]; exact List.mem_cons_self : a ∈ rows.filter (mine f actor))).1
  have hzm : z ∈ rows := (List.mem_filter.mp (by rw [h, ← hz]; exact List.getLast_mem _ : z ∈ rows.filter (mine f actor))).1
  have h1 := hg.1 a ha
  have h2 := hg.1 z hzm
  have h3 : a.b ≤ z.e := by
    have hzr : z = a ∨ z ∈ r := by
      have : z ∈ a :: r := by rw [← hz]; exact List.getLast_mem _
      exact List.mem_cons.mp this
    rcases hzr with rfl | hr
    · omega
    · have := (List.pairwise_cons.mp hp).1 z hr
      omega
  unfold callO
  split <;> omega
end Lk72
namespace Lk72
open PySem Dn
def inW (ws : List (Nat × Nat × Nat)) (who day : Nat) : Bool := ws.any fun w => decide (w.1 = who) && (decide (w.2.1 ≤ day) && decide (day ≤ w.2.2))
section
variable {np na days : Nat} {cal : Calx} (hc : CalOk np na days cal)
include hc
theorem there_ok (actor day : Nat) {st : Store} : m_is_there [encC cal, .int (actor : Nat), .int (day : Nat)] st = .ok (.bl !(inW cal.away actor day)) st := by
  have hl : cal.away.length ≤ 1000000 := Nat.le_trans hc.aw.1 (by omega)
  refine wp_eq ?_
  unfold m_is_there
  rw [wp_fnD]
  unfold b_is_there
  simp [encC, eComp_wp, hl]
  rw [compGo_map (h := fun w : Nat × Nat × Nat => D.bl (decide (w.1 = actor) && (decide (w.2.1 ≤ day) && decide (day ≤ w.2.2)))) trivial fun w hw => ⟨_, rfl, by simp [encW, dec_nat]⟩]
  simp [any_map_id, inW]
theorem open_ok (place day : Nat) {st : Store} : m_is_open [encC cal, .int (place : Nat), .int (day : Nat)] st = .ok (.bl !(inW cal.closed place day)) st := by
  have hl : cal.closed.length ≤ 1000000 := Nat.le_trans hc.cl.1 (by omega)
  refine wp_eq ?_
  unfold m_is_open
  rw [wp_fnD]
  unfold b_is_open
  simp [encC, eComp_wp, hl]
  rw [compGo_map (h := fun w : Nat × Nat × Nat => D.bl (decide (w.1 = place) && (decide (w.2.1 ≤ day) && decide (day ≤ w.2.2)))) trivial fun w hw => ⟨_, rfl, by simp [encW, dec_nat]⟩]
  simp [any_map_id, inW]
end
def lit (w : Str) (li : Int × Int) (b e : Int) : Bool := if w = "day" then decide (li.1 ≤ b) && decide (e ≤ li.2) else decide (w = "any") || (decide (e ≤ li.1) || decide (li.2 ≤ b))
theorem lit_ok {w : Str} {li : Int × Int} {b e : Int} {st : Store} : m_is_lit [.str w, encL li, .int b, .int e] st = .ok (.bl (lit w li b e)) st := by
  refine wp_eq ?_
  unfold m_is_lit
  rw [wp_fnD]
  unfold b_is_lit
  by_cases h : w = "day"
  · simp [h, encL, lit]
  · simp [h, encL, lit]
/-- what a scene that is shot breaks -/
def scB (f : Film) (cal : Calx) (day : Nat) (li : Int × Int) (sc : Scene) (k : Nat) (b e : Int) (done : List Nat) (rain : Bool) : Option Str :=
  if inW cal.closed sc.place day then some "closed"
  else if !(sc.cast.all fun a => !(inW cal.away a day)) then some "away"
  else if !(lit sc.light li b e) then some "light"
  else if rain && sc.dry then some "wet"
  else if !((f.orders.filter fun o => decide (o.2 = k)).all fun o => decide (o.1 ∈ done)) then some "order"
  else none
def encB (k : Nat) : Option Str → D
  | none => .non
  | some w => .tup [.str w, .int (k : Nat)]
theorem in_done {done : List Nat} {x : D} {i : Nat} {st : Store} (h : lstOf st x = some (nats done)) : inA false inD (.int (i : Nat)) x st = .ok (.bl (decide (i ∈ done))) st := by
  cases x with
  | loc n =>
    rw [inA_loc (by simpa using h)]
    exact in_nats (by simpa using h)
  | lst ds =>
    have : ds = nats done := by simpa using h
    subst this
    exact in_nats rfl
  | _ => cases h
theorem nin_done {done : List Nat} {x : D} {i : Nat} {st : Store} (h : lstOf st x = some (nats done)) : inA true ninD (.int (i : Nat)) x st = .ok (.bl !(decide (i ∈ done))) st := by
  cases x with
  | loc n =>
    rw [inA_loc (by simpa using h)]
    exact nin_nats (by simpa using h)
  | lst ds =>
    have : ds = nats done := by simpa using h
    subst this
    exact nin_nats rfl
  | _ => cases h
theorem scene_break_ok {m days : Nat} {f : Film} {cal : Calx} {day k : Nat} {li : Int × Int} {sc : Scene} {b e : Int} {done : List Nat} {dn : D} {rain : Bool} {st : Store} (hf : FilmOk m f) (hc : CalOk f.places.length f.actors.length days cal) (hli : cal.lights[day]? = some li)
    (hs : f.scenes[k]? = some sc) (hd : lstOf st dn = some (nats done)) (hm : m ≤ 60) :
    m_scene_break [encF f, encC cal, .int (day : Nat), .tup [.int (k : Nat), .int b, .int e], dn, .bl rain] st = .ok (encB k (scB f cal day li sc k b e done rain)) st := by
  refine wp_eq ?_
  unfold m_scene_break
  rw [wp_fnD]
  unfold b_scene_break
  have xF3 : ∀ st, ixA (encF f) (.int 3) st = .ok (.tup (f.orders.map encP)) st := fun st => by simp [encF]
  have xC0 : ∀ st, ixA (encC cal) (.int 0) st = .ok (.tup (cal.lights.map encL)) st := fun st => by simp [encC]
  have hso := hf.so sc (List.mem_of_getElem? hs)
  have hcl : sc.cast.length ≤ 1000000 := by
    have := hso.2.2.2.length_le
    have := hf.ac
    simp at *
    omega
  have hol : f.orders.length ≤ 1000000 := by
    have := hf.ol
    have : m * m ≤ 60 * 60 := Nat.mul_le_mul hm hm
    omega
  have e1 : ∀ st2, m_is_open [encC cal, .int (sc.place : Nat), .int (day : Nat)] st2 = .ok (.bl !(inW cal.closed sc.place day)) st2 := fun st2 => open_ok hc sc.place day
  have e3 : ∀ st2, m_is_lit [.str sc.light, encL li, .int b, .int e] st2 = .ok (.bl (lit sc.light li b e)) st2 := fun st2 => lit_ok
  unfold scB
  generalize inW cal.closed sc.place day = p1 at *
  generalize lit sc.light li b e = p3 at *
  cases p1 with
  | true => simp [ixF2, hs, encSc, e1, encB]
  | false =>
    simp [ixF2, hs, encSc, e1, encN, eComp_wp, hcl]
    rw [compGo_map (h := fun a : Nat => D.bl !(inW cal.away a day)) trivial fun a _ => ⟨_, rfl, by simp [there_ok hc]⟩]
    simp only [all_map_id, wp_ok, bind_ok, thn_ok, opt_some, all_eq, lstOf_lst, Option.bind_some]
    have eb : blsOf (sc.cast.map fun a : Nat => D.bl !(inW cal.away a day)) = some (sc.cast.map fun a : Nat => !(inW cal.away a day)) := blsOf_bls
    rw [eb]
    simp only [opt_some, Option.bind_some]
    rw [all_map_id]
    generalize (sc.cast.all fun a => !(inW cal.away a day)) = p2
    cases p2 with
    | false => simp [encB]
    | true =>
      simp [xC0, hli, e3]
      cases p3 with
      | false => simp [encB]
      | true =>
        cases rain <;> cases hdr : sc.dry
        case true.true => simp [hdr, encB]
        all_goals
          simp [hdr, xF3, eComp_wp, hol]
          rw [compGo_fmap (p := fun o : Nat × Nat => decide (o.2 = k)) (h := fun o : Nat × Nat => D.bl (decide (o.1 ∈ done))) trivial fun o _ => ⟨_, rfl, by simp [encP, dec_nat], fun _ => by simp [encP, in_done hd]⟩]
          have eb2 : blsOf ((f.orders.filter fun o => decide (o.2 = k)).map fun o : Nat × Nat => D.bl (decide (o.1 ∈ done))) = some ((f.orders.filter fun o => decide (o.2 = k)).map fun o : Nat × Nat => decide (o.1 ∈ done)) := blsOf_bls
          simp only [wp_ok, bind_ok, thn_ok, opt_some, all_eq, lstOf_lst, Option.bind_some, eb2, all_map_id]
          generalize ((f.orders.filter fun o => decide (o.2 = k)).all fun o => decide (o.1 ∈ done)) = p5
          cases p5 <;> simp [encB]
end Lk72
namespace Lk72
open PySem Dn
/-! ### rules -/
structure Rule where
  nm : Str
  who : Int
  cond : Cond
def encR (r : Rule) : D := .tup [.str r.nm, .int r.who, enc r.cond]
/-- a rule is for the actor -/
def forA (flag : Bool) (actor : Nat) (r : Rule) : Bool := (decide (r.who = -1) || decide (r.who = actor)) || (decide (r.who = -2) && flag)
theorem is_for_ok {pl sc ord mi : D} {acts : List (Str × Bool)} {st : Store} {actor : Nat} {a : Str × Bool} (who : Int) (ha : acts[actor]? = some a) :
    m_is_for [.tup [pl, .tup (acts.map encA), sc, ord, mi], .int who, .int actor] st = .ok (.bl ((decide (who = -1) || decide (who = actor)) || (decide (who = -2) && a.2))) st := by
  refine wp_eq ?_
  unfold m_is_for
  rw [wp_fnD]
  unfold b_is_for
  have e : inD (.int who) (.tup [.int (-1), .int actor]) st = .ok (.bl (decide (who = -1) || decide (who = actor))) st := by
    rw [in_flat (ds := [.int (-1), .int actor]) rfl rfl rfl]
    simp [eq_comm]
  simp [e, ha, encA]
def FilmIs (d : D) (acts : List (Str × Bool)) : Prop := ∃ pl sc ord mi, d = .tup [pl, .tup (acts.map encA), sc, ord, mi]
theorem encR_get (r : Rule) : encR r = .tup [.str r.nm, .int r.who, enc r.cond] := rfl
/-- the numbers of the rules that are broken -/
def brk (fs : List Int) (flag : Bool) (actor : Nat) (l : List (Rule × Nat)) : List D := (l.filter fun p => forA flag actor p.1 && !truth fs p.1.cond).map fun p => D.int (p.2 : Nat)
theorem broken_ok {film : D} {acts : List (Str × Bool)} {st : Store} {actor : Nat} {a : Str × Bool} {fs : List Int} {rs : List Rule} (hf : FilmIs film acts) (ha : acts[actor]? = some a) (hl : fs.length = 9) (hr : ∀ r ∈ rs, Ok r.cond ∧ dep r.cond < 8) (hn : rs.length ≤ 1000) :
    m_broken [film, .tup (rs.map encR), .int actor, .tup (fs.map .int)] st = .ok (.tup (brk fs a.2 actor rs.zipIdx)) st := by
  obtain ⟨pl, sc, ord, mi, rfl⟩ := hf
  refine wp_eq ?_
  unfold m_broken
  rw [wp_fnD]
  unfold b_broken
  simp [sFor_wp]
  have hz : rs.zipIdx.length = rs.length := by simp
  refine forGo_wp (fun l vs st1 => ∃ pre suf, rs.zipIdx = pre ++ suf ∧ l = suf.map (fun p => D.tup [.int (p.2 : Nat), encR p.1]) ∧ st1 = st ++ [some (.lst (brk fs a.2 actor pre))] ∧
    vs = [some (D.tup [pl, D.tup (List.map encA acts), sc, ord, mi]), some (D.tup (List.map encR rs)), some (D.int ↑actor), some (D.tup (List.map D.int fs)), some (D.loc (List.length st)), none, none, none, none])
    (fun _ _ _ _ => trivial) (fun d l vs st1 hI => ?_) (fun vs st1 hI => ?_) _ _ _ ⟨[], rs.zipIdx, rfl, enumP_map, rfl, rfl⟩
  · obtain ⟨pre, suf, hs, hl2, rfl, rfl⟩ := hI
    cases suf with
    | nil => cases hl2
    | cons p suf =>
      injection hl2 with h1 h2
      subst h1 h2
      obtain ⟨r, k⟩ := p
      have hm : (r, k) ∈ rs.zipIdx := by rw [hs]; simp
      obtain ⟨o1, o2⟩ := hr r (by
        have := List.mem_map_of_mem (f := Prod.fst) hm
        simpa using this)
      refine ⟨_, rfl, ?_⟩
      have hb0 : (brk fs a.2 actor pre).length ≤ pre.length := by
        unfold brk
        rw [List.length_map]
        exact List.length_filter_le _ _
      have hp : pre.length ≤ rs.length := by
        rw [← hz, hs]
        simp
      simp [is_for_ok r.who ha, holds_ok hl r.cond 8 o1 o2]
      rw [wpS_onS]
      refine ⟨fun hb => ?_, fun hb => ?_⟩
      · simp
        rw [if_pos (by omega), wp_ok]
        refine ⟨pre ++ [(r, k)], suf, by simp [hs], rfl, ?_⟩
        have e : (forA a.2 actor r && !truth fs r.cond) = true := hb
        simp [brk, e]
      · simp
        refine ⟨pre ++ [(r, k)], suf, by simp [hs], rfl, ?_⟩
        have e : (forA a.2 actor r && !truth fs r.cond) = false := hb
        simp [brk, e]
  · obtain ⟨pre, suf, hs, hl2, rfl, rfl⟩ := hI
    have e : suf = [] := by
      cases suf with
      | nil => rfl
      | cons _ _ => cases hl2
    subst e
    rw [List.append_nil] at hs
    have lb : lfs (brk fs a.2 actor pre) = true := lfs_map fun _ => by simp
    simp [lb, hs]
/-! ### the first broken rule -/
def badR (fs : List Int) (flag : Bool) (actor : Nat) (r : Rule) : Bool := forA flag actor r && !truth fs r.cond
def badAt (rs : List Rule) (fs : List Int) (flag : Bool) (actor k : Nat) : Bool := match rs[k]? with
  | some r => badR fs flag actor r
  | none => false
theorem zip_range {q : Rule → Bool} : ∀ (rs : List Rule) (n : Nat), ((rs.zipIdx n).filter fun p => q p.1).map (·.2) = ((List.range rs.length).filter fun k => match rs[k]? with | some r => q r | none => false).map (· + n)
  | [], n => rfl
  | r :: rs, n => by
    rw [List.zipIdx_cons, List.length_cons, List.range_succ_eq_map, List.filter_cons, List.filter_cons]
    have ih := zip_range (q := q) rs (n + 1)
    have e : (List.filter (fun k => match (r :: rs)[k]? with | some r => q r | none => false) (List.map Nat.succ (List.range rs.length))).map (· + n) = ((List.range rs.length).filter fun k => match rs[k]? with | some r => q r | none => false).map (· + (n + 1)) := by
      rw [List.filter_map, List.map_map]
      congr 1
      · funext k
        simp only [Function.comp, Nat.succ_eq_add_one]
        omega
    simp only [List.getElem?_cons_zero]
    by_cases h : q r = true
    · rw [if_pos h, if_pos h, List.map_cons, List.map_cons, ih, ← e, Nat.zero_add]
    · rw [if_neg h, if_neg h, ih, ← e]
theorem brk_is {fs : List Int} {flag : Bool} {actor : Nat} {rs : List Rule} : brk fs flag actor rs.zipIdx = ((List.range rs.length).filter (badAt rs fs flag actor)).map fun k => D.int ((k : Nat) : Int) := by
  have h := zip_range (q := badR fs flag actor) rs 0
  have e : brk fs flag actor rs.zipIdx = (((rs.zipIdx 0).filter fun p => badR fs flag actor p.1).map (·.2)).map fun k => D.int ((k : Nat) : Int) := by
    rw [List.map_map]
    rfl
  rw [e, h]
  simp
  rfl
theorem range_find {g : Nat → Bool} {n j : Nat} (h : ∀ a, a < j → g a = false) (hj : g j = true) (hn : j < n) : (List.range n).find? g = some j := by
  rw [List.find?_range_eq_some]
  exact ⟨hj, by simpa using hn, fun a ha => by simp [h a ha]⟩
theorem range_findN {g : Nat → Bool} {n : Nat} (h : ∀ a, a < n → g a = false) : (List.range n).find? g = none := by
  rw [List.find?_eq_none]
  intro a ha
  rw [h a (List.mem_range.mp ha)]
  decide
end Lk72
namespace Lk72
open PySem Dn
theorem range_some {β : Type} {g : Nat → Option β} {n j : Nat} {z : β} (h : ∀ a, a < j → g a = none) (hj : g j = some z) (hn : j < n) : (List.range n).findSome? g = some z := by
  obtain ⟨m, rfl⟩ : ∃ m, n = j + 1 + m := ⟨n - (j + 1), by omega⟩
  rw [List.range_add, List.findSome?_append, List.range_succ, List.findSome?_append]
  have e : (List.range j).findSome? g = none := by
    rw [List.findSome?_eq_none_iff]
    intro a ha
    exact h a (List.mem_range.mp ha)
  rw [e]
  simp [hj]
theorem range_none {β : Type} {g : Nat → Option β} {n : Nat} (h : ∀ a, a < n → g a = none) : (List.range n).findSome? g = none := by
  rw [List.findSome?_eq_none_iff]
  intro a ha
  exact h a (List.mem_range.mp ha)
def rbK (f : Film) (li : Int × Int) (rs : List Rule) (rows : List Row) (befs : List (Int × Int)) (actor : Nat) : Option Nat :=
  match f.actors[actor]?, befs[actor]? with
  | some a, some b => (match figs f li rows actor b.1 b.2 with
    | none => none
    | some fs => (List.range rs.length).find? (badAt rs fs a.2 actor))
  | _, _ => none
def ruleB (f : Film) (li : Int × Int) (rs : List Rule) (rows : List Row) (befs : List (Int × Int)) : Option (Nat × Nat) := (List.range f.actors.length).findSome? fun a => (rbK f li rs rows befs a).map fun k => (a, k)
def encRB : Option (Nat × Nat) → D
  | none => .non
  | some p => .tup [.str "rule", .int (p.1 : Nat), .int (p.2 : Nat)]
theorem lf_encRB (o : Option (Nat × Nat)) : lf (encRB o) = true := by cases o <;> simp [encRB]
theorem lf_encR (r : Rule) : lf (encR r) = true := by simp [encR, lf_enc]
theorem figs_len {f : Film} {li : Int × Int} {rows : List Row} {actor : Nat} {b0 b1 : Int} {fs : List Int} (h : figs f li rows actor b0 b1 = some fs) : fs.length = 9 := by
  unfold figs at h
  cases ho : rows.filter (mine f actor) with
  | nil => rw [ho] at h; cases h
  | cons a r =>
    rw [ho] at h
    cases h
    rfl
def BefOk (f : Film) (befs : List (Int × Int)) : Prop := befs.length = f.actors.length ∧ ∀ b ∈ befs, b.1 = -1 ∨ 0 ≤ b.1
def RulesOk (rs : List Rule) : Prop := rs.length ≤ 100 ∧ ∀ r ∈ rs, Ok r.cond ∧ dep r.cond < 8
theorem ixF1 {f : Film} {st : Store} : ixA (encF f) (.int 1) st = .ok (.tup (f.actors.map encA)) st := by simp [encF]
theorem filmIs (f : Film) : FilmIs (encF f) f.actors := ⟨_, _, _, _, rfl⟩
section
variable {m days : Nat} {f : Film} {cal : Calx} {day : Nat} {li : Int × Int} {rows : List Row} {rs : List Rule} {befs : List (Int × Int)} {st : Store}
theorem rule_break_ok (hf : FilmOk m f) (hli : cal.lights[day]? = some li) (hr : RsOk f.scenes.length rows) (hb : BefOk f befs) (hrs : RulesOk rs) :
    m_rule_break [encF f, encC cal, .tup (rs.map encR), .int (day : Nat), .tup (rows.map encRow), .tup (befs.map encL)] st = .ok (encRB (ruleB f li rs rows befs)) st := by
  refine wp_eq ?_
  unfold m_rule_break
  rw [wp_fnD]
  unfold b_rule_break
  have ha3 := hf.ac
  simp [ixF1, sFor_wp, fitR_of (i := (f.actors.length : Int)) (by omega) (by omega)]
  obtain ⟨T, hT⟩ : ∃ T, T = ruleB f li rs rows befs := ⟨_, rfl⟩
  rw [← hT]
  obtain ⟨HI, hHI⟩ : ∃ HI : List D → Vars → Store → Prop, HI = fun l vs st1 => ∃ j, l = (rng 0 f.actors.length).drop j ∧ st1 = st ∧ (∀ a, a < j → rbK f li rs rows befs a = none) ∧ vs = [some (encF f), some (encC cal), some (.tup (rs.map encR)), some (.int (day : Nat)), some (.tup (rows.map encRow)), some (.tup (befs.map encL)), none, none, none] := ⟨_, rfl⟩
  refine forGo_wp HI (fun _ _ _ _ => trivial) (fun d l vs st1 hI => ?_) (fun vs st1 hI => ?_) _ _ _ (by rw [hHI]; exact ⟨0, rfl, rfl, fun a h => by omega, rfl⟩)
  · rw [hHI] at hI
    obtain ⟨j, hj, rfl, hno, rfl⟩ := hI
    obtain ⟨hjl, rfl, rfl⟩ := rng_drop hj.symm
    rw [Int.zero_add]
    refine ⟨_, rfl, ?_⟩
    have ha : f.actors[j]? = some f.actors[j] := List.getElem?_eq_getElem hjl
    have hbj : j < befs.length := by rw [hb.1]; exact hjl
    have hbe : befs[j]? = some befs[j] := List.getElem?_eq_getElem hbj
    have hbo := hb.2 befs[j] (List.getElem_mem hbj)
    generalize f.actors[j] = a at ha
    generalize befs[j] = b at hbe hbo
    have hrb : rbK f li rs rows befs j = (match figs f li rows j b.1 b.2 with
      | none => none
      | some fs => (List.range rs.length).find? (badAt rs fs a.2 j)) := by unfold rbK; rw [ha, hbe]
    have fin : rbK f li rs rows befs j = none → HI ((rng 0 f.actors.length).drop (j + 1)) [some (encF f), some (encC cal), some (.tup (rs.map encR)), some (.int (day : Nat)), some (.tup (rows.map encRow)), some (.tup (befs.map encL)), none, none, none] st1 := fun h => by
      rw [hHI]
      refine ⟨j + 1, rfl, rfl, fun a' h' => ?_, rfl⟩
      rcases Nat.lt_succ_iff_lt_or_eq.mp h' with h2 | rfl
      · exact hno a' h2
      · exact h
    clear hHI
    unfold b_rule_break_2
    have efi : ∀ st2, m_figures_of [encF f, encC cal, .int (day : Nat), .tup (rows.map encRow), .int (j : Nat), encL b] st2 = .ok (encFig (figs f li rows j b.1 b.2)) st2 := fun st2 => figures_ok (days := 0) hf hli hr hbo
    simp [hbe, efi]
    unfold b_rule_break_3
    cases hfg : figs f li rows j b.1 b.2 with
    | none =>
      rw [hfg] at hrb
      simp [encFig]
      exact fin hrb
    | some fs =>
      rw [hfg] at hrb
      have hbr := broken_ok (film := encF f) (acts := f.actors) (st := st1) (actor := j) (a := a) (fs := fs) (rs := rs) (filmIs f) ha (figs_len hfg) hrs.2 (Nat.le_trans hrs.1 (by omega))
      rw [brk_is] at hbr
      simp only at hrb
      rw [← List.head?_filter] at hrb
      simp [encFig]
      unfold b_rule_break_4
      simp [hbr]
      unfold b_rule_break_5
      cases hfl : (List.range rs.length).filter (badAt rs fs a.2 j) with
      | nil =>
        rw [hfl] at hrb
        simp [truthB_tup]
        exact fin hrb
      | cons k ks =>
        rw [hfl] at hrb
        have hTT : T = some (j, k) := by
          rw [hT]
          unfold ruleB
          refine range_some (fun a' h' => ?_) ?_ hjl
          · rw [hno a' h']; rfl
          · rw [hrb]; rfl
        simp [truthB_tup, hTT, encRB]
  · rw [hHI] at hI
    obtain ⟨j, hj, rfl, hno, rfl⟩ := hI
    have hle := rng_end hj
    have hTT : T = none := by
      rw [hT]
      unfold ruleB
      exact range_none fun a' h' => by rw [hno a' (by omega)]; rfl
    unfold b_rule_break_7
    simp [hTT, encRB]
end
end Lk72
namespace Lk72
open PySem Dn
def rowsB (f : Film) (cal : Calx) (day : Nat) (li : Int × Int) (rain : Bool) : List Row → List Nat → Option (Str × Nat)
  | [], _ => none
  | r :: rs, done => if r.item = -1 then rowsB f cal day li rain rs done else match f.scenes[r.item.toNat]? with
    | none => none
    | some sc => match scB f cal day li sc r.item.toNat r.b r.e done rain with
      | some w => some (w, r.item.toNat)
      | none => rowsB f cal day li rain rs (done ++ [r.item.toNat])
def encRs : Option (Str × Nat) → D → D
  | some p, _ => .tup [.str p.1, .int (p.2 : Nat)]
  | none, d => d
def brAll (f : Film) (cal : Calx) (day : Nat) (li : Int × Int) (rain : Bool) (rs : List Rule) (rows : List Row) (shot : List Nat) (befs : List (Int × Int)) : D := encRs (rowsB f cal day li rain rows shot) (encRB (ruleB f li rs rows befs))
section
variable {m days : Nat} {f : Film} {cal : Calx} {day : Nat} {li : Int × Int} {rows : List Row} {rs : List Rule} {befs : List (Int × Int)} {shot : List Nat} {rain : Bool} {st : Store}
theorem rows_break_ok (hf : FilmOk m f) (hm : m ≤ 60) (hc : CalOk f.places.length f.actors.length days cal) (hli : cal.lights[day]? = some li) (hr : RsOk f.scenes.length rows) (hb : BefOk f befs) (hrs : RulesOk rs) (hsl : shot.length ≤ 1000) :
    m_rows_break [encF f, encC cal, .tup (rs.map encR), .int (day : Nat), .tup (rows.map encRow), encN shot, .tup (befs.map encL), .bl rain] st = .ok (brAll f cal day li rain rs rows shot befs) st := by
  refine wp_eq ?_
  unfold m_rows_break
  rw [wp_fnD]
  unfold b_rows_break
  have hls : ∀ st2, listD true [encN shot] st2 = .ok (.loc st2.length) (st2 ++ [some (.lst (nats shot))]) := fun st2 => rfl
  simp [-Dn.list_eq, hls]
  unfold b_rows_break_2
  simp [sFor_wp]
  unfold brAll
  obtain ⟨T, hT⟩ : ∃ T, T = rowsB f cal day li rain rows shot := ⟨_, rfl⟩
  rw [← hT]
  have hrl := hr.1
  obtain ⟨HI, hHI⟩ : ∃ HI : List D → Vars → Store → Prop, HI = fun l vs st1 => ∃ (pre suf : List Row) (done : List Nat), rows = pre ++ suf ∧ l = suf.map encRow ∧ st1 = st ++ [some (.lst (nats done))] ∧ done.length ≤ shot.length + pre.length ∧ rowsB f cal day li rain suf done = T ∧
    vs = [some (encF f), some (encC cal), some (.tup (rs.map encR)), some (.int (day : Nat)), some (.tup (rows.map encRow)), some (encN shot), some (.tup (befs.map encL)), some (.bl rain), some (.loc st.length), none, none] := ⟨_, rfl⟩
  refine forGo_wp HI (fun _ _ _ _ => trivial) (fun d l vs st1 hI => ?_) (fun vs st1 hI => ?_) _ _ _ (by rw [hHI]; exact ⟨[], rows, shot, rfl, rfl, rfl, by simp, hT.symm, rfl⟩)
  · rw [hHI] at hI
    obtain ⟨pre, suf, done, hs, hl2, rfl, hdl, hTs, rfl⟩ := hI
    cases suf with
    | nil => cases hl2
    | cons r suf =>
      injection hl2 with e1 e2
      subst e1 e2
      have hpl : pre.length + 1 ≤ rows.length := by rw [hs]; simp
      have hii : ItOk f.scenes.length r.item := hr.2 r (by rw [hs]; simp)
      refine ⟨_, rfl, ?_⟩
      have fin : ∀ done2 : List Nat, done2.length ≤ done.length + 1 → rowsB f cal day li rain suf done2 = T → HI (suf.map encRow) [some (encF f), some (encC cal), some (.tup (rs.map encR)), some (.int (day : Nat)), some (.tup (rows.map encRow)), some (encN shot), some (.tup (befs.map encL)), some (.bl rain), some (.loc st.length), none, none] (st ++ [some (.lst (nats done2))]) := fun done2 h1 h2 => by
        rw [hHI]
        exact ⟨pre ++ [r], suf, done2, by rw [hs]; simp, rfl, rfl, by simp; omega, h2, rfl⟩
      clear hHI
      have ed : d_MEAL = .int (-1) := rfl
      unfold b_rows_break_3
      by_cases hm1 : r.item = -1
      · simp [encRow, ed, hm1]
        exact fin done (by omega) (by rw [← hTs, rowsB, if_pos hm1])
      · have hn : 0 ≤ r.item ∧ r.item < f.scenes.length := hii.resolve_left hm1
        obtain ⟨k, hk⟩ : ∃ k : Nat, r.item = (k : Int) := ⟨r.item.toNat, by omega⟩
        have hkl : k < f.scenes.length := by omega
        have hsc : f.scenes[k]? = some f.scenes[k] := List.getElem?_eq_getElem hkl
        generalize f.scenes[k] = sc at hsc
        have hk1 : ¬ ((k : Int) = -1) := by omega
        have hsb := scene_break_ok (st := st ++ [some (.lst (nats done))]) (day := day) (k := k) (li := li) (sc := sc) (b := r.b) (e := r.e) (done := done) (dn := .loc st.length) (rain := rain) hf hc hli hsc (by simp) hm
        have hrB : rowsB f cal day li rain (r :: suf) done = (match scB f cal day li sc k r.b r.e done rain with
          | some w => some (w, k)
          | none => rowsB f cal day li rain suf (done ++ [k])) := by
          rw [rowsB, if_neg hm1, hk]
          simp [hsc]
        rw [hrB] at hTs
        simp [encRow, ed, hk, hk1]
        unfold b_rows_break_4
        simp [hsb]
        unfold b_rows_break_5
        cases hsB : scB f cal day li sc k r.b r.e done rain with
        | some w =>
          rw [hsB] at hTs
          simp only at hTs
          simp [encB, ← hTs, encRs]
        | none =>
          rw [hsB] at hTs
          simp only at hTs
          simp [encB]
          unfold b_rows_break_7
          simp
          rw [if_pos (by first | omega | (simp [nats]; omega)), wp_ok, wpS_nx]
          have := fin (done ++ [k]) (by simp) hTs
          simpa [nats] using this
  · rw [hHI] at hI
    obtain ⟨pre, suf, done, hs, hl2, rfl, hdl, hTs, rfl⟩ := hI
    have e : suf = [] := by
      cases suf with
      | nil => rfl
      | cons _ _ => cases hl2
    subst e
    have hTT : T = none := by rw [← hTs]; rfl
    unfold b_rows_break_8
    have hrb := rule_break_ok (st := st ++ [some (.lst (nats done))]) (day := day) (li := li) (rows := rows) (rs := rs) (befs := befs) hf hli hr hb hrs
    simp [hrb, lf_encRB, hTT, encRs]
end
end Lk72
namespace Lk72
open PySem Dn
/-- what holds of the hours so far -/
structure HsOk (n : Nat) (s : HS) (k : Nat) : Prop where
  len : s.rows.length ≤ k
  it : ∀ r ∈ s.rows, ItOk n r.item
  be : ∀ r ∈ s.rows, (0 ≤ r.b ∧ r.b ≤ r.e) ∧ r.e ≤ s.clock
  pw : s.rows.Pairwise fun r q => r.e ≤ q.b
  ck : 0 ≤ s.clock
theorem HsOk.snoc {n k : Nat} {s : HS} {i b e : Int} {pl : Option Nat} {fl : List Int} (h : HsOk n s k) (hi : ItOk n i) (h1 : s.clock ≤ b) (h2 : b ≤ e) : HsOk n ⟨e, pl, s.rows ++ [⟨i, b, e⟩], fl⟩ (k + 1) := by
  have h0 := h.ck
  refine HsOk.mk (by simp; exact h.len) (fun r hr => ?_) (fun r hr => ?_) ?_ (by show 0 ≤ e; omega)
  · rcases List.mem_append.mp hr with hr | hr
    · exact h.it r hr
    · rw [List.mem_singleton] at hr
      subst hr
      exact hi
  · rcases List.mem_append.mp hr with hr | hr
    · have := h.be r hr
      exact ⟨this.1, by show r.e ≤ e; omega⟩
    · rw [List.mem_singleton] at hr
      subst hr
      exact ⟨⟨by show 0 ≤ b; omega, h2⟩, Int.le_refl _⟩
  · show List.Pairwise (fun r q : Row => r.e ≤ q.b) (s.rows ++ [(⟨i, b, e⟩ : Row)])
    rw [List.pairwise_append]
    refine And.intro h.pw (And.intro (List.pairwise_singleton _ _) fun r hr q hq => ?_)
    rw [List.mem_singleton] at hq
    subst hq
    have := (h.be r hr).2
    show r.e ≤ b
    omega
theorem stepH_ok {m n k : Nat} {f : Film} {shot : List Nat} {who : Int} {s : HS} {i : Int} (hf : FilmOk m f) (h : HsOk f.scenes.length s k) (hi : ItOk f.scenes.length i) : HsOk f.scenes.length (stepH f shot who s i) (k + 1) := by
  have up : HsOk f.scenes.length s (k + 1) := ⟨Nat.le_succ_of_le h.len, h.it, h.be, h.pw, h.ck⟩
  have hmi := hf.mi
  unfold stepH
  split
  · exact h.snoc (.inl rfl) (Int.le_refl _) (by omega)
  · split
    · exact up
    · split
      · exact up
      · rename_i sc hsc
        have hso := hf.so sc (List.mem_of_getElem? hsc)
        split
        · exact ⟨up.len, up.it, up.be, up.pw, up.ck⟩
        · have hmv : s.clock ≤ moved f s sc.place := by
            unfold moved
            split <;> omega
          have := hso.2.2.1
          exact h.snoc hi hmv (by omega)
theorem foldH_ok {m : Nat} {f : Film} {shot : List Nat} {who : Int} (hf : FilmOk m f) : ∀ (its : List Int) (s : HS) (k : Nat), HsOk f.scenes.length s k → (∀ i ∈ its, ItOk f.scenes.length i) → HsOk f.scenes.length (its.foldl (stepH f shot who) s) (k + its.length)
  | [], s, k, h, _ => h
  | i :: its, s, k, h, hi => by
    have := foldH_ok (shot := shot) (who := who) hf its (stepH f shot who s i) (k + 1) (stepH_ok (n := 0) hf h (hi i List.mem_cons_self)) fun j hj => hi j (List.mem_cons_of_mem _ hj)
    rw [List.foldl_cons, List.length_cons]
    rw [show k + (its.length + 1) = k + 1 + its.length by omega]
    exact this
theorem hrs_ok {m : Nat} {f : Film} {shot : List Nat} {who call : Int} {its : List Int} (hf : FilmOk m f) (hc : 0 ≤ call) (hi : RowsOk f.scenes.length its) : RsOk f.scenes.length (hrs f shot who call its).rows ∧ RowsG (hrs f shot who call its).rows := by
  have h := foldH_ok (shot := shot) (who := who) hf its ⟨call, none, [], []⟩ 0 ⟨by simp, by simp, by simp, .nil, hc⟩ hi.2
  refine ⟨⟨?_, h.it⟩, fun r hr => (h.be r hr).1, h.pw⟩
  have := h.len
  have := hi.1
  show (its.foldl (stepH f shot who) ⟨call, none, [], []⟩).rows.length ≤ 100
  omega
theorem its_ok {n : Nat} {w : Str} {a b : List Int} (ha : RowsOk n a) (hb : RowsOk n b) : RowsOk n (itsOfSheet w a b) := by
  unfold itsOfSheet
  split
  · exact hb
  · exact ha
theorem scB_str {f : Film} {cal : Calx} {day : Nat} {li : Int × Int} {sc : Scene} {k : Nat} {b e : Int} {done : List Nat} {rain : Bool} {w : Str} (h : scB f cal day li sc k b e done rain = some w) : PyData.strOk w = true := by
  unfold scB at h
  split at h
  · cases h; decide +kernel
  · split at h
    · cases h; decide +kernel
    · split at h
      · cases h; decide +kernel
      · split at h
        · cases h; decide +kernel
        · split at h
          · cases h; decide +kernel
          · cases h
theorem rowsB_str {f : Film} {cal : Calx} {day : Nat} {li : Int × Int} {rain : Bool} {p : Str × Nat} : ∀ {rows : List Row} {done : List Nat}, rowsB f cal day li rain rows done = some p → PyData.strOk p.1 = true
  | [], _, h => by cases h
  | r :: rs, done, h => by
    rw [rowsB] at h
    split at h
    · exact rowsB_str h
    · split at h
      · cases h
      · split at h
        · rename_i w hw
          cases h
          exact scB_str hw
        · exact rowsB_str h
theorem okd_br {f : Film} {cal : Calx} {day : Nat} {li : Int × Int} {rain : Bool} {rs : List Rule} {rows : List Row} {shot : List Nat} {befs : List (Int × Int)} : okd 60 (brAll f cal day li rain rs rows shot befs) = true := by
  unfold brAll
  cases h : rowsB f cal day li rain rows shot with
  | some p =>
    have hs := rowsB_str h
    simp [encRs, okd, hs]
  | none =>
    cases ruleB f li rs rows befs with
    | none => simp [encRs, encRB, okd]
    | some p =>
      have : PyData.strOk (Str.ofString "rule") = true := by decide +kernel
      simp [encRs, encRB, okd, this]
end Lk72
namespace Lk72
open PySem Dn
/-! ### fees -/
abbrev Fee := Int × List (Int × Int)
def encFee (f : Fee) : D := .tup [.int f.1, .tup (f.2.map encL)]
def add1 (span : Int) (t : Int) (s : Int × Int) : Int := t + (if span > s.1 then s.2 * ((span - s.1 + 30 - 1) / 30) else 0)
def cost (f : Fee) (span : Int) : Int := f.2.foldl (add1 span) f.1
def FeeOk (f : Fee) : Prop := f.2.length ≤ 100 ∧ ∀ s ∈ f.2, 0 ≤ s.2 ∧ s.2 ≤ 99999
theorem lf_encFee (f : Fee) : lf (encFee f) = true := by simp [encFee, lfs_map lf_encL]
theorem day_cost_ok {f : Fee} {span : Int} {st : Store} (hf : FeeOk f) : m_day_cost [encFee f, .int span] st = .ok (.int (cost f span)) st := by
  refine wp_eq ?_
  unfold m_day_cost
  rw [wp_fnD]
  unfold b_day_cost
  simp [encFee, sFor_wp]
  refine forGo_wp (fun l vs st1 => ∃ pre suf, f.2 = pre ++ suf ∧ l = suf.map encL ∧ st1 = st ∧ vs = [some (.tup [.int f.1, .tup (f.2.map encL)]), some (.int span), some (.int (pre.foldl (add1 span) f.1)), none, none])
    (fun _ _ _ _ => trivial) (fun d l vs st1 hI => ?_) (fun vs st1 hI => ?_) _ _ _ ⟨[], f.2, rfl, rfl, rfl, rfl⟩
  · obtain ⟨pre, suf, hs, hl2, hst, rfl⟩ := hI
    cases suf with
    | nil => cases hl2
    | cons s suf =>
      injection hl2 with h1 h2
      subst h1 h2
      obtain ⟨b1, b2⟩ := hf.2 s (by rw [hs]; simp)
      refine ⟨_, rfl, ?_⟩
      have ef : (pre ++ [s]).foldl (add1 span) f.1 = add1 span (pre.foldl (add1 span) f.1) s := by rw [List.foldl_append]; rfl
      have ed : d_HALF_HOUR = .int 30 := rfl
      by_cases hc : s.1 < span
      · simp [encL, hc, ed, -Dn.mul_int]
        rw [mul_int, if_pos (.inl ⟨by omega, by omega⟩)]
        simp
        refine ⟨pre ++ [s], suf, by rw [hs]; simp, rfl, hst, ?_⟩
        rw [ef]
        simp [add1, hc]
      · simp [encL, hc]
        refine ⟨pre ++ [s], suf, by rw [hs]; simp, rfl, hst, ?_⟩
        rw [ef]
        simp [add1, hc]
  · obtain ⟨pre, suf, hs, hl2, hst, rfl⟩ := hI
    have e : suf = [] := by
      cases suf with
      | nil => rfl
      | cons _ _ => cases hl2
    subst e hst
    rw [List.append_nil] at hs
    simp [cost, hs]
def IsInt (y : D) : Prop := ∃ i : Int, y = .int i
def IsStep (y : D) : Prop := ∃ s : Int × Int, y = encL s ∧ 0 ≤ s.2 ∧ s.2 ≤ 99999
end Lk72
namespace Lk72
open PySem Dn
/-! ### what is shot -/
def newS (rows : List Row) : List Nat := (rows.filter fun r => decide (r.item ≠ -1)).map fun r => r.item.toNat
theorem hrs_items {f : Film} {shot : List Nat} {who : Int} : ∀ (its : List Int) (s : HS), ∃ l' : List Int, l'.Sublist its ∧ (its.foldl (stepH f shot who) s).rows.map (·.item) = s.rows.map (·.item) ++ l' ∧ ∀ x ∈ l', x = -1 ∨ x.toNat ∉ shot
  | [], s => ⟨[], .slnil, by simp, by simp⟩
  | i :: its, s => by
    obtain ⟨l', h1, h2, h3⟩ := hrs_items (f := f) (shot := shot) (who := who) its (stepH f shot who s i)
    rw [List.foldl_cons]
    have k : (stepH f shot who s i).rows = s.rows ∨ ((stepH f shot who s i).rows.map (·.item) = s.rows.map (·.item) ++ [i] ∧ (i = -1 ∨ i.toNat ∉ shot)) := by
      unfold stepH
      split
      · rename_i hi
        subst hi
        exact .inr ⟨by simp, .inl rfl⟩
      · split
        · exact .inl rfl
        · rename_i hn
          split
          · exact .inl rfl
          · split
            · exact .inl rfl
            · exact .inr ⟨by simp, .inr hn⟩
    rcases k with k | ⟨k, k2⟩
    · exact ⟨l', h1.cons _, by rw [h2, k], h3⟩
    · refine ⟨i :: l', h1.cons₂ _, by rw [h2, k, List.append_assoc]; rfl, fun x hx => ?_⟩
      rcases List.mem_cons.mp hx with rfl | hx
      · exact k2
      · exact h3 x hx
theorem newS_ok {f : Film} {shot : List Nat} {who call : Int} {its : List Int} {n : Nat} (hd : Dis its) (hr : RowsOk n its) :
    (newS (hrs f shot who call its).rows).Nodup ∧ (∀ k ∈ newS (hrs f shot who call its).rows, k < n ∧ k ∉ shot) ∧ (newS (hrs f shot who call its).rows).length ≤ 100 := by
  obtain ⟨l', h1, h2, h3⟩ := hrs_items (f := f) (shot := shot) (who := who) its ⟨call, none, [], []⟩
  have e : (hrs f shot who call its).rows.map (·.item) = l' := h2
  have e2 : newS (hrs f shot who call its).rows = (l'.filter fun x => decide (x ≠ -1)).map Int.toNat := by
    rw [← e, List.filter_map, List.map_map]
    rfl
  have hs : (l'.filter fun x => decide (x ≠ -1)).Sublist (its.filter fun x => decide (x ≠ -1)) := h1.filter _
  have hp : ∀ x ∈ l'.filter fun x => decide (x ≠ -1), 0 ≤ x ∧ x < n ∧ x.toNat ∉ shot := fun x hx => by
    obtain ⟨m1, m2⟩ := List.mem_filter.mp hx
    have m3 : x ≠ -1 := of_decide_eq_true m2
    rcases hr.2 x (h1.subset m1) with m | m
    · exact absurd m m3
    · rcases h3 x m1 with q | q
      · exact absurd q m3
      · exact ⟨m.1, m.2, q⟩
  rw [e2]
  refine ⟨?_, fun k hk => ?_, ?_⟩
  · have nd : (l'.filter fun x => decide (x ≠ -1)).Nodup := List.Pairwise.sublist hs hd
    rw [List.Nodup, List.pairwise_map]
    refine List.Pairwise.imp_of_mem (fun {a b} ha hb hab hc => hab ?_) nd
    have := (hp a ha).1
    have := (hp b hb).1
    omega
  · obtain ⟨x, hx, rfl⟩ := List.mem_map.mp hk
    have := hp x hx
    exact ⟨by omega, this.2.2⟩
  · rw [List.length_map]
    have := (h1.filter fun x => decide (x ≠ -1)).length_le
    have := List.length_filter_le (fun x : Int => decide (x ≠ -1)) its
    have := hr.1
    omega
/-! ### what is shot behind a step -/
def after (shot : List Nat) (rows : List Row) : List Nat := (shot ++ newS rows).mergeSort fun a b => decide (a ≤ b)
def left (n : Nat) (l : List Nat) : List Nat := (List.range n).filter fun k => !(decide (k ∈ l))
structure ShotOk (n : Nat) (l : List Nat) : Prop where
  nd : l.Nodup
  lt : ∀ k ∈ l, k < n
theorem ShotOk.len {n : Nat} {l : List Nat} (h : ShotOk n l) : l.length ≤ n := by
  have := h.nd.length_le_of_subset (l₂ := List.range n) fun k hk => List.mem_range.mpr (h.lt k hk)
  simpa using this
theorem after_ok {n : Nat} {shot : List Nat} {rows : List Row} (h : ShotOk n shot) (h1 : (newS rows).Nodup) (h2 : ∀ k ∈ newS rows, k < n ∧ k ∉ shot) : ShotOk n (after shot rows) := by
  have p := List.mergeSort_perm (shot ++ newS rows) fun a b => decide (a ≤ b)
  refine ⟨(p.nodup_iff).mpr (List.nodup_append.mpr ⟨h.nd, h1, fun a ha b hb e => ?_⟩), fun k hk => ?_⟩
  · subst e
    exact (h2 a hb).2 ha
  · rcases List.mem_append.mp (p.mem_iff.mp hk) with hk | hk
    · exact h.lt k hk
    · exact (h2 k hk).1
theorem left_iff {n : Nat} {l : List Nat} (h : ShotOk n l) : l.length < n ↔ left n l ≠ [] := by
  constructor
  · intro hl he
    have : ∀ k ∈ List.range n, k ∈ l := fun k hk => by
      by_cases hm : k ∈ l
      · exact hm
      · have : k ∈ left n l := List.mem_filter.mpr ⟨hk, by simp [hm]⟩
        rw [he] at this
        cases this
    have := (List.nodup_range (n := n)).length_le_of_subset this
    rw [List.length_range] at this
    omega
  · intro hl
    obtain ⟨k, r, e⟩ := List.exists_cons_of_ne_nil hl
    have hk : k ∈ left n l := by rw [e]; simp
    obtain ⟨k1, k2⟩ := List.mem_filter.mp hk
    have k3 : k ∉ l := by simpa using k2
    have nd : (k :: l).Nodup := List.nodup_cons.mpr ⟨k3, h.nd⟩
    have := nd.length_le_of_subset (l₂ := List.range n) fun j hj => by
      rcases List.mem_cons.mp hj with rfl | hj
      · exact k1
      · exact List.mem_range.mpr (h.lt j hj)
    rw [List.length_cons, List.length_range] at this
    omega
theorem left_srt {n : Nat} {l : List Nat} : (left n l).Pairwise (· < ·) := List.Pairwise.sublist List.filter_sublist List.pairwise_lt_range
/-! ### sorting numbers -/
theorem leDt_nat {a b : Nat} : leDt (.int (a : Nat)) (.int (b : Nat)) = decide (a ≤ b) := by
  rw [leDt_is]
  show (!PyProof.Rows.lexLt PyProof.Rows.itemOrd [Sum.inl (b : Int)] [Sum.inl (a : Int)]) = _
  rw [PyProof.Rows.lex_cons]
  show (!(decide ((b : Int) < a) || (!decide ((a : Int) < b) && false))) = _
  by_cases h : a ≤ b
  · simp [h] <;> omega
  · simp [h] <;> omega
theorem sort_nats (l : List Nat) : (nats l).mergeSort leDt = nats (l.mergeSort fun a b => decide (a ≤ b)) := by
  unfold nats
  exact (List.map_mergeSort (f := fun k : Nat => D.int (k : Nat)) (r := fun a b => decide (a ≤ b)) (s := leDt) fun a _ b _ => leDt_nat.symm).symm
theorem srt_nats (l : List Nat) : srtOk (nats l) = true := by
  have := srt_ints (l.map fun k : Nat => (k : Int))
  rw [List.map_map] at this
  exact this
theorem min_left {k : Nat} {r : List Nat} (h : ∀ j ∈ r, k ≤ j) : minI ((k :: r).map fun x : Nat => (x : Int)) = k := by
  refine (min_uniq (by simp) fun y hy => ?_).symm
  obtain ⟨j, hj, rfl⟩ := List.mem_map.mp hy
  rcases List.mem_cons.mp hj with rfl | hj
  · exact Int.le_refl _
  · have := h j hj
    omega
end Lk72
namespace Lk72
open PySem Dn
/-! ### cases -/
structure Sheet where
  call : Int
  dry : List Int
  wet : List Int
def encS (s : Sheet) : D := encSh s.call s.dry s.wet
def ShOk (n : Nat) (s : Sheet) : Prop := 0 ≤ s.call ∧ (RowsOk n s.dry ∧ RowsOk n s.wet) ∧ Dis s.dry ∧ Dis s.wet
structure Case where
  film : Film
  cal : Calx
  rules : List Rule
  menu : List (List Sheet)
  b0 : Int
  b1 : Int
  b2 : Int
  b3 : Int
  fees : List Fee
def encM (l : List Sheet) : D := .tup (l.map encS)
def encK (k : Case) : D := .tup [encF k.film, encC k.cal, .tup (k.rules.map encR), .tup (k.menu.map encM), .tup [.int k.b0, .int k.b1, .int k.b2, .int k.b3], .tup (k.fees.map encFee)]
structure CaseOk (m : Nat) (k : Case) : Prop where
  film : FilmOk m k.film
  mm : m ≤ 60
  days : 1 ≤ k.cal.lights.length ∧ k.cal.lights.length ≤ 60
  cal : CalOk k.film.places.length k.film.actors.length k.cal.lights.length k.cal
  rules : RulesOk k.rules
  menu : k.menu.length = k.cal.lights.length
  sheets : ∀ l ∈ k.menu, (1 ≤ l.length ∧ l.length ≤ 60) ∧ ∀ s ∈ l, ShOk k.film.scenes.length s
  bounds : (0 ≤ k.b0 ∧ 0 ≤ k.b1 ∧ 0 ≤ k.b2) ∧ 0 < k.b3
  feel : k.fees.length = k.film.actors.length
  fees : ∀ x ∈ k.fees, FeeOk x
theorem lf_encS (s : Sheet) : lf (encS s) = true := by simp [encS, encSh, lfs_ints]
theorem lf_encM (l : List Sheet) : lf (encM l) = true := by simp [encM, lfs_map lf_encS]
theorem lf_encK (k : Case) : lf (encK k) = true := by simp [encK, lf_encF, lf_encC, lfs_map lf_encR, lfs_map lf_encM, lfs_map lf_encFee]
def IsSh (n : Nat) (y : D) : Prop := ∃ s, y = encS s ∧ ShOk n s
def IsM (n : Nat) (y : D) : Prop := ∃ l, y = encM l ∧ (1 ≤ l.length ∧ l.length ≤ 60) ∧ ∀ s ∈ l, ShOk n s
end Lk72
namespace Lk72
open PySem Dn
/-! ### loops that gather -/
theorem forGo_acc {α : Type} {f : α → D} {gl : α → List D} {T : Store} {g : TM} {b : SM} {fg : List Nat} {gd : Store → Prop} {vs : Vars} {B : Nat} {P : Po} (hg : ∀ st, gd st) : ∀ (xs : List α) (acc : List D),
    (∀ x ∈ xs, ∀ acc : List D, acc.length + (gl x).length ≤ B → ∃ vs1, g (f x) vs = some vs1 ∧ wpS (b vs1 (T ++ [some (.lst acc)])) ⟨fun vs2 st2 => drp fg vs2 = vs ∧ st2 = T ++ [some (.lst (acc ++ gl x))], fun _ _ => False, fun _ _ => False, fun _ _ => False⟩) →
    acc.length + (xs.flatMap gl).length ≤ B → P.n vs (T ++ [some (.lst (acc ++ xs.flatMap gl))]) → wpS (forGo g b fg gd (xs.map f) vs (T ++ [some (.lst acc)])) P
  | [], acc, _, _, p => by
    rw [List.map_nil, forGo_nil (hg _), wpS_nx]
    simpa using p
  | x :: xs, acc, hb, hB, p => by
    rw [List.flatMap_cons, List.length_append] at hB
    obtain ⟨vs1, e1, w⟩ := hb x List.mem_cons_self acc (by omega)
    rw [List.map_cons, forGo, if_pos (hg _), e1]
    simp only
    cases hr : b vs1 (T ++ [some (.lst acc)]) with
    | nx vs2 st2 =>
      rw [hr] at w
      obtain ⟨h1, h2⟩ := w.of
      subst h2
      simp only [h1]
      refine forGo_acc hg xs _ (fun y hy => hb y (List.mem_cons_of_mem _ hy)) (by rw [List.length_append]; omega) ?_
      rw [List.append_assoc]
      rw [List.flatMap_cons] at p
      exact p
    | ct vs2 st2 => rw [hr] at w; exact w.of.elim
    | brk vs2 st2 => rw [hr] at w; exact w.of.elim
    | ret d2 st2 => rw [hr] at w; exact w.of.elim
    | bad => rw [hr] at w; exact w.of.elim
    | exc e vs2 st2 => rw [hr] at w; exact w.of.elim
/-! ### stands, and what nature chooses -/
structure Nt where
  rain : Bool
  ill : Int
  late : Int
def wS (b : Bool) : Str := if b then "rain" else "dry"
def encNt (n : Nt) : D := .tup [.str (wS n.rain), .int n.ill, .int n.late]
def b2i (b : Bool) : Int := if b then 1 else 0
def u0 (n : Nt) : Int := b2i n.rain
def u1 (n : Nt) : Int := b2i (decide (0 ≤ n.ill))
def u2 (n : Nt) : Int := b2i (decide (0 < n.late))
def encU (a b c : Int) : D := .tup [.int a, .int b, .int c]
structure Std where
  day : Nat
  shot : List Nat
  befs : List (Int × Int)
  x0 : Int
  x1 : Int
  x2 : Int
def encSt (s : Std) : D := .tup [.int (s.day : Nat), encN s.shot, .tup (s.befs.map encL), encU s.x0 s.x1 s.x2]
theorem lf_encNt (n : Nt) : lf (encNt n) = true := by simp [encNt]
theorem lf_encSt (s : Std) : lf (encSt s) = true := by simp [encSt, encU, lf_encN, lfs_map lf_encL]
theorem wS_rain (b : Bool) : decide (wS b = "rain") = b := by cases b <;> simp [wS]
theorem wS_eq (b : Bool) : (wS b = "rain") = (b = true) := by cases b <;> simp [wS]
theorem intD_bl {b : Bool} {st : Store} : intD [.bl b] st = .ok (.int (b2i b)) st := rfl
theorem used_by_ok {n : Nt} {st : Store} : m_used_by [encNt n] st = .ok (encU (u0 n) (u1 n) (u2 n)) st := by
  refine wp_eq ?_
  unfold m_used_by
  rw [wp_fnD]
  unfold b_used_by
  simp [encNt, intD_bl, wS_rain]
  rfl
def may (k : Case) (s : Std) (n : Nt) : Bool := decide (s.x0 + u0 n ≤ k.b0) && (decide (s.x1 + u1 n ≤ k.b1) && decide (s.x2 + u2 n ≤ k.b2))
def Adm (k : Case) (n : Nt) : Prop := (-1 ≤ n.ill ∧ n.ill < k.film.actors.length) ∧ (n.late = 0 ∨ n.late = k.b3)
def mayB (k : Case) (s : Std) (n : Nt) (i : Nat) : Bool := match i with
  | 0 => decide (s.x0 + u0 n ≤ k.b0)
  | 1 => decide (s.x1 + u1 n ≤ k.b1)
  | _ => decide (s.x2 + u2 n ≤ k.b2)
theorem rng3 : rng 0 3 = [0, 1, 2].map fun k : Nat => D.int (k : Nat) := rfl
theorem ixK0 {k : Case} {st : Store} : ixA (encK k) (.int 0) st = .ok (encF k.film) st := by simp [encK]
theorem ixK1 {k : Case} {st : Store} : ixA (encK k) (.int 1) st = .ok (encC k.cal) st := by simp [encK]
theorem ixK3 {k : Case} {st : Store} : ixA (encK k) (.int 3) st = .ok (.tup (k.menu.map encM)) st := by simp [encK]
theorem ixK4 {k : Case} {st : Store} : ixA (encK k) (.int 4) st = .ok (.tup [.int k.b0, .int k.b1, .int k.b2, .int k.b3]) st := by simp [encK]
theorem ixS0 {s : Std} {st : Store} : ixA (encSt s) (.int 0) st = .ok (.int (s.day : Nat)) st := by simp [encSt]
theorem ixS1 {s : Std} {st : Store} : ixA (encSt s) (.int 1) st = .ok (encN s.shot) st := by simp [encSt]
theorem ixS2 {s : Std} {st : Store} : ixA (encSt s) (.int 2) st = .ok (.tup (s.befs.map encL)) st := by simp [encSt]
theorem ixS3 {s : Std} {st : Store} : ixA (encSt s) (.int 3) st = .ok (encU s.x0 s.x1 s.x2) st := by simp [encSt]
theorem ixC0 {c : Calx} {st : Store} : ixA (encC c) (.int 0) st = .ok (.tup (c.lights.map encL)) st := by simp [encC]
theorem may_choose_ok {k : Case} {s : Std} {n : Nt} {st : Store} (hn : Adm k n) : m_may_choose [encK k, encSt s, encNt n] st = .ok (.bl (may k s n)) st := by
  obtain ⟨⟨h1, h2⟩, h3⟩ := hn
  refine wp_eq ?_
  unfold m_may_choose
  rw [wp_fnD]
  unfold b_may_choose
  have hu := fun st2 => used_by_ok (n := n) (st := st2)
  have hw : ∀ st2, ninD (.str (wS n.rain)) (.tup [.str "dry", .str "rain"]) st2 = .ok (.bl false) st2 := fun st2 => by
    rw [nin_flat (ds := [.str "dry", .str "rain"]) (by simp) (by simp) rfl]
    cases n.rain <;> simp [wS]
  have hl : ∀ st2, ninD (.int n.late) (.tup [.int 0, .int k.b3]) st2 = .ok (.bl false) st2 := fun st2 => by
    rw [nin_flat (ds := [.int 0, .int k.b3]) (by simp) (by simp) rfl]
    rcases h3 with h3 | h3 <;> simp [h3]
  have hg : ∀ vs : Vars, gT [gN 4, gN 5, gN 6] (encNt n) vs = some (((vs.set 4 (some (.str (wS n.rain)))).set 5 (some (.int n.ill))).set 6 (some (.int n.late))) := fun vs => rfl
  simp [ixK4, hg, hw, hl, ixK0, ixF1, h1, h2]
  simp [hu, eComp_wp, rng3, fitR_of (i := 3) (by omega) (by omega)]
  rw [show ([D.int 0, D.int 1, D.int 2] : List D) = [0, 1, 2].map fun k : Nat => D.int (k : Nat) from rfl]
  rw [compGo_map (h := fun i => .bl (mayB k s n i)) trivial fun x hx => ⟨_, rfl, by
    simp at hx
    rcases hx with rfl | rfl | rfl <;> simp [ixS3, encU, mayB]⟩]
  simp [mayB]
  rfl
end Lk72
namespace Lk72
open PySem Dn
/-! ### what nature may choose at a stand -/
def c3 (k : Case) (w : Bool) (i : Int) : List Nt := [0, k.b3].map fun l => ⟨w, i, l⟩
def c2 (k : Case) (w : Bool) : List Nt := (List.range (k.film.actors.length + 1)).flatMap fun j : Nat => c3 k w (-1 + (j : Int))
def c1 (k : Case) : List Nt := [false, true].flatMap fun w => c2 k w
def cands (k : Case) (s : Std) : List Nt := (c1 k).filter (may k s)
theorem c1_adm {k : Case} {n : Nt} (h : n ∈ c1 k) : Adm k n := by
  unfold c1 c2 c3 at h
  simp only [List.mem_flatMap, List.mem_map, List.mem_range] at h
  obtain ⟨w, _, j, hj, l, hl, rfl⟩ := h
  refine ⟨⟨by show -1 ≤ -1 + (j : Int); omega, by show -1 + (j : Int) < _; omega⟩, ?_⟩
  simp at hl
  exact hl
theorem c2_len {k : Case} {w : Bool} : (c2 k w).length = (k.film.actors.length + 1) * 2 := by
  have : ∀ (l : List Nat), (l.flatMap fun j : Nat => c3 k w (-1 + (j : Int))).length = l.length * 2 := fun l => by
    induction l with
    | nil => rfl
    | cons a l ih => rw [List.flatMap_cons, List.length_append, ih, List.length_cons]; show 2 + _ = _; omega
  unfold c2
  rw [this, List.length_range]
def uS (n : Nt) : Int := u0 n + (u1 n + u2 n)
def encKey (n : Nt) : D := .tup [.int (uS n), encNt n]
def encFlat (n : Nt) : D := .tup [.int (uS n), .str (wS n.rain), .int n.ill, .int n.late]
def leN (a b : Nt) : Bool := leDt (encKey a) (encKey b)
def nats' (k : Case) (s : Std) : List Nt := (cands k s).mergeSort leN
theorem flat_le (a b : Nt) : leN a b = leDt (encFlat a) (encFlat b) := by
  unfold leN
  rw [leDt_is, leDt_is]
  exact congrArg (!·) rfl
theorem sort_key (l : List Nt) : (l.map encKey).mergeSort leDt = (l.mergeSort leN).map encKey := (List.map_mergeSort (f := encKey) (r := leN) (s := leDt) fun a _ b _ => rfl).symm
theorem sort_flat (l : List Nt) : (l.map encFlat).mergeSort leDt = (l.mergeSort leN).map encFlat := (List.map_mergeSort (f := encFlat) (r := leN) (s := leDt) fun a _ b _ => flat_le a b).symm
theorem okd_wS {n : Nat} {b : Bool} : okd n (.str (wS b)) = true := okd_str (by cases b <;> decide +kernel)
theorem okd_nt {n : Nat} {x : Nt} : okd (n + 1) (encNt x) = true := okd_tup fun d hd => by
  simp at hd
  rcases hd with rfl | rfl | rfl
  · exact okd_wS
  · exact okd_int
  · exact okd_int
theorem srt_key (l : List Nt) : srtOk (l.map encKey) = true := by
  unfold srtOk likes
  simp only [Bool.and_eq_true, Bool.or_eq_true]
  refine ⟨List.all_eq_true.mpr (okd_map fun x _ => okd_tup (n := 39) fun d hd => ?_), List.all_eq_true.mpr fun x hx => List.all_eq_true.mpr fun y hy => ?_, .inl (List.all_eq_true.mpr fun x hx => ?_)⟩
  · simp at hd
    rcases hd with rfl | rfl
    · exact okd_int
    · exact okd_nt (n := 38)
  · rw [List.map_map] at hx hy
    obtain ⟨a, _, rfl⟩ := List.mem_map.mp hx
    obtain ⟨b, _, rfl⟩ := List.mem_map.mp hy
    rfl
  · rw [List.map_map] at hx
    obtain ⟨a, _, rfl⟩ := List.mem_map.mp hx
    rfl
theorem srt_flat (l : List Nt) : srtOk (l.map encFlat) = true := by
  unfold srtOk likes
  simp only [Bool.and_eq_true, Bool.or_eq_true]
  refine ⟨List.all_eq_true.mpr (okd_map fun x _ => okd_tup (n := 39) fun d hd => ?_), List.all_eq_true.mpr fun x hx => List.all_eq_true.mpr fun y hy => ?_, .inl (List.all_eq_true.mpr fun x hx => ?_)⟩
  · simp at hd
    rcases hd with rfl | rfl | rfl | rfl
    · exact okd_int
    · exact okd_wS
    · exact okd_int
    · exact okd_int
  · rw [List.map_map] at hx hy
    obtain ⟨a, _, rfl⟩ := List.mem_map.mp hx
    obtain ⟨b, _, rfl⟩ := List.mem_map.mp hy
    rfl
  · rw [List.map_map] at hx
    obtain ⟨a, _, rfl⟩ := List.mem_map.mp hx
    rfl
theorem cands_len {m : Nat} {k : Case} {s : Std} (hf : FilmOk m k.film) : (cands k s).length ≤ 100 := by
  have h1 := hf.ac
  have : (c1 k).length = (k.film.actors.length + 1) * 2 + (k.film.actors.length + 1) * 2 := by
    show (c2 k false ++ (c2 k true ++ [])).length = _
    rw [List.append_nil, List.length_append, c2_len, c2_len]
  have := List.length_filter_le (may k s) (c1 k)
  unfold cands
  omega
theorem filt_one {k : Case} {s : Std} {n : Nt} : ([n].filter (may k s)) = if may k s n then [n] else [] := by
  cases h : may k s n <;> simp [h]
theorem flat_filter {α β : Type} {p : β → Bool} {g : α → List β} {e : β → D} (l : List α) : l.flatMap (fun a => ((g a).filter p).map e) = ((l.flatMap g).filter p).map e := by
  induction l with
  | nil => rfl
  | cons a l ih => rw [List.flatMap_cons, List.flatMap_cons, ih, List.filter_append, List.map_append]
theorem map_flat {α β : Type} {p : β → Bool} {g : α → β} {e : β → D} (l : List α) : l.flatMap (fun a => ([g a].filter p).map e) = ((l.map g).filter p).map e := by
  induction l with
  | nil => rfl
  | cons a l ih => 
    rw [List.flatMap_cons, ih, List.map_cons]
    cases h : p (g a) <;> simp [h]
end Lk72
namespace Lk72
open PySem Dn
section
variable {m : Nat} {k : Case} {s : Std} {st : Store}
theorem natures_ok (hk : FilmOk m k.film) : m_natures [encK k, encSt s] st = .ok (.lst ((nats' k s).map encNt)) st := by
  obtain ⟨n1, n2⟩ := hk.ac
  refine wp_eq ?_
  unfold m_natures
  rw [wp_fnD]
  unfold b_natures
  simp
  unfold b_natures_2
  simp [sFor_wp]
  have hcl := cands_len (s := s) hk
  have hall : (c1 k).flatMap (fun n => ([n].filter (may k s)).map encNt) = (cands k s).map encNt := by
    rw [map_flat (g := fun n => n), List.map_id']
    rfl
  rw [show ([D.str "dry", D.str "rain"] : List D) = [false, true].map fun b => D.str (wS b) from rfl]
  refine forGo_acc (T := st) (B := 1000) (gl := fun w => ((c2 k w).filter (may k s)).map encNt) (fun _ => trivial) _ [] (fun w hw acc hB => ⟨_, rfl, ?_⟩) ?_ ?_
  · unfold b_natures_3
    simp [sFor_wp, ixK0, ixF1]
    rw [if_pos ⟨fitR_of (by omega) (by omega), fitR_of (by omega) (by omega)⟩]
    simp
    rw [rng_map]
    refine forGo_acc (T := st) (B := 1000) (gl := fun j : Nat => ((c3 k w (-1 + (j : Int))).filter (may k s)).map encNt) (fun _ => trivial) _ acc (fun j hj acc2 hB2 => ⟨_, rfl, ?_⟩) ?_ ?_
    · have hj2 := List.mem_range.mp hj
      unfold b_natures_4
      simp [sFor_wp, ixK4]
      rw [show ([D.int 0, D.int k.b3] : List D) = [0, k.b3].map D.int from rfl]
      refine forGo_acc (T := st) (B := 1000) (gl := fun l : Int => (([⟨w, -1 + (j : Int), l⟩] : List Nt).filter (may k s)).map encNt) (fun _ => trivial) _ acc2 (fun l hl acc3 hB3 => ⟨_, rfl, ?_⟩) ?_ ?_
      · have hm := fun st2 => may_choose_ok (k := k) (s := s) (n := ⟨w, -1 + (j : Int), l⟩) (st := st2) ⟨⟨by show -1 ≤ -1 + (j : Int); omega, by show -1 + (j : Int) < _; omega⟩, by simpa using hl⟩
        unfold encNt at hm
        unfold b_natures_5
        rw [filt_one] at hB3
        rw [filt_one]
        cases hq : may k s ⟨w, -1 + (j : Int), l⟩ with
        | true =>
          simp [hq] at hB3
          simp [hm, hq]
          rw [if_pos (by omega)]
          simp [encNt]
        | false => simp [hm, hq]
      · rw [map_flat]
        exact hB2
      · rw [map_flat]
        simp [c3]
    · rw [flat_filter]
      exact hB
    · rw [flat_filter]
      simp [c2]
  · rw [flat_filter]
    show [].length + (((c1 k).filter (may k s)).map encNt).length ≤ 1000
    rw [List.length_map]
    have : ((c1 k).filter (may k s)).length ≤ 100 := hcl
    simp
    omega
  · rw [flat_filter]
    show wpS _ _
    rw [List.nil_append, show (List.map encNt (List.filter (may k s) ([false, true].flatMap fun w => c2 k w))) = (cands k s).map encNt from rfl]
    unfold b_natures_7
    obtain ⟨g, hi, hg⟩ := its_lo (st := st ++ [some (.lst ((cands k s).map encNt))]) (d := .loc st.length) (ds := (cands k s).map encNt) (by simp)
    simp [eComp_wp, hi]
    refine ⟨by omega, ?_⟩
    rw [compGo_map (h := encKey) hg fun n hn => ⟨_, rfl, by simp [used_by_ok, encU, encKey, uS]⟩]
    unfold b_natures_8
    simp [eComp_wp, srt_key, sort_key]
    refine ⟨by omega, ?_⟩
    rw [compGo_map (h := encNt) trivial fun n hn => ⟨_, rfl, by simp⟩]
    simp [lfs_map lf_encNt]
    rfl
end
end Lk72
namespace Lk72
open PySem Dn
section
variable {m : Nat} {k : Case} {s : Std} {st : Store}
theorem nats_adm {n : Nt} (h : n ∈ nats' k s) : Adm k n ∧ may k s n = true := by
  have h := (List.mergeSort_perm _ _).mem_iff.mp h
  obtain ⟨h1, h2⟩ := List.mem_filter.mp h
  exact ⟨c1_adm h1, h2⟩
theorem nats_len (hk : FilmOk m k.film) : (nats' k s).length ≤ 100 := by
  unfold nats'
  rw [(List.mergeSort_perm _ _).length_eq]
  exact cands_len hk
/-- what can be used is within the bounds -/
def Use (k : Case) (s : Std) : Prop := (0 ≤ s.x0 ∧ s.x0 ≤ k.b0) ∧ (0 ≤ s.x1 ∧ s.x1 ≤ k.b1) ∧ 0 ≤ s.x2 ∧ s.x2 ≤ k.b2
theorem nats_ne (hu : Use k s) : 1 ≤ (nats' k s).length := by
  have h : (⟨false, -1, 0⟩ : Nt) ∈ cands k s := by
    refine List.mem_filter.mpr ⟨?_, ?_⟩
    · unfold c1 c2 c3
      simp only [List.mem_flatMap, List.mem_map, List.mem_range]
      exact ⟨false, by simp, 0, by omega, 0, by simp, rfl⟩
    · obtain ⟨⟨_, h1⟩, ⟨_, h2⟩, _, h3⟩ := hu
      simp [may, u0, u1, u2, b2i, h1, h2, h3]
  unfold nats'
  rw [(List.mergeSort_perm _ _).length_eq]
  exact List.length_pos_of_mem h
end
end Lk72
namespace Lk72
open PySem Dn
/-! ### steps, as a function -/
def rowsOf (k : Case) (s : Std) (sh : Sheet) (n : Nt) : List Row := (hrs k.film s.shot n.ill (sh.call + n.late) (itsOfSheet (wS n.rain) sh.dry sh.wet)).rows
def figA (k : Case) (s : Std) (li : Int × Int) (rows : List Row) (a : Nat) : Option (List Int) := match s.befs[a]? with
  | none => none
  | some b => figs k.film li rows a b.1 b.2
def bef1 : Option (List Int) → Int × Int
  | none => (-1, 0)
  | some fs => (fs.getD 1 0, fs.getD 5 0)
def cost1 (f : Option Fee) (o : Option (List Int)) : Int := match o, f with
  | some fs, some f => cost f (fs.getD 2 0)
  | _, _ => 0
inductive Out
  | brk (d : D)
  | go (s : Std) (c : Int)
def encOut : Out → D
  | .brk d => .tup [.str "break", d]
  | .go s c => .tup [.str "stand", encSt s, .int c]
def befsN (k : Case) (s : Std) (li : Int × Int) (rows : List Row) (j : Nat) : List (Int × Int) := (List.range j).map fun a => bef1 (figA k s li rows a)
def costN (k : Case) (s : Std) (li : Int × Int) (rows : List Row) (j : Nat) : Int := ((List.range j).map fun a => cost1 k.fees[a]? (figA k s li rows a)).sum
def nextS (k : Case) (s : Std) (li : Int × Int) (rows : List Row) (n : Nt) : Std := ⟨s.day + 1, after s.shot rows, befsN k s li rows k.film.actors.length, s.x0 + u0 n, s.x1 + u1 n, s.x2 + u2 n⟩
def endS (k : Case) (s : Std) (li : Int × Int) (rows : List Row) (n : Nt) : Out :=
  if s.day + 1 = k.cal.lights.length ∧ (after s.shot rows).length < k.film.scenes.length then .brk (.tup [.str "end", .int (((left k.film.scenes.length (after s.shot rows)).headD 0 : Nat) : Int)])
  else .go (nextS k s li rows n) (costN k s li rows k.film.actors.length)
def stpW (k : Case) (s : Std) (li : Int × Int) (rows : List Row) (n : Nt) : Out := match brAll k.film k.cal s.day li n.rain k.rules rows s.shot s.befs with
  | .tup ds => .brk (.tup ds)
  | _ => endS k s li rows n
theorem br_cases {f : Film} {cal : Calx} {day : Nat} {li : Int × Int} {rain : Bool} {rs : List Rule} {rows : List Row} {shot : List Nat} {befs : List (Int × Int)} :
    brAll f cal day li rain rs rows shot befs = .non ∨ ∃ ds, brAll f cal day li rain rs rows shot befs = .tup ds := by
  unfold brAll
  cases rowsB f cal day li rain rows shot with
  | some p => exact .inr ⟨_, rfl⟩
  | none =>
    cases ruleB f li rs rows befs with
    | some p => exact .inr ⟨_, rfl⟩
    | none => exact .inl rfl
structure StdOk (k : Case) (s : Std) : Prop where
  shot : ShotOk k.film.scenes.length s.shot
  befs : BefOk k.film s.befs
  use : Use k s
/-- what is needed for a step -/
structure StpOk (m : Nat) (k : Case) (s : Std) (num : Nat) (n : Nt) (li : Int × Int) (sh : Sheet) : Prop where
  ck : CaseOk m k
  cs : StdOk k s
  cl : k.cal.lights[s.day]? = some li
  csh : ∃ l, k.menu[s.day]? = some l ∧ l[num]? = some sh
  cadm : Adm k n
  cmay : may k s n = true
  cop : s.shot.length < k.film.scenes.length
section
variable {m : Nat} {k : Case} {s : Std} {num : Nat} {n : Nt} {li : Int × Int} {sh : Sheet} {st : Store}
theorem StpOk.day (h : StpOk m k s num n li sh) : s.day < k.cal.lights.length := (List.getElem?_eq_some_iff.mp h.cl).1
theorem StpOk.shOk (h : StpOk m k s num n li sh) : ShOk k.film.scenes.length sh := by
  obtain ⟨l, h1, h2⟩ := h.csh
  exact (h.ck.sheets l (List.mem_of_getElem? h1)).2 sh (List.mem_of_getElem? h2)
theorem StpOk.late (h : StpOk m k s num n li sh) : 0 ≤ n.late := by
  have := h.ck.bounds.2
  rcases h.cadm.2 with e | e <;> omega
theorem StpOk.rows (h : StpOk m k s num n li sh) : RsOk k.film.scenes.length (rowsOf k s sh n) ∧ RowsG (rowsOf k s sh n) := by
  have h1 := h.shOk
  have h2 := h.late
  have := h1.1
  exact hrs_ok h.ck.film (by omega) (its_ok h1.2.1.1 h1.2.1.2)
theorem StpOk.news (h : StpOk m k s num n li sh) : (newS (rowsOf k s sh n)).Nodup ∧ (∀ j ∈ newS (rowsOf k s sh n), j < k.film.scenes.length ∧ j ∉ s.shot) ∧ (newS (rowsOf k s sh n)).length ≤ 100 := by
  have h1 := h.shOk
  refine newS_ok ?_ (its_ok h1.2.1.1 h1.2.1.2)
  unfold itsOfSheet
  split
  · exact h1.2.2.2
  · exact h1.2.2.1
theorem StpOk.after (h : StpOk m k s num n li sh) : ShotOk k.film.scenes.length (after s.shot (rowsOf k s sh n)) := after_ok h.cs.shot h.news.1 h.news.2.1
theorem fig_ix {fs : List Int} {i : Nat} (hl : fs.length = 9) (hi : i < 9) : ixA (.tup (fs.map .int)) (.int (i : Nat)) st = .ok (.int (fs.getD i 0)) st := by
  have : fs[i]? = some (fs.getD i 0) := by
    rw [List.getD_eq_getElem?_getD, List.getElem?_eq_getElem (by omega)]
    rfl
  rw [ixA_tup, atI_pos (by omega), Int.toNat_natCast, List.getElem?_map, this]
  rfl
theorem figs_wrap {f : Film} {rows : List Row} {a : Nat} {b : Int × Int} {fs : List Int} (hg : RowsG rows) (h : figs f li rows a b.1 b.2 = some fs) : 0 ≤ fs.getD 1 0 := by
  unfold figs at h
  have hm : ∀ r ∈ rows.filter (mine f a), r ∈ rows := fun r hr => (List.mem_filter.mp hr).1
  generalize rows.filter (mine f a) = O at h hm
  cases O with
  | nil => cases h
  | cons r O =>
    injection h with h
    subst h
    show 0 ≤ ((r :: O).getLast _).e
    have := hg.1 _ (hm _ (List.getLast_mem (l := r :: O) (by simp)))
    omega
theorem figA_len {rows : List Row} {a : Nat} {fs : List Int} (h : figA k s li rows a = some fs) : fs.length = 9 := by
  unfold figA at h
  split at h
  · cases h
  · exact figs_len h
theorem befsN_ok (h : StpOk m k s num n li sh) : BefOk k.film (befsN k s li (rowsOf k s sh n) k.film.actors.length) := by
  refine ⟨by simp [befsN], fun b hb => ?_⟩
  obtain ⟨a, _, rfl⟩ := List.mem_map.mp hb
  cases hf : figA k s li (rowsOf k s sh n) a with
  | none => exact .inl rfl
  | some fs =>
    refine .inr ?_
    unfold figA at hf
    split at hf
    · cases hf
    · exact figs_wrap h.rows.2 hf
theorem nextS_ok (h : StpOk m k s num n li sh) : StdOk k (nextS k s li (rowsOf k s sh n) n) := by
  obtain ⟨⟨a1, a2⟩, ⟨a3, a4⟩, a5, a6⟩ := h.cs.use
  have hm := h.cmay
  unfold Lk72.may at hm
  simp only [Bool.and_eq_true, decide_eq_true_eq] at hm
  have p0 : 0 ≤ u0 n := by unfold u0 b2i; split <;> omega
  have p1 : 0 ≤ u1 n := by unfold u1 b2i; split <;> omega
  have p2 : 0 ≤ u2 n := by unfold u2 b2i; split <;> omega
  refine ⟨h.after, befsN_ok h, ⟨?_, ?_⟩, ⟨?_, ?_⟩, ?_, ?_⟩
  · show 0 ≤ s.x0 + u0 n; omega
  · exact hm.1
  · show 0 ≤ s.x1 + u1 n; omega
  · exact hm.2.1
  · show 0 ≤ s.x2 + u2 n; omega
  · exact hm.2.2
end
end Lk72
namespace Lk72
open PySem Dn
section
variable {m : Nat} {k : Case} {s : Std} {num : Nat} {n : Nt} {li : Int × Int} {sh : Sheet} {st : Store}
theorem first_ok (h : CaseOk m k) : m_first_stand [encK k] st = .ok (encSt ⟨0, [], List.replicate k.film.actors.length (-1, 0), 0, 0, 0⟩) st := by
  obtain ⟨n1, n2⟩ := h.film.ac
  refine wp_eq ?_
  unfold m_first_stand
  rw [wp_fnD]
  unfold b_first_stand
  have ed : d_IDLE = .tup [.int (-1), .int 0] := rfl
  have e2 : ∀ st2, mulQ false (.tup [d_IDLE]) (.int (k.film.actors.length : Nat)) st2 = .ok (.tup ((List.replicate k.film.actors.length (-1, 0)).map encL)) st2 := fun st2 => by
    rw [mulQ_tup (by simp) n1 (by omega) (by simp), ed]
    congr 2
    have : ∀ j : Nat, (List.replicate j [D.tup [.int (-1), .int 0]]).flatten = (List.replicate j ((-1, 0) : Int × Int)).map encL := fun j => by
      induction j with
      | zero => rfl
      | succ j ih => rw [List.replicate_succ, List.flatten_cons, ih, List.replicate_succ, List.map_cons]; rfl
    exact this _
  simp [ixK0, ixF1, e2]
  have e : (D.tup [D.int 0, D.tup [], D.tup (List.replicate k.film.actors.length (encL (-1, 0))), D.tup [D.int 0, D.int 0, D.int 0]]) = encSt ⟨0, [], List.replicate k.film.actors.length (-1, 0), 0, 0, 0⟩ := by simp [encSt, encU, encN]
  rw [e, gc_same (lf_encSt _), wp_ok]
  exact ⟨rfl, rfl⟩
theorem first_std (h : CaseOk m k) : StdOk k ⟨0, [], List.replicate k.film.actors.length (-1, 0), 0, 0, 0⟩ := by
  obtain ⟨⟨b0, b1, b2⟩, _⟩ := h.bounds
  refine ⟨⟨List.nodup_nil, by simp⟩, ⟨by simp, fun b hb => ?_⟩, ⟨by simp, b0⟩, ⟨by simp, b1⟩, by simp, b2⟩
  obtain ⟨_, rfl⟩ := List.mem_replicate.mp hb
  exact .inl rfl
theorem len_shot {l : List Nat} : lenB st (encN l) = some l.length := by simp [encN]
theorem len_menu {l : List Sheet} : lenB st (encM l) = some l.length := by simp [encM]
theorem through_ok : m_is_through [encK k, encSt s] st = .ok (.bl (decide (s.shot.length = k.film.scenes.length))) st := by
  refine wp_eq ?_
  unfold m_is_through
  rw [wp_fnD]
  unfold b_is_through
  simp [ixK0, ixF2, ixS1, len_shot, dec_nat]
theorem check_ok (h : StpOk m k s num n li sh) : m_check_step [encK k, encSt s, .int (num : Nat)] st = .ok .non st := by
  refine wp_eq ?_
  unfold m_check_step
  rw [wp_fnD]
  unfold b_check_step
  have h1 := h.cop
  have h2 := h.day
  obtain ⟨l, h3, h4⟩ := h.csh
  have h5 := (List.getElem?_eq_some_iff.mp h4).1
  have e1 : ¬ s.shot.length = k.film.scenes.length := by omega
  simp [through_ok, e1, ixS0, ixK1, ixC0, Nat.not_le.mpr h2, ixK3, h3, len_menu, h5]
end
end Lk72
namespace Lk72
open PySem Dn
section
variable {m : Nat} {k : Case} {s : Std} {num : Nat} {n : Nt} {li : Int × Int} {sh : Sheet} {st : Store}
theorem lf_br {f : Film} {cal : Calx} {day : Nat} {rain : Bool} {rs : List Rule} {rows : List Row} {shot : List Nat} {befs : List (Int × Int)} : lf (brAll f cal day li rain rs rows shot befs) = true := by
  unfold brAll
  cases rowsB f cal day li rain rows shot with
  | some p => simp [encRs]
  | none => exact lf_encRB _
theorem new_items {rows : List Row} {nn : Nat} (h : RsOk nn rows) : ((rows.filter fun r => decide (r.item ≠ -1)).map fun r => D.int r.item) = nats (newS rows) := by
  unfold newS nats
  rw [List.map_map]
  refine List.map_congr_left fun r hr => ?_
  obtain ⟨h1, h2⟩ := List.mem_filter.mp hr
  have h3 : r.item ≠ -1 := of_decide_eq_true h2
  rcases h.2 r h1 with h4 | h4
  · exact absurd h4 h3
  · show D.int r.item = D.int ((r.item.toNat : Nat) : Int)
    rw [Int.toNat_of_nonneg h4.1]
theorem min_head {l : List Nat} (hp : l.Pairwise (· < ·)) (hne : l ≠ []) : minB [.lst (nats l)] st = .ok (.int ((l.headD 0 : Nat) : Int)) st := by
  cases l with
  | nil => exact absurd rfl hne
  | cons a l =>
    have e : (lstOf st (.lst (nats (a :: l)))).bind intsOf = some ((a :: l).map fun x : Nat => (x : Int)) := by
      show intsOf (nats (a :: l)) = _
      unfold nats
      exact intsOf_ints
    show (match (lstOf st (.lst (nats (a :: l)))).bind intsOf with
      | some _ => min1 (.lst (nats (a :: l))) st
      | none => _) = _
    rw [e]
    show min1 _ st = _
    unfold min1
    rw [e, opt_some]
    have hm := min_left (k := a) (r := l) fun j hj => Nat.le_of_lt ((List.pairwise_cons.mp hp).1 j hj)
    rw [hm]
    rfl
theorem befsN_succ {rows : List Row} {j : Nat} : befsN k s li rows (j + 1) = befsN k s li rows j ++ [bef1 (figA k s li rows j)] := by
  unfold befsN
  rw [List.range_succ, List.map_append]
  rfl
theorem costN_succ {rows : List Row} {j : Nat} : costN k s li rows (j + 1) = costN k s li rows j + cost1 k.fees[j]? (figA k s li rows j) := by
  unfold costN
  rw [List.range_succ, List.map_append, List.sum_append]
  simp
theorem hours_st (h : StpOk m k s num n li sh) : ∃ X, ∀ st2 : Store, m_hours [encF k.film, encS sh, encN s.shot, encNt n] st2 = .ok (.tup [.tup ((rowsOf k s sh n).map encRow), X]) st2 :=
  ⟨_, fun st2 => hours_okC (st := st2) h.ck.film h.shOk.2.1.1 h.shOk.2.1.2⟩
theorem fig_st (h : StpOk m k s num n li sh) {j : Nat} (hj : j < k.film.actors.length) : ∃ b, s.befs[j]? = some b ∧ (∀ st2 : Store, m_figures_of [encF k.film, encC k.cal, .int (s.day : Nat), .tup ((rowsOf k s sh n).map encRow), .int (j : Nat), encL b] st2 = .ok (encFig (figA k s li (rowsOf k s sh n) j)) st2) ∧ True := by
  have hb := h.cs.befs
  have hj2 : j < s.befs.length := by rw [hb.1]; exact hj
  have e : s.befs[j]? = some s.befs[j] := List.getElem?_eq_getElem hj2
  have hbo := hb.2 s.befs[j] (List.getElem_mem hj2)
  generalize s.befs[j] = b at e hbo
  have ef : figA k s li (rowsOf k s sh n) j = figs k.film li (rowsOf k s sh n) j b.1 b.2 := by unfold figA; rw [e]
  have hlo := h.ck.cal.lo li (List.mem_of_getElem? h.cl)
  unfold LOk at hlo
  refine ⟨b, e, fun st2 => ?_, trivial⟩
  rw [ef]
  exact figures_ok (days := k.cal.lights.length) (st := st2) h.ck.film h.cl h.rows.1 hbo
theorem fee_st (h : StpOk m k s num n li sh) {j : Nat} (hj : j < k.film.actors.length) : ∃ f, k.fees[j]? = some f ∧ FeeOk f := by
  have hj2 : j < k.fees.length := by rw [h.ck.feel]; exact hj
  exact ⟨_, List.getElem?_eq_getElem hj2, h.ck.fees _ (List.getElem_mem hj2)⟩
end
end Lk72
namespace Lk72
open PySem Dn
section
variable {m : Nat} {k : Case} {s : Std} {num : Nat} {n : Nt} {li : Int × Int} {sh : Sheet} {st : Store}
def V25 (k : Case) (s : Std) (num : Nat) (n : Nt) (rows : List Row) (fnd aft v19 v20 v21 v22 : Option D) : Vars :=
  [some (encK k), some (encSt s), some (.int (num : Nat)), some (encNt n), some (encF k.film), some (encC k.cal), some (.tup (k.rules.map encR)), some (.tup (k.menu.map encM)), some (.tup [.int k.b0, .int k.b1, .int k.b2, .int k.b3]), some (.tup (k.fees.map encFee)),
   some (.int (s.day : Nat)), some (encN s.shot), some (.tup (s.befs.map encL)), some (encU s.x0 s.x1 s.x2), some (.tup (rows.map encRow)), fnd, aft, none, none, v19, v20, v21, v22, none, none]
def usI (s : Std) (n : Nt) (i : Nat) : Int := match i with
  | 0 => s.x0 + u0 n
  | 1 => s.x1 + u1 n
  | _ => s.x2 + u2 n
theorem step_tail (h : StpOk m k s num n li sh) {P : Po} (hP : P.r (.tup [.str "stand", encSt (nextS k s li (rowsOf k s sh n) n), .int (costN k s li (rowsOf k s sh n) k.film.actors.length)]) (st ++ [some (.lst ((befsN k s li (rowsOf k s sh n) k.film.actors.length).map encL))])) :
    wpS (b_step_13 (V25 k s num n (rowsOf k s sh n) (some .non) (some (encN (after s.shot (rowsOf k s sh n)))) none none none none) st) P := by
  obtain ⟨n1, n2⟩ := h.ck.film.ac
  unfold b_step_13 V25
  simp
  unfold b_step_14
  simp
  unfold b_step_15
  simp [sFor_wp, ixF1, fitR_of (i := (k.film.actors.length : Int)) (by omega) (by omega)]
  obtain ⟨HI, hHI⟩ : ∃ HI : List D → Vars → Store → Prop, HI = fun l vs st1 => ∃ j : Nat, l = (rng 0 k.film.actors.length).drop j ∧ j ≤ k.film.actors.length ∧ st1 = st ++ [some (.lst ((befsN k s li (rowsOf k s sh n) j).map encL))] ∧
    vs = V25 k s num n (rowsOf k s sh n) (some .non) (some (encN (after s.shot (rowsOf k s sh n)))) (some (.int (costN k s li (rowsOf k s sh n) j))) (some (.loc st.length)) none none := ⟨_, rfl⟩
  refine forGo_wp HI (fun _ _ _ _ => trivial) (fun d l vs st1 hI => ?_) (fun vs st1 hI => ?_) _ _ _ (by rw [hHI]; exact ⟨0, rfl, Nat.zero_le _, rfl, rfl⟩)
  · rw [hHI] at hI
    obtain ⟨j, hj, hj2, rfl, rfl⟩ := hI
    obtain ⟨j3, rfl, rfl⟩ := rng_drop hj.symm
    rw [Int.zero_add]
    refine ⟨_, rfl, ?_⟩
    obtain ⟨b, hb, hf, _⟩ := fig_st h j3
    obtain ⟨fe, hfe, hfo⟩ := fee_st h j3
    have fin : ∀ vs2 st2, vs2 = V25 k s num n (rowsOf k s sh n) (some .non) (some (encN (after s.shot (rowsOf k s sh n)))) (some (.int (costN k s li (rowsOf k s sh n) j + cost1 k.fees[j]? (figA k s li (rowsOf k s sh n) j)))) (some (.loc st.length)) none none →
        st2 = st ++ [some (.lst ((befsN k s li (rowsOf k s sh n) j).map encL ++ [encL (bef1 (figA k s li (rowsOf k s sh n) j))]))] → HI ((rng 0 k.film.actors.length).drop (j + 1)) vs2 st2 := fun vs2 st2 e1 e2 => by
      rw [hHI]
      refine ⟨j + 1, rfl, j3, ?_, ?_⟩
      · rw [e2, befsN_succ, List.map_append]; rfl
      · rw [e1, costN_succ]
    clear hHI
    have hlb : (befsN k s li (rowsOf k s sh n) j).length = j := by simp [befsN]
    have ed : d_IDLE = encL (-1, 0) := rfl
    have ia : ∀ (i j : Int) (st2 : Store), iaddD (.int i) (.int j) st2 = .ok (.int (i + j)) st2 := fun _ _ _ => rfl
    unfold V25 at fin ⊢
    unfold b_step_16
    simp [hb, hf]
    unfold b_step_17
    cases hfa : figA k s li (rowsOf k s sh n) j with
    | none =>
      rw [hfa] at fin
      simp [encFig, hlb]
      rw [if_pos (by omega)]
      simp
      unfold b_step_18
      simp [ed, ia]
      refine fin _ _ ?_ ?_
      · simp [cost1]
      · simp [bef1]
    | some fs =>
      rw [hfa] at fin
      have hl9 := figA_len hfa
      have f1 : ∀ st2, ixA (.tup (fs.map .int)) (.int 1) st2 = .ok (.int (fs.getD 1 0)) st2 := fun st2 => fig_ix (i := 1) hl9 (by omega)
      have f5 : ∀ st2, ixA (.tup (fs.map .int)) (.int 5) st2 = .ok (.int (fs.getD 5 0)) st2 := fun st2 => fig_ix (i := 5) hl9 (by omega)
      have f2 : ∀ st2, ixA (.tup (fs.map .int)) (.int 2) st2 = .ok (.int (fs.getD 2 0)) st2 := fun st2 => fig_ix (i := 2) hl9 (by omega)
      have fF : ∀ st2, ixA (.tup (k.fees.map encFee)) (.int (j : Nat)) st2 = .ok (encFee fe) st2 := fun st2 => by simp [hfe]
      have hd := fun st2 => day_cost_ok (f := fe) (span := fs.getD 2 0) (st := st2) hfo
      have hc1 : cost1 k.fees[j]? (some fs) = cost fe (fs.getD 2 0) := by rw [hfe]; rfl
      have hb1 : bef1 (some fs) = (fs.getD 1 0, fs.getD 5 0) := rfl
      rw [hc1, hb1] at fin
      clear hfa hc1 hb1
      generalize fs.getD 1 0 = x1 at *
      generalize fs.getD 2 0 = x2 at *
      generalize fs.getD 5 0 = x5 at *
      simp [-ixA_tup, encFig, hlb, f1, f5]
      rw [if_pos (by omega)]
      simp
      unfold b_step_18
      simp [-ixA_tup, f2, fF, hd, ia]
      refine fin _ _ ?_ ?_
      · rfl
      · rfl
  · rw [hHI] at hI
    obtain ⟨j, hj, hj2, rfl, rfl⟩ := hI
    have hle := rng_end hj
    have e : j = k.film.actors.length := by omega
    subst e
    unfold V25
    unfold b_step_19
    simp [used_by_ok]
    unfold b_step_20
    simp [eComp_wp, fitR_of (i := 3) (by omega) (by omega)]
    rw [rng3, compGo_map (h := fun i => .int (usI s n i)) trivial fun x hx => ⟨_, rfl, by
      simp at hx
      rcases hx with rfl | rfl | rfl <;> simp [encU, usI]⟩]
    simp
    exact hP
end
end Lk72
namespace Lk72
open PySem Dn
section
variable {m : Nat} {k : Case} {s : Std} {num : Nat} {n : Nt} {li : Int × Int} {sh : Sheet} {st : Store}
theorem step_ok (h : StpOk m k s num n li sh) : m_step [encK k, encSt s, .int (num : Nat), encNt n] st = .ok (encOut (stpW k s li (rowsOf k s sh n) n)) st := by
  have hck := fun st2 => check_ok (st := st2) h
  have hmc := fun st2 => may_choose_ok (k := k) (s := s) (n := n) (st := st2) h.cadm
  rw [h.cmay] at hmc
  obtain ⟨X, hh⟩ := hours_st h
  obtain ⟨l, h3, h4⟩ := h.csh
  have ixM : ∀ st2 : Store, ixA (.tup (k.menu.map encM)) (.int (s.day : Nat)) st2 = .ok (encM l) st2 := fun st2 => by simp [h3]
  have ixL : ∀ st2 : Store, ixA (encM l) (.int (num : Nat)) st2 = .ok (encS sh) st2 := fun st2 => by simp [encM, h4]
  have ixN0 : ∀ st2 : Store, ixA (encNt n) (.int 0) st2 = .ok (.str (wS n.rain)) st2 := fun st2 => by simp [encNt]
  have gK : ∀ vs : Vars, gT [gN 4, gN 5, gN 6, gN 7, gN 8, gN 9] (encK k) vs = some ((((((vs.set 4 (some (encF k.film))).set 5 (some (encC k.cal))).set 6 (some (.tup (k.rules.map encR)))).set 7 (some (.tup (k.menu.map encM)))).set 8 (some (.tup [.int k.b0, .int k.b1, .int k.b2, .int k.b3]))).set 9 (some (.tup (k.fees.map encFee)))) := fun vs => rfl
  have gS : ∀ vs : Vars, gT [gN 10, gN 11, gN 12, gN 13] (encSt s) vs = some ((((vs.set 10 (some (.int (s.day : Nat)))).set 11 (some (encN s.shot))).set 12 (some (.tup (s.befs.map encL)))).set 13 (some (encU s.x0 s.x1 s.x2))) := fun vs => rfl
  have hbr := fun st2 => rows_break_ok (st := st2) (rain := n.rain) h.ck.film h.ck.mm h.ck.cal h.cl h.rows.1 h.cs.befs h.ck.rules (shot := s.shot) (by have := h.cs.shot.len; have := h.ck.film.sc; have := h.ck.mm; omega)
  have hrl := h.rows.1.1
  have hnl := h.news.2.2
  have hsl := h.cs.shot.len
  have hms : k.film.scenes.length ≤ 60 := by have := h.ck.film.sc; have := h.ck.mm; omega
  have hadd : ∀ st2 : Store, addD false (encN s.shot) (.tup (nats (newS (rowsOf k s sh n)))) st2 = .ok (.tup (nats (s.shot ++ newS (rowsOf k s sh n)))) st2 := fun st2 => by
    show addD false (.tup (nats s.shot)) _ st2 = _
    rw [add_tup, if_pos]
    · unfold nats; rw [List.map_append]
    · simp [nats]; omega
  have hsrt : ∀ st2 : Store, sortQ false [.tup (nats (s.shot ++ newS (rowsOf k s sh n)))] st2 = .ok (.lst (nats (after s.shot (rowsOf k s sh n)))) st2 := fun st2 => by
    rw [sortQ_eq]
    show opt (some _) _ = _
    rw [opt_some, if_pos (srt_nats _), sort_nats]
    rfl
  have htp : ∀ st2 : Store, tupleD [.lst (nats (after s.shot (rowsOf k s sh n)))] st2 = .ok (encN (after s.shot (rowsOf k s sh n))) st2 := fun st2 => rfl
  have hao := h.after
  have hli := left_iff hao
  have hlp := left_srt (n := k.film.scenes.length) (l := after s.shot (rowsOf k s sh n))
  have tail := fun (P : Po) (hP : P.r _ _) => step_tail (st := st) h (P := P) hP
  refine wp_eq ?_
  unfold m_step
  rw [wp_fnD]
  unfold b_step
  simp [hck]
  unfold b_step_2
  simp [hmc]
  unfold b_step_4
  simp [gK]
  unfold b_step_5
  simp [gS]
  unfold b_step_6
  simp [-ixA_tup, ixM, ixL, hh]
  unfold b_step_7
  simp [ixN0, wS_rain, hbr]
  unfold stpW
  rcases br_cases (f := k.film) (cal := k.cal) (day := s.day) (li := li) (rain := n.rain) (rs := k.rules) (rows := rowsOf k s sh n) (shot := s.shot) (befs := s.befs) with e | ⟨ds, e⟩
  · rw [e]
    unfold b_step_8
    simp
    unfold b_step_10
    simp [eComp_wp]
    refine ⟨by omega, ?_⟩
    have edM : d_MEAL = .int (-1) := rfl
    rw [compGo_fmap (p := fun r : Row => decide (r.item ≠ -1)) (h := fun r : Row => D.int r.item) trivial fun r hr => ⟨_, rfl, by simp [encRow, edM], fun _ => by simp [encRow]⟩]
    rw [new_items h.rows.1]
    obtain ⟨NW, hNW⟩ : ∃ x, x = nats (newS (rowsOf k s sh n)) := ⟨_, rfl⟩
    obtain ⟨SW, hSW⟩ : ∃ x, x = nats (s.shot ++ newS (rowsOf k s sh n)) := ⟨_, rfl⟩
    obtain ⟨AW, hAW⟩ : ∃ x, x = nats (after s.shot (rowsOf k s sh n)) := ⟨_, rfl⟩
    have htn : ∀ st2 : Store, tupleD [.lst NW] st2 = .ok (.tup NW) st2 := fun _ => rfl
    rw [← hNW, ← hSW] at hadd
    rw [← hSW, ← hAW] at hsrt
    rw [← hAW] at htp
    rw [← hNW]
    simp [-Dn.sortQ_eq, -Dn.tuple_eq, htn, hadd, hsrt, htp]
    unfold b_step_11
    simp [ixC0, len_shot, ixF2]
    unfold endS
    by_cases hc : s.day + 1 = k.cal.lights.length ∧ (after s.shot (rowsOf k s sh n)).length < k.film.scenes.length
    · rw [if_pos hc]
      have hc1 : (s.day : Int) + 1 = (k.cal.lights.length : Int) := by omega
      simp [hc1, hc.2, eComp_wp, fitR_of (i := (k.film.scenes.length : Int)) (by omega) (by omega)]
      simp [ixF2, eComp_wp, fitR_of (i := (k.film.scenes.length : Int)) (by omega) (by omega)]
      refine ⟨by omega, ?_⟩
      rw [rng0_map, compGo_fmap (p := fun j : Nat => !(decide (j ∈ after s.shot (rowsOf k s sh n)))) (h := fun j : Nat => D.int (j : Nat)) trivial fun j hj => ⟨_, rfl, by
        have := nin_shot (s := after s.shot (rowsOf k s sh n)) (i := j) (st := st)
        simp [encN] at this ⊢
        simpa using this, fun _ => by simp⟩]
      have hmn := min_head (st := st) hlp (hli.mp hc.2)
      have hmn2 : minB [.lst (((List.range k.film.scenes.length).filter fun j : Nat => !(decide (j ∈ after s.shot (rowsOf k s sh n)))).map fun j : Nat => D.int (j : Nat))] st = .ok (.int (((left k.film.scenes.length (after s.shot (rowsOf k s sh n))).headD 0 : Nat) : Int)) st := hmn
      simp [hmn2]
      rfl
    · rw [if_neg hc]
      have hfin : ∀ {Q : D → Store → Prop}, Q (encOut (Out.go (nextS k s li (rowsOf k s sh n) n) (costN k s li (rowsOf k s sh n) k.film.actors.length))) st → wp (gcRet st (.tup [.str "stand", encSt (nextS k s li (rowsOf k s sh n) n), .int (costN k s li (rowsOf k s sh n) k.film.actors.length)]) (st ++ [some (.lst ((befsN k s li (rowsOf k s sh n) k.film.actors.length).map encL))])) Q := fun {Q} q => by
        rw [gc_app (by simp [lf_encSt]), wp_ok]
        exact q
      by_cases hc1 : (s.day : Int) + 1 = (k.cal.lights.length : Int)
      · have hc3 : ¬ (after s.shot (rowsOf k s sh n)).length < k.film.scenes.length := fun q => hc ⟨by omega, q⟩
        simp [hc1, hc3]
        exact tail _ (hfin ⟨rfl, rfl⟩)
      · simp [hc1]
        exact tail _ (hfin ⟨rfl, rfl⟩)
  · have hlf := lf_br (f := k.film) (cal := k.cal) (day := s.day) (li := li) (rain := n.rain) (rs := k.rules) (rows := rowsOf k s sh n) (shot := s.shot) (befs := s.befs)
    rw [e] at hlf ⊢
    unfold b_step_8
    simp
    rw [gc_same (by simpa using hlf), wp_ok]
    exact ⟨rfl, rfl⟩
end
end Lk72
namespace Lk72
open PySem Dn
theorem forGo_consW {g : TM} {b : SM} {fg : List Nat} {gd : Store → Prop} {d : D} {ds : List D} {vs vs1 : Vars} {st : Store} {P : Po} (h : gd st) (hg : g d vs = some vs1)
    (hb : wpS (b vs1 st) ⟨fun vs2 st2 => wpS (forGo g b fg gd ds (drp fg vs2) st2) P, P.r, fun vs2 st2 => P.n (drp fg vs2) st2, fun vs2 st2 => wpS (forGo g b fg gd ds (drp fg vs2) st2) P⟩) : wpS (forGo g b fg gd (d :: ds) vs st) P := by
  rw [forGo, if_pos h, hg]
  simp only
  cases hb1 : b vs1 st with
  | nx vs2 st2 => rw [hb1] at hb; exact hb.of
  | ct vs2 st2 => rw [hb1] at hb; exact hb.of
  | brk vs2 st2 => rw [hb1] at hb; exact ⟨hb.of⟩
  | ret d2 st2 => rw [hb1] at hb; exact ⟨hb.of⟩
  | bad => rw [hb1] at hb; exact hb.of.elim
  | exc e vs2 st2 => rw [hb1] at hb; exact hb.of.elim
structure Cr where
  num : Nat
  nt : Nt
def encCr (c : Cr) : D := .tup [.int (c.num : Nat), encNt c.nt]
def first (k : Case) : Std := ⟨0, [], List.replicate k.film.actors.length (-1, 0), 0, 0, 0⟩
inductive Path (m : Nat) (k : Case) : List Cr → List Std → Std → Int → Prop
  | nil : Path m k [] [first k] (first k) 0
  | snoc {cs : List Cr} {ss : List Std} {s : Std} {c : Int} {num : Nat} {n : Nt} {li : Int × Int} {sh : Sheet} {s' : Std} {c' : Int} (p : Path m k cs ss s c) (h : StpOk m k s num n li sh) (e : stpW k s li (rowsOf k s sh n) n = .go s' c') : Path m k (cs ++ [⟨num, n⟩]) (ss ++ [s']) s' (c + c')
section
variable {m : Nat} {k : Case} {s : Std} {num : Nat} {n : Nt} {li : Int × Int} {sh : Sheet} {st : Store} {cs : List Cr} {ss : List Std} {c : Int}
theorem go_is {rows : List Row} {s' : Std} {c' : Int} (h : stpW k s li rows n = .go s' c') : s' = nextS k s li rows n := by
  unfold stpW at h
  split at h
  · cases h
  · unfold endS at h
    split at h
    · cases h
    · injection h with h1 h2
      exact h1.symm
theorem Path.last (p : Path m k cs ss s c) : ∃ s0, ss = s0 ++ [s] := by
  cases p with
  | nil => exact ⟨[], rfl⟩
  | snoc p h e => exact ⟨_, rfl⟩
theorem Path.ok (hk : CaseOk m k) (p : Path m k cs ss s c) : StdOk k s := by
  cases p with
  | nil => exact first_std hk
  | snoc p h e =>
    rw [go_is e]
    exact nextS_ok h
theorem Path.len (p : Path m k cs ss s c) : ss.length = cs.length + 1 ∧ s.day = cs.length := by
  induction p with
  | nil => exact ⟨rfl, rfl⟩
  | snoc p h e ih =>
    refine ⟨by simp [ih.1], ?_⟩
    rw [go_is e]
    simp [nextS, ih.2]
def VR (k : Case) (course : D) (n : Nat) (c : Int) : Vars := [some (encK k), some course, some (.loc n), some (.int c), none, none, none]
theorem run_step {course : D} {rest : List Cr} {P : Po} {gd : Store → Prop} (hgd : ∀ st, gd st) (hl : ss.length ≤ 1000) {s' : Std} {c' : Int} (hs : ∃ s0, ss = s0 ++ [s]) (h : StpOk m k s num n li sh) (e : stpW k s li (rowsOf k s sh n) n = .go s' c')
    (w : wpS (forGo (gT [gN 4, gN 5]) b_run_4 [4, 5, 6] gd (rest.map encCr) (VR k course st.length (c + c')) (st ++ [some (.lst ((ss ++ [s']).map encSt))])) P) :
    wpS (forGo (gT [gN 4, gN 5]) b_run_4 [4, 5, 6] gd (((⟨num, n⟩ :: rest) : List Cr).map encCr) (VR k course st.length c) (st ++ [some (.lst (ss.map encSt))])) P := by
  obtain ⟨s0, rfl⟩ := hs
  rw [List.map_cons]
  refine forGo_consW (hgd _) rfl ?_
  have hx : ∀ st2 : Store, ixA (.loc st.length) (.int (-1)) (st ++ [some (.lst ((s0 ++ [s]).map encSt))]) = .ok (encSt s) (st ++ [some (.lst ((s0 ++ [s]).map encSt))]) := fun _ => by
    have := atI_last (xs := s0.map encSt) (z := encSt s)
    simp [this]
  have hx := hx []
  have ht : ∀ st2 : Store, m_is_through [encK k, encSt s] st2 = .ok (.bl false) st2 := fun st2 => by
    rw [through_ok]
    have := h.cop
    simp; omega
  have hst := fun st2 => step_ok (st := st2) h
  rw [e] at hst
  obtain ⟨SW, hSW⟩ : ∃ x, x = (s0 ++ [s]).map encSt := ⟨_, rfl⟩
  have hSl : SW.length = s0.length + 1 := by rw [hSW]; simp
  have hSn : SW ++ [encSt s'] = ((s0 ++ [s]) ++ [s']).map encSt := by rw [hSW, List.map_append (l₂ := [s'])]; rfl
  rw [← hSn] at w
  rw [← hSW] at hx ⊢
  have ia : ∀ (i j : Int) (st2 : Store), iaddD (.int i) (.int j) st2 = .ok (.int (i + j)) st2 := fun _ _ _ => rfl
  have ixO : ∀ st2 : Store, ixA (encOut (.go s' c')) (.int 0) st2 = .ok (.str "stand") st2 ∧ ixA (encOut (.go s' c')) (.int 1) st2 = .ok (encSt s') st2 ∧ ixA (encOut (.go s' c')) (.int 2) st2 = .ok (.int c') st2 := fun _ => ⟨rfl, rfl, rfl⟩
  unfold VR at w ⊢
  unfold b_run_4
  simp [-ixA_intkey, encCr, hx, ht]
  unfold b_run_6
  simp [-ixA_intkey, hx, hst]
  unfold b_run_7
  simp [-ixA_intkey, ixO]
  unfold b_run_9
  simp at hl
  simp [-ixA_intkey, ixO, hSl]
  rw [if_pos (by omega)]
  simp
  unfold b_run_10
  simp [-ixA_intkey, ixO, ia]
  exact w
end
end Lk72
namespace Lk72
open PySem Dn
theorem okd_brN {a : Nat} {f : Film} {cal : Calx} {day : Nat} {li : Int × Int} {rain : Bool} {rs : List Rule} {rows : List Row} {shot : List Nat} {befs : List (Int × Int)} : okd (a + 1) (brAll f cal day li rain rs rows shot befs) = true := by
  unfold brAll
  cases h : rowsB f cal day li rain rows shot with
  | some p =>
    have hs := rowsB_str h
    show okd (a + 1) (.tup [.str p.1, .int (p.2 : Nat)]) = true
    refine okd_tup fun d hd => ?_
    simp at hd
    rcases hd with rfl | rfl
    · exact okd_str hs
    · exact okd_int
  | none =>
    cases ruleB f li rs rows befs with
    | none => exact okd_non
    | some p =>
      refine okd_tup fun d hd => ?_
      simp at hd
      rcases hd with rfl | rfl | rfl
      · exact okd_str (by decide +kernel)
      · exact okd_int
      · exact okd_int
theorem okd_st {a : Nat} {s : Std} : okd (a + 3) (encSt s) = true := okd_tup fun d hd => by
  simp at hd
  rcases hd with rfl | rfl | rfl | rfl
  · exact okd_int
  · exact okd_natt
  · exact okd_tup (okd_map fun x _ => okd_tup fun d hd => by
      simp at hd
      rcases hd with rfl | rfl <;> exact okd_int)
  · refine okd_tup fun d hd => ?_
    simp at hd
    rcases hd with rfl | rfl | rfl <;> exact okd_int
theorem okd_out {k : Case} {s : Std} {li : Int × Int} {rows : List Row} {n : Nt} {a : Nat} : okd (a + 4) (encOut (stpW k s li rows n)) = true := by
  unfold stpW
  have hb := okd_brN (a := a + 2) (f := k.film) (cal := k.cal) (day := s.day) (li := li) (rain := n.rain) (rs := k.rules) (rows := rows) (shot := s.shot) (befs := s.befs)
  split
  · rename_i ds e
    rw [e] at hb
    refine okd_tup fun d hd => ?_
    simp at hd
    rcases hd with rfl | rfl
    · exact okd_str (by decide +kernel)
    · exact hb
  · unfold endS
    split
    · refine okd_tup fun d hd => ?_
      simp at hd
      rcases hd with rfl | rfl
      · exact okd_str (by decide +kernel)
      · refine okd_tup fun d hd => ?_
        simp at hd
        rcases hd with rfl | rfl
        · exact okd_str (by decide +kernel)
        · exact okd_int
    · refine okd_tup fun d hd => ?_
      simp at hd
      rcases hd with rfl | rfl | rfl
      · exact okd_str (by decide +kernel)
      · exact okd_st
      · exact okd_int
theorem lf_out {k : Case} {s : Std} {li : Int × Int} {rows : List Row} {n : Nt} : lf (encOut (stpW k s li rows n)) = true := by
  unfold stpW
  have hlf := lf_br (f := k.film) (cal := k.cal) (day := s.day) (li := li) (rain := n.rain) (rs := k.rules) (rows := rows) (shot := s.shot) (befs := s.befs)
  split
  · rename_i ds e
    rw [e] at hlf
    simpa [encOut] using hlf
  · unfold endS
    split
    · simp [encOut]
    · simp [encOut, lf_encSt]
section
variable {m : Nat} {k : Case} {s : Std} {num : Nat} {n : Nt} {li : Int × Int} {sh : Sheet} {st : Store} {cs : List Cr} {ss : List Std} {c : Int}
theorem path_step {course : D} {P : Po} {gd : Store → Prop} (hgd : ∀ st, gd st) (p : Path m k cs ss s c) : ∀ rest : List Cr, cs.length ≤ 900 →
    wpS (forGo (gT [gN 4, gN 5]) b_run_4 [4, 5, 6] gd (rest.map encCr) (VR k course st.length c) (st ++ [some (.lst (ss.map encSt))])) P →
    wpS (forGo (gT [gN 4, gN 5]) b_run_4 [4, 5, 6] gd ((cs ++ rest).map encCr) (VR k course st.length 0) (st ++ [some (.lst ([first k].map encSt))])) P := by
  induction p with
  | nil => exact fun rest _ w => w
  | @snoc cs ss s c num n li sh s' c' p h e ih =>
    intro rest hl w
    simp at hl
    rw [List.append_assoc]
    exact ih (⟨num, n⟩ :: rest) (by omega) (run_step hgd (by rw [p.len.1]; omega) p.last h e w)
def endD (k : Case) (s : Std) (c : Int) : D := .tup [.str (if s.shot.length = k.film.scenes.length then "through" else "open"), .int c]
theorem run_go (hk : CaseOk m k) (p : Path m k cs ss s c) (hl : cs.length ≤ 900) : m_run [encK k, .tup (cs.map encCr)] st = .ok (.tup [.tup (ss.map encSt), endD k s c]) st := by
  refine wp_eq ?_
  have hf := fun st2 => first_ok (st := st2) hk
  unfold m_run
  rw [wp_fnD]
  unfold b_run
  simp [hf]
  unfold b_run_2
  simp
  unfold b_run_3
  simp [sFor_wp]
  have := path_step (st := st) (course := .tup (cs.map encCr)) (gd := grd (cs.map encCr, [])) (fun _ => trivial) p [] hl (P := ⟨fun vs st1 => wpS (b_run_11 vs st1) ⟨fun _ st' => wp (gcRet st .non st') fun x s1 => x = .tup [.tup (ss.map encSt), endD k s c] ∧ s1 = st, fun d st' => wp (gcRet st d st') fun x s1 => x = .tup [.tup (ss.map encSt), endD k s c] ∧ s1 = st, fun _ _ => False, fun _ _ => False⟩,
    fun d st' => wp (gcRet st d st') fun x s1 => x = .tup [.tup (ss.map encSt), endD k s c] ∧ s1 = st, fun _ _ => False, fun _ _ => False⟩)
  rw [List.append_nil] at this
  refine this ?_
  rw [List.map_nil, forGo_nil (by trivial), wpS_nx]
  obtain ⟨s0, hs⟩ := p.last
  obtain ⟨SW, hSW⟩ : ∃ x, x = ss.map encSt := ⟨_, rfl⟩
  have hx : ixA (.loc st.length) (.int (-1)) (st ++ [some (.lst SW)]) = .ok (encSt s) (st ++ [some (.lst SW)]) := by
    have := atI_last (xs := s0.map encSt) (z := encSt s)
    rw [hSW, hs]
    simp [this]
  have hlf : lfs SW = true := by rw [hSW]; exact lfs_map lf_encSt
  have htp : tupleD [.loc st.length] (st ++ [some (.lst SW)]) = .ok (.tup SW) (st ++ [some (.lst SW)]) := by simp
  rw [← hSW]
  show wpS (b_run_11 (VR k (.tup (cs.map encCr)) st.length c) _) _
  unfold VR
  unfold b_run_11
  simp [-ixA_intkey, -Dn.tuple_eq, htp, hx, through_ok]
  unfold endD
  by_cases hc : s.shot.length = k.film.scenes.length
  · simp [hc, hlf]
  · simp [hc, hlf]
theorem run_brk (hk : CaseOk m k) (p : Path m k cs ss s c) (hl : cs.length ≤ 900) (h : StpOk m k s num n li sh) {d : D} (e : stpW k s li (rowsOf k s sh n) n = .brk d) : m_run [encK k, .tup ((cs ++ [(⟨num, n⟩ : Cr)]).map encCr)] st = .ok (.tup [.tup (ss.map encSt), encOut (.brk d)]) st := by
  refine wp_eq ?_
  have hf := fun st2 => first_ok (st := st2) hk
  obtain ⟨CW, hCW⟩ : ∃ x, x = (cs ++ [(⟨num, n⟩ : Cr)]).map encCr := ⟨_, rfl⟩
  have hd : lf (encOut (.brk d)) = true := by rw [← e]; exact lf_out
  unfold m_run
  rw [wp_fnD]
  unfold b_run
  rw [← hCW]
  simp [hf]
  unfold b_run_2
  simp
  unfold b_run_3
  simp [sFor_wp]
  have := path_step (st := st) (course := .tup CW) (gd := grd (CW, [])) (fun _ => trivial) p ([⟨num, n⟩] : List Cr) hl (P := ⟨fun vs st1 => wpS (b_run_11 vs st1) ⟨fun _ st' => wp (gcRet st .non st') fun x s1 => x = .tup [.tup (ss.map encSt), encOut (.brk d)] ∧ s1 = st, fun d2 st' => wp (gcRet st d2 st') fun x s1 => x = .tup [.tup (ss.map encSt), encOut (.brk d)] ∧ s1 = st, fun _ _ => False, fun _ _ => False⟩,
    fun d2 st' => wp (gcRet st d2 st') fun x s1 => x = .tup [.tup (ss.map encSt), encOut (.brk d)] ∧ s1 = st, fun _ _ => False, fun _ _ => False⟩)
  rw [← hCW] at this
  refine this ?_
  rw [List.map_cons]
  refine forGo_consW (by trivial) rfl ?_
  obtain ⟨s0, hs⟩ := p.last
  obtain ⟨SW, hSW⟩ : ∃ x, x = ss.map encSt := ⟨_, rfl⟩
  have hx : ixA (.loc st.length) (.int (-1)) (st ++ [some (.lst SW)]) = .ok (encSt s) (st ++ [some (.lst SW)]) := by
    have := atI_last (xs := s0.map encSt) (z := encSt s)
    rw [hSW, hs]
    simp [this]
  have hlf : lfs SW = true := by rw [hSW]; exact lfs_map lf_encSt
  have htp : tupleD [.loc st.length] (st ++ [some (.lst SW)]) = .ok (.tup SW) (st ++ [some (.lst SW)]) := by simp
  have ht : ∀ st2 : Store, m_is_through [encK k, encSt s] st2 = .ok (.bl false) st2 := fun st2 => by
    rw [through_ok]
    have := h.cop
    simp; omega
  have hst := fun st2 => step_ok (st := st2) h
  rw [e] at hst
  have ixO : ∀ st2 : Store, ixA (encOut (.brk d)) (.int 0) st2 = .ok (.str "break") st2 := fun _ => rfl
  rw [← hSW]
  unfold VR
  unfold b_run_4
  simp [-ixA_intkey, encCr, hx, ht]
  unfold b_run_6
  simp [-ixA_intkey, hx, hst]
  unfold b_run_7
  simp [-ixA_intkey, -Dn.tuple_eq, ixO, htp]
  rw [gc_app (by simp [hlf, hd]), wp_ok]
  exact ⟨rfl, rfl⟩
end
end Lk72
namespace Lk72
open PySem Dn
/-! ### films as the law draws them -/
theorem some_wp {n : Nat} {c : Option Ob} {t : Store} {Q : D → Store → Prop} (hn : n ≤ 60) (h : DrawOk c) (q : ∀ (l : List Nat) c', DrawOk c' → l.Sublist (List.range n) → Q (encN l) (c' :: t)) : wp (m_law_some [.loc 0, .int (n : Nat)] (c :: t)) Q := by
  unfold m_law_some
  rw [wp_fnD]
  unfold b_law_some
  simp [eComp_wp, fitR_of (i := (n : Int)) (by omega) (by omega)]
  refine ⟨by omega, wp_mono (compGo_drawS (T := t) (f := id) (fun _ => trivial) _ c h fun d hd c7 h7 => ?_) fun cs st hcs => ?_⟩
  · obtain ⟨i, hi, rfl⟩ := rng_mem hd
    refine ⟨_, rfl, ?_⟩
    simp [take_is]
    refine take_wp h7 (by omega) (by omega) fun r c8 h8 _ _ => ?_
    rw [bind_ok, eq_int, wp_ok]
    refine dt_of h8 fun _ => ?_
    simp
    exact h8
  · obtain ⟨⟨cl, q1, rfl⟩, c7, h7, rfl⟩ := hcs
    obtain ⟨cast, q2, rfl⟩ := sub_rng q1
    simp
    show wp (gcRet (c :: t) (encN cast) (c7 :: t)) Q
    rw [gc_draw h7 (lf_encN _), wp_ok]
    exact q cast c7 h7 q2
theorem names_ok {p : Str} {n : Nat} {st : Store} {vs : Vars} (hn : n ≤ 60) (hp : p.length ≤ 1000) (hv : getV (vs.set 5 (some (.int 0))) 5 = some (.int 0)) :
    compGo (gN 5) (eC (.bl true)) (eTup (aCons (e2 (addD false) (eC (.str p)) (eN strD (aCons (eV 5) aNil))) (aCons (eC (.bl false)) aNil))) (grd (rng 0 n, [])) vs (rng 0 n) st = .ok ((List.range n).map fun i : Nat => encA (p ++ Str.ofString (Int.repr (i : Int)), false)) st := by
  rw [rng0_map]
  refine compGo_map (f := fun i : Nat => D.int (i : Nat)) (h := fun i : Nat => encA (p ++ Str.ofString (Int.repr (i : Int)), false)) trivial fun i hi => ⟨_, rfl, ?_⟩
  have hi2 := List.mem_range.mp hi
  have i64 : i < 64 := by omega
  have hv2 : getV (vs.set 5 (some (D.int (i : Nat)))) 5 = some (.int (i : Nat)) := by
    unfold getV at hv ⊢
    have hl : 5 < vs.length := by
      by_cases hl : 5 < vs.length
      · exact hl
      · rw [List.getElem?_eq_none (by simp; omega)] at hv
        cases hv
    rw [List.getElem?_set_self hl]
    rfl
  simp [hv2, -Dn.strD_int, -Dn.add_str, str_small i64, add_small i64 hp]
  rfl
def IsO (n : Nat) (y : D) : Prop := ∃ p : Nat × Nat, y = encP p ∧ p.1 < p.2 ∧ p.2 < n
theorem film60_wp {n : Nat} {c : Option Ob} {t : Store} {Q : D → Store → Prop} (hn : 1 ≤ n ∧ n ≤ 60) (h : DrawOk c) (q : ∀ f c', DrawOk c' → FilmOk n f → f.scenes.length = n → Q (encF f) (c' :: t)) : wp (m_law_film [.loc 0, .int (n : Nat)] (c :: t)) Q := by
  unfold m_law_film
  rw [wp_fnD]
  unfold b_law_film
  simp [take_is]
  refine take_wp h (by omega) (by omega) fun r c1 h1 r0 r1 => ?_
  obtain ⟨na, hna⟩ : ∃ na : Nat, 1 + r = (na : Int) := ⟨(1 + r).toNat, by omega⟩
  simp [hna]
  unfold b_law_film_2
  simp [take_is]
  refine take_wp h1 (by omega) (by omega) fun r2 c2 h2 r20 r21 => ?_
  obtain ⟨np, hnp⟩ : ∃ np : Nat, 1 + r2 = (np : Int) := ⟨(1 + r2).toNat, by omega⟩
  simp [hnp]
  unfold b_law_film_3
  simp
  unfold b_law_film_4
  simp [sFor_wp, fitR_of (i := (n : Int)) (by omega) (by omega)]
  refine forGo_wp (fun l vs st => ∃ j c' ss v5, l = (rng 0 n).drop j ∧ j ≤ n ∧ DrawOk c' ∧ st = c' :: (t ++ [some (.lst (ss.map encSc))]) ∧ ss.length = j ∧ (∀ s ∈ ss, ScOk np na s) ∧
    vs = [some (D.loc 0), some (D.int (n : Nat)), some (.int (na : Nat)), some (.int (np : Nat)), some (D.loc (t.length + 1)), v5, none])
    (fun _ _ _ _ => trivial) (fun d l vs st hI => ?_) (fun vs st hI => ?_) _ _ _ ⟨0, c2, [], none, rfl, Nat.zero_le _, h2, rfl, rfl, by simp, rfl⟩
  · obtain ⟨j, c6, ss, v5, hj, hj2, h6, rfl, l6, s6, rfl⟩ := hI
    obtain ⟨j3, rfl, rfl⟩ := rng_drop hj.symm
    rw [Int.zero_add]
    refine ⟨_, rfl, ?_⟩
    have j64 : j < 64 := by omega
    unfold b_law_film_5
    simp [-Dn.strD_int, -Dn.add_str, str_small j64, add_small j64 (p := "s") (by decide), take_is]
    refine take_wp h6 (by omega) (by omega) fun r8 c8 h8 r80 r81 => ?_
    simp [take_is]
    refine take_wp h8 (by omega) (by omega) fun r9 c9 h9 r90 r91 => ?_
    simp
    refine some_wp (by omega) h9 fun cast c10 h10 hcast => ?_
    simp
    rw [if_pos (by omega), wp_ok]
    have hp : r8.toNat < np := by omega
    refine ⟨j + 1, c10, ss ++ [⟨"s" ++ Str.ofString (Int.repr (j : Int)), r8.toNat, "any", 30 + 5 * r9, false, cast⟩], some (.int (j : Nat)), rfl, j3, h10, ?_, by simp [l6], fun s hs => ?_, rfl⟩
    · simp [encSc, r80]
      omega
    · rcases List.mem_append.mp hs with hs | hs
      · exact s6 s hs
      · rw [List.mem_singleton] at hs
        subst hs
        exact ⟨hp, .inr (.inl rfl), ⟨by show 5 ≤ 30 + 5 * r9; omega, by show 30 + 5 * r9 ≤ 200; omega⟩, hcast⟩
  · obtain ⟨j, c6, ss, v5, hj, hj2, h6, rfl, l6, s6, rfl⟩ := hI
    have ej := rng_end hj
    have ejn : j = n := by omega
    subst ejn
    unfold b_law_film_6
    simp [eComp_wp, fitR_of (i := (j : Int) - 1) (by omega) (by omega)]
    refine ⟨by omega, wp_mono (compGo_draw (T := t ++ [some (.lst (ss.map encSc))]) (Pr := IsO j) (fun _ => trivial) _ c6 h6 fun d hd c8 h8 => ?_) fun cs st hcs => ?_⟩
    · obtain ⟨i, hi, rfl⟩ := rng_mem hd
      refine ⟨_, rfl, ?_⟩
      simp [take_is]
      refine take_wp h8 (by omega) (by omega) fun r c9 h9 _ _ => ?_
      rw [bind_ok, eq_int, wp_ok]
      refine dt_of h9 fun _ => ?_
      simp
      refine de_of ⟨(i, i + 1), ?_, by show i < i + 1; omega, by show i + 1 < j; omega⟩ h9
      simp [encP]
    · obtain ⟨q1, q2, c8, h8, rfl⟩ := hcs
      obtain ⟨os, rfl, hos⟩ := list_ofP (f := encP) (p := fun p : Nat × Nat => p.1 < p.2 ∧ p.2 < j) q1
      simp at q2
      simp
      unfold b_law_film_7
      simp [eComp_wp, fitR_of (i := (np : Int)) (by omega) (by omega)]
      refine ⟨by omega, ?_⟩
      rw [names_ok (n := np) (by omega) (by decide) rfl]
      simp [eComp_wp, fitR_of (i := (na : Int)) (by omega) (by omega)]
      refine ⟨by omega, ?_⟩
      rw [names_ok (n := na) (by omega) (by decide) rfl]
      have e1 : ∀ (p : Str) (m : Nat), ((List.range m).map fun i : Nat => encA (p ++ Str.ofString (Int.repr (i : Int)), false)) = ((List.range m).map fun i : Nat => (p ++ Str.ofString (Int.repr (i : Int)), false)).map encA := fun p m => by rw [List.map_map]; rfl
      rw [e1, e1]
      obtain ⟨PL, hPL⟩ : ∃ PL, PL = (List.range np).map fun i : Nat => (("p" : Str) ++ Str.ofString (Int.repr (i : Int)), false) := ⟨_, rfl⟩
      obtain ⟨AC, hAC⟩ : ∃ AC, AC = (List.range na).map fun i : Nat => (("a" : Str) ++ Str.ofString (Int.repr (i : Int)), false) := ⟨_, rfl⟩
      have lPL : PL.length = np := by rw [hPL]; simp
      have lAC : AC.length = na := by rw [hAC]; simp
      rw [← hPL, ← hAC]
      simp
      have lfd := lf_encF ⟨PL, AC, ss, os, 10, 20, 30⟩
      show wp (gcRet (c :: t) (encF ⟨PL, AC, ss, os, 10, 20, 30⟩) _) Q
      rw [gc_drawL h8 lfd, wp_ok]
      refine q _ c8 h8 ⟨⟨by show 1 ≤ PL.length; omega, by show PL.length ≤ 3; omega⟩, ⟨by show 1 ≤ AC.length; omega, by show AC.length ≤ 3; omega⟩, ⟨by show 1 ≤ ss.length; omega, by show ss.length ≤ j; omega⟩, fun s hs => by rw [lPL, lAC]; exact s6 s hs, fun o ho => ?_, ?_, ⟨by show (0 : Int) ≤ 10; omega, by show (10 : Int) < 60; omega⟩, ⟨by show (0 : Int) ≤ 20; omega, by show (20 : Int) < 90; omega⟩, by show (5 : Int) ≤ 30; omega, by show (30 : Int) < 65; omega⟩ l6
      · have := hos o ho
        exact ⟨this.1, by show o.2 < ss.length; omega⟩
      · show os.length ≤ j * j
        have : j * 1 ≤ j * j := Nat.mul_le_mul (Nat.le_refl _) hn.1
        omega
end Lk72
namespace Lk72
open PySem Dn
/-! ### sheets and cases as the law draws them -/
def intsL (l : List Nat) : List Int := l.map fun k : Nat => (k : Int)
theorem encN_ints (l : List Nat) : encN l = .tup ((intsL l).map .int) := by
  unfold encN intsL
  rw [List.map_map]
  rfl
theorem sub_rows {n : Nat} {l : List Nat} (hn : n ≤ 60) (h : l.Sublist (List.range n)) : RowsOk n (intsL l) ∧ Dis (intsL l) := by
  have hlen := h.length_le
  rw [List.length_range] at hlen
  refine ⟨⟨by simp [intsL]; omega, fun x hx => ?_⟩, ?_⟩
  · obtain ⟨k, hk, rfl⟩ := List.mem_map.mp hx
    have := List.mem_range.mp (h.subset hk)
    exact .inr ⟨by omega, by omega⟩
  · unfold Dis
    have e : (intsL l).filter (fun x => decide (x ≠ -1)) = intsL l := List.filter_eq_self.mpr fun x hx => by
      obtain ⟨k, _, rfl⟩ := List.mem_map.mp hx
      exact decide_eq_true (by omega)
    rw [e]
    refine List.Pairwise.map _ ?_ (List.Pairwise.sublist h (List.nodup_range (n := n)))
    intro a b hab hc
    exact hab (by omega)
theorem meal_rows {n : Nat} {l : List Int} (h : RowsOk n l) (hd : Dis l) (hl : l.length ≤ 90) : (RowsOk n (l.take 1 ++ ([-1] ++ l.drop 1)) ∧ Dis (l.take 1 ++ ([-1] ++ l.drop 1))) ∧ RowsOk n (-1 :: l) ∧ Dis (-1 :: l) := by
  refine ⟨⟨⟨by simp; omega, fun x hx => ?_⟩, ?_⟩, ⟨by simp; omega, fun x hx => ?_⟩, ?_⟩
  · rcases List.mem_append.mp hx with hx | hx
    · exact h.2 x (List.mem_of_mem_take hx)
    · rcases List.mem_append.mp hx with hx | hx
      · rw [List.mem_singleton] at hx
        exact .inl hx
      · exact h.2 x (List.mem_of_mem_drop hx)
  · unfold Dis at hd ⊢
    rw [List.filter_append, List.filter_append]
    have e : [(-1 : Int)].filter (fun x => decide (x ≠ -1)) = [] := by simp
    rw [e, List.nil_append, ← List.filter_append, List.take_append_drop]
    exact hd
  · rcases List.mem_cons.mp hx with rfl | hx
    · exact .inl rfl
    · exact h.2 x hx
  · unfold Dis at hd ⊢
    rw [List.filter_cons, if_neg (by simp)]
    exact hd
theorem cut_to1 {ds : List D} : cutD ds none (some 1) = ds.take 1 := by
  cases ds with
  | nil => rfl
  | cons d ds => exact cut_to (k := 1) (by simp)
theorem part_wp {n : Nat} {w : Bool} {c : Option Ob} {t : Store} {Q : D → Store → Prop} {v4 : Option D} (hn : n ≤ 60) (h : DrawOk c) (q : ∀ (l : List Nat) c', DrawOk c' → l.Sublist (List.range n) → Q (encN l) (c' :: t)) :
    wp (eIf (eOr (eTru (eV 2)) (e2 gtD (eN m_law_take (aCons (eV 0) (aCons (eC (.int 3)) (aNil)))) (eC (.int 0)))) (eV 3) (eN m_law_some (aCons (eV 0) (aCons (eV 1) (aNil)))) [some (.loc 0), some (.int (n : Nat)), some (.bl w), some (encN (List.range n)), v4, none] (c :: t)) Q := by
  cases w with
  | true =>
    simp
    exact q _ c h (List.Sublist.refl _)
  | false =>
    simp [take_is]
    refine take_wp h (by omega) (by omega) fun r c1 h1 r0 r1 => ?_
    by_cases hr : 0 < r
    · simp [hr]
      exact q _ c1 h1 (List.Sublist.refl _)
    · simp [hr]
      exact some_wp hn h1 q
theorem sheet60_wp {n : Nat} {w : Bool} {c : Option Ob} {t : Store} {Q : D → Store → Prop} (hn : n ≤ 60) (h : DrawOk c) (q : ∀ s c', DrawOk c' → ShOk n s → Q (encS s) (c' :: t)) : wp (m_law_sheet [.loc 0, .int (n : Nat), .bl w] (c :: t)) Q := by
  unfold m_law_sheet
  rw [wp_fnD]
  unfold b_law_sheet
  have er : (D.tup (rng 0 n)) = encN (List.range n) := by rw [rng0_map]; rfl
  simp [-Dn.eIf_eq, tr1_int (j := (n : Int)) (by omega) (by omega), er]
  refine part_wp hn h fun l1 c1 h1 s1 => ?_
  simp [-Dn.eIf_eq]
  refine part_wp hn h1 fun l2 c2 h2 s2 => ?_
  simp [take_is]
  refine take_wp h2 (by omega) (by omega) fun r c3 h3 r0 r1 => ?_
  obtain ⟨a1, a2⟩ := sub_rows hn s1
  obtain ⟨b1, b2⟩ := sub_rows hn s2
  have ll1 : (intsL l1).length ≤ 60 := by
    have := s1.length_le
    rw [List.length_range] at this
    simp [intsL]; omega
  have ll2 : (intsL l2).length ≤ 60 := by
    have := s2.length_le
    rw [List.length_range] at this
    simp [intsL]; omega
  obtain ⟨⟨a3, a4⟩, _, _⟩ := meal_rows a1 a2 (by omega)
  obtain ⟨_, b3, b4⟩ := meal_rows b1 b2 (by omega)
  have fin : ∀ (a b : List Int) (c3 : Option Ob), DrawOk c3 → RowsOk n a → Dis a → RowsOk n b → Dis b → wpS (sRet (eTup (aCons (e2 ixA (eLst false (aCons (eC (.int 0)) (aCons (eC (.int 15)) (aCons (e2 (addD false) (eC (.int 420)) (e2 (mulD false) (eC (.int 30)) (eN m_law_take (aCons (eV 0) (aCons (eC (.int 6)) (aNil)))))) (aCons (eC (.int 420)) (aNil)))))) (eN m_law_take (aCons (eV 0) (aCons (eC (.int 4)) (aNil))))) (aCons (eV 4) (aCons (eV 5) (aNil))))) [some (.loc 0), some (.int (n : Nat)), some (.bl w), some (encN (List.range n)), some (.tup (a.map .int)), some (.tup (b.map .int))] (c3 :: t)) ⟨fun x st' => wp (gcRet (c :: t) .non st') Q, fun d st' => wp (gcRet (c :: t) d st') Q, fun _ _ => False, fun _ _ => False⟩ := fun a b c3 h3 ra da rb db => by
    simp [take_is]
    refine take_wp h3 (by omega) (by omega) fun r5 c5 h5 r50 r51 => ?_
    simp [take_is]
    refine take_wp h5 (by omega) (by omega) fun r6 c6 h6 r60 r61 => ?_
    have hx : ∃ call : Int, 0 ≤ call ∧ ([D.int 0, .int 15, .int (420 + 30 * r5), .int 420])[r6.toNat]? = some (.int call) := by
      have : r6 = 0 ∨ r6 = 1 ∨ r6 = 2 ∨ r6 = 3 := by omega
      rcases this with rfl | rfl | rfl | rfl
      · exact ⟨0, by omega, rfl⟩
      · exact ⟨15, by omega, rfl⟩
      · exact ⟨420 + 30 * r5, by omega, rfl⟩
      · exact ⟨420, by omega, rfl⟩
    obtain ⟨call, hc0, hc⟩ := hx
    simp [atI_pos r60, hc]
    show wp (gcRet (c :: t) (encS ⟨call, a, b⟩) _) Q
    rw [gc_draw h6 (lf_encS _), wp_ok]
    exact q ⟨call, a, b⟩ c6 h6 ⟨hc0, ⟨ra, rb⟩, da, db⟩
  by_cases hr : r = 0
  · subst hr
    have this := fin _ _ c3 h3 a3 a4 b3 b4
    have x1 : ∀ st2 : Store, sliceD false (encN l1) none (some 1) st2 = .ok (.tup (((intsL l1).take 1).map .int)) st2 := fun st2 => by
      rw [encN_ints, sl_tup, cut_to1, List.map_take]
    have x2 : ∀ st2 : Store, sliceD false (encN l1) (some 1) none st2 = .ok (.tup (((intsL l1).drop 1).map .int)) st2 := fun st2 => by
      rw [encN_ints, sl_tup, cut_from1, List.map_drop]
    have y1 : ∀ st2 : Store, addD false (.tup (((intsL l1).take 1).map .int)) (.tup [.int (-1)]) st2 = .ok (.tup (((intsL l1).take 1 ++ [-1]).map .int)) st2 := fun st2 => by
      rw [add_tup, if_pos (by simp; omega), List.map_append]
      rfl
    have y2 : ∀ st2 : Store, addD false (.tup (((intsL l1).take 1 ++ [-1]).map .int)) (.tup (((intsL l1).drop 1).map .int)) st2 = .ok (.tup (((intsL l1).take 1 ++ ([-1] ++ (intsL l1).drop 1)).map .int)) st2 := fun st2 => by
      rw [add_tup, if_pos (by simp; omega), ← List.map_append, List.append_assoc]
    have y3 : ∀ st2 : Store, addD false (.tup [.int (-1)]) (encN l2) st2 = .ok (.tup ((-1 :: intsL l2).map .int)) st2 := fun st2 => by
      rw [encN_ints, add_tup, if_pos (by simp; omega)]
      rfl
    generalize ((intsL l1).take 1 ++ ([-1] ++ (intsL l1).drop 1)).map D.int = Z1 at *
    generalize ((intsL l1).take 1 ++ [-1]).map D.int = Z2 at *
    generalize ((intsL l1).take 1).map D.int = Z3 at *
    generalize ((intsL l1).drop 1).map D.int = Z4 at *
    generalize (-1 :: intsL l2).map D.int = Z5 at *
    clear fin
    simp [-Dn.sl_tup, -Dn.add_tup, x1, x2, y1, y2, y3]
    simpa [take_is] using this
  · simp [hr]
    have := fin _ _ c3 h3 a1 a2 b1 b2
    rw [← encN_ints, ← encN_ints] at this
    simpa [take_is] using this
end Lk72
namespace Lk72
open PySem Dn
theorem no_win {many days : Nat} : WsOk many days [] := ⟨by simp, by simp, [], by simp [ssT, inc, dd]⟩
theorem rep_map {α : Type} {e : α → D} {x : α} : ∀ n : Nat, (List.replicate n [e x]).flatten = (List.replicate n x).map e
  | 0 => rfl
  | n + 1 => by rw [List.replicate_succ, List.flatten_cons, rep_map n, List.replicate_succ, List.map_cons]; rfl
def MenuOk (n : Nat) (l : List Sheet) : Prop := (1 ≤ l.length ∧ l.length ≤ 60) ∧ ∀ s ∈ l, ShOk n s
def IsFee (y : D) : Prop := ∃ f : Fee, y = encFee f ∧ FeeOk f
theorem case60_wp {days : Nat} {c : Option Ob} {t : Store} {Q : D → Store → Prop} (hd : 1 ≤ days ∧ days ≤ 50) (h : DrawOk c)
    (q : ∀ k c', DrawOk c' → CaseOk 5 k → k.cal.lights.length = days → Q (encK k) (c' :: t)) : wp (m_law_case [.loc 0, .int (days : Nat)] (c :: t)) Q := by
  unfold m_law_case
  rw [wp_fnD]
  unfold b_law_case
  simp [take_is]
  refine take_wp h (by omega) (by omega) fun r c1 h1 r0 r1 => ?_
  obtain ⟨n, hn⟩ : ∃ n : Nat, 2 + r = (n : Int) := ⟨(2 + r).toNat, by omega⟩
  simp [hn]
  unfold b_law_case_2
  simp
  refine film60_wp (n := n) (by omega) h1 fun f c2 h2 hf hfl => ?_
  simp
  unfold b_law_case_3
  simp
  unfold b_law_case_4
  simp [sFor_wp, fitR_of (i := (days : Int)) (by omega) (by omega)]
  obtain ⟨HI, hHI⟩ : ∃ HI : List D → Vars → Store → Prop, HI = fun l vs st => ∃ (j : Nat) (c' : Option Ob) (menu : List (List Sheet)), l = (rng 0 days).drop j ∧ j ≤ days ∧ DrawOk c' ∧ st = c' :: (t ++ [some (.lst (menu.map encM))]) ∧ menu.length = j ∧ (∀ l ∈ menu, MenuOk n l) ∧
    vs = [some (.loc 0), some (.int (days : Nat)), some (.int (n : Nat)), some (encF f), some (.loc (t.length + 1)), none, none, none, none, none] := ⟨_, rfl⟩
  refine forGo_wp HI (fun _ _ _ _ => trivial) (fun d l vs st hI => ?_) (fun vs st hI => ?_) _ _ _ (by rw [hHI]; exact ⟨0, c2, [], rfl, Nat.zero_le _, h2, rfl, rfl, by simp, rfl⟩)
  · rw [hHI] at hI
    obtain ⟨j, c3, menu, hj, hj2, h3, rfl, hml, hmo, rfl⟩ := hI
    obtain ⟨j3, rfl, rfl⟩ := rng_drop hj.symm
    rw [Int.zero_add]
    refine ⟨_, rfl, ?_⟩
    have fin : ∀ (l : List Sheet) (c' : Option Ob), DrawOk c' → MenuOk n l → HI ((rng 0 days).drop (j + 1)) [some (.loc 0), some (.int (days : Nat)), some (.int (n : Nat)), some (encF f), some (.loc (t.length + 1)), none, none, none, none, none] (c' :: (t ++ [some (.lst ((menu ++ [l]).map encM))])) := fun l c' h' ho => by
      rw [hHI]
      refine ⟨j + 1, c', menu ++ [l], rfl, j3, h', rfl, by simp [hml], fun x hx => ?_, rfl⟩
      rcases List.mem_append.mp hx with hx | hx
      · exact hmo x hx
      · rw [List.mem_singleton] at hx
        subst hx
        exact ho
    clear hHI
    have n60 : n ≤ 60 := by omega
    unfold b_law_case_5
    simp
    refine sheet60_wp n60 h3 fun s c4 h4 hs => ?_
    simp [eComp_wp, take_is]
    refine take_wp h4 (by omega) (by omega) fun r2 c5 h5 r20 r21 => ?_
    simp [fitR_of (i := r2) (by omega) (by omega)]
    refine ⟨by omega, wp_mono (compGo_draw1 (T := t ++ [some (.lst (menu.map encM))]) (Pr := IsSh n) (fun _ => trivial) _ c5 h5 fun d hd c6 h6 => ?_) fun ys st hys => ?_⟩
    · refine ⟨_, rfl, ?_⟩
      simp
      exact sheet60_wp n60 h6 fun s c7 h7 hs => de_of ⟨s, rfl, hs⟩ h7
    · obtain ⟨q1, q2, c6, h6, rfl⟩ := hys
      obtain ⟨l, rfl, hl⟩ := list_ofP (p := ShOk n) q1
      have hll : l.length ≤ 2 := by simp at q2; omega
      simp
      rw [if_pos (by omega), wp_ok]
      simp
      have ho : MenuOk n (s :: l) := ⟨by simp; omega, fun x hx => by
        rcases List.mem_cons.mp hx with rfl | hx
        · exact hs
        · exact hl x hx⟩
      have ho2 : MenuOk n (s :: l).reverse := ⟨by simp; omega, fun x hx => ho.2 x (List.mem_reverse.mp hx)⟩
      unfold b_law_case_6
      simp [take_is]
      refine take_wp h6 (by omega) (by omega) fun r7 c7 h7 _ _ => ?_
      by_cases e7 : r7 = 0
      · subst e7
        have := fin _ c7 h7 ho2
        simp [hml]
        rw [if_pos (by omega)]
        simp
        simpa [encM] using this
      · have := fin _ c7 h7 ho
        simp [e7, hml]
        rw [if_pos (by omega)]
        simp
        simpa [encM] using this
  · rw [hHI] at hI
    obtain ⟨j, c3, menu, hj, hj2, h3, rfl, hml, hmo, rfl⟩ := hI
    have hle := rng_end hj
    have hjd : j = days := by omega
    clear hHI
    have ha3 := hf.ac
    unfold b_law_case_7
    simp [take_is]
    refine take_wp h3 (by omega) (by omega) fun x0 c4 h4 x00 _ => ?_
    simp [take_is]
    refine take_wp h4 (by omega) (by omega) fun x1 c5 h5 x10 _ => ?_
    simp [take_is]
    refine take_wp h5 (by omega) (by omega) fun x2 c6 h6 x20 _ => ?_
    simp
    unfold b_law_case_8
    simp [ixF1, eComp_wp, fitR_of (i := (f.actors.length : Int)) (by omega) (by omega)]
    refine ⟨by omega, wp_mono (compGo_draw1 (T := t ++ [some (.lst (menu.map encM))]) (Pr := IsFee) (fun _ => trivial) _ c6 h6 fun d hd c7 h7 => ?_) fun ys st hys => ?_⟩
    · refine ⟨_, rfl, ?_⟩
      simp [take_is]
      refine take_wp h7 (by omega) (by omega) fun r8 c8 h8 _ _ => ?_
      simp
      exact de_of ⟨(r8, []), rfl, by simp, by simp⟩ h8
    · obtain ⟨q1, q2, c7, h7, rfl⟩ := hys
      obtain ⟨fees, rfl, hfees⟩ := list_ofP (p := FeeOk) q1
      have hfl2 : fees.length = f.actors.length := by simpa using q2
      simp
      unfold b_law_case_9
      have mA : ∀ (st2 : Store), mulQ false (.tup [.tup [.int 360, .int 1080]]) (.int (days : Nat)) st2 = .ok (.tup ((List.replicate days ((360, 1080) : Int × Int)).map encL)) st2 := fun st2 => by
        rw [mulQ_tup (by simp) hd.1 (by omega) (by simp), show (D.tup [.int 360, .int 1080]) = encL (360, 1080) from rfl, rep_map]
      simp [-List.map_replicate, mA]
      obtain ⟨LI, hLI⟩ : ∃ LI, LI = List.replicate days ((360, 1080) : Int × Int) := ⟨_, rfl⟩
      have lLI : LI.length = days := by rw [hLI]; simp
      have oLI : ∀ l ∈ LI, LOk l := fun l hl => by
        rw [hLI] at hl
        obtain ⟨_, rfl⟩ := List.mem_replicate.mp hl
        unfold LOk
        simp
      rw [← hLI]
      have lfd := lf_encK ⟨f, ⟨LI, [], []⟩, [], menu, x0, x1, x2, 60, fees⟩
      show wp (gcRet (c :: t) (encK ⟨f, ⟨LI, [], []⟩, [], menu, x0, x1, x2, 60, fees⟩) _) Q
      rw [gc_drawL h7 lfd, wp_ok]
      refine q _ c7 h7 ⟨⟨hf.pl, hf.ac, ⟨hf.sc.1, by show f.scenes.length ≤ 5; omega⟩, hf.so, hf.od, ?_, hf.mi⟩, by omega, ⟨by show 1 ≤ LI.length; omega, by show LI.length ≤ 60; omega⟩, ⟨rfl, oLI, no_win, no_win⟩, ⟨by simp, by simp⟩, by show menu.length = LI.length; omega, fun l hl => ?_, ⟨⟨x00, x10, x20⟩, by show (0 : Int) < 60; omega⟩, hfl2, hfees⟩ lLI
      · have h1 := hf.ol
        have h2 : n * n ≤ 5 * 5 := Nat.mul_le_mul (by omega) (by omega)
        exact Nat.le_trans h1 h2
      · have := hmo l hl
        rw [show (⟨f, ⟨LI, [], []⟩, [], menu, x0, x1, x2, 60, fees⟩ : Case).film.scenes.length = n from hfl]
        exact this
end Lk72
namespace Lk72
open PySem Dn
/-! ### courses as the law draws them -/
/-- a course, its stands, and the steps of it that lead on -/
structure Crs (k : Case) (co : List Cr) (ss : List Std) : Prop where
  ck : CaseOk 5 k
  cs : ∃ cs s c, Path 5 k cs ss s c ∧ (co = cs ∨ ∃ x, co = cs ++ [x])
  run : ∀ st, ∃ X, m_run [encK k, .tup (co.map encCr)] st = .ok (.tup [.tup (ss.map encSt), X]) st
  len : ss.length ≤ 100 ∧ co.length ≤ 100
theorem Path.steps {m : Nat} {k : Case} {cs : List Cr} {ss : List Std} {s : Std} {c : Int} (p : Path m k cs ss s c) : ∀ i, i < cs.length → ∃ s x li sh, ss[i]? = some s ∧ cs[i]? = some x ∧ StpOk m k s x.num x.nt li sh := by
  induction p with
  | nil => intro i hi; cases hi
  | @snoc cs ss s c num n li sh s' c' p h e ih =>
    intro i hi
    have hl := p.len.1
    simp at hi
    by_cases h1 : i < cs.length
    · obtain ⟨s1, x1, l1, sh1, q1, q2, q3⟩ := ih i h1
      exact ⟨s1, x1, l1, sh1, by rw [List.getElem?_append_left (by omega)]; exact q1, by rw [List.getElem?_append_left h1]; exact q2, q3⟩
    · have hi2 : i = cs.length := by omega
      subst hi2
      refine ⟨s, ⟨num, n⟩, li, sh, ?_, ?_, h⟩
      · obtain ⟨s0, hs⟩ := p.last
        have hs0 : s0.length = cs.length := by rw [hs] at hl; simp at hl; omega
        rw [List.getElem?_append_left (by omega), hs, ← hs0]
        simp
      · rw [List.getElem?_append_right (Nat.le_refl _)]
        simp
theorem Path.all {m : Nat} {k : Case} (hk : CaseOk m k) {cs : List Cr} {ss : List Std} {s : Std} {c : Int} (p : Path m k cs ss s c) : ∀ x ∈ ss, ShotOk k.film.scenes.length x.shot := by
  induction p with
  | nil => intro x hx; rw [List.mem_singleton] at hx; subst hx; exact (first_std hk).shot
  | @snoc cs ss s c num n li sh s' c' p h e ih =>
    intro x hx
    rcases List.mem_append.mp hx with hx | hx
    · exact ih x hx
    · rw [List.mem_singleton] at hx
      subst hx
      rw [go_is e]
      exact (nextS_ok h).shot
def VC (k : Case) (s : Std) (n : Nat) (v4 v5 v6 v7 : Option D) : Vars := [some (.loc 0), some (encK k), some (encSt s), some (.loc n), v4, v5, v6, v7]
theorem lf_encCr (c : Cr) : lf (encCr c) = true := by simp [encCr, lf_encNt]
theorem ats_of {k : Case} (hk : CaseOk 5 k) {s : Std} (hs : StdOk k s) (hd : s.day < k.cal.lights.length) (ho : ¬ s.shot.length = k.film.scenes.length) :
    ∃ li l, k.menu[s.day]? = some l ∧ 1 ≤ l.length ∧ l.length ≤ 60 ∧ ∀ (num : Nat) (n : Nt), n ∈ nats' k s → num < l.length → ∃ sh, StpOk 5 k s num n li sh := by
  have hd2 : s.day < k.menu.length := by rw [hk.menu]; exact hd
  obtain ⟨l1, l2⟩ := (hk.sheets _ (List.getElem_mem hd2)).1
  refine ⟨k.cal.lights[s.day], k.menu[s.day], List.getElem?_eq_getElem hd2, l1, l2, fun num n hn hm => ⟨(k.menu[s.day])[num], hk, hs, List.getElem?_eq_getElem hd, ⟨_, List.getElem?_eq_getElem hd2, List.getElem?_eq_getElem hm⟩, (nats_adm hn).1, (nats_adm hn).2, ?_⟩⟩
  have := hs.shot.len
  omega
theorem course_wp {k : Case} {c : Option Ob} {t : Store} {Q : D → Store → Prop} (hk : CaseOk 5 k) (h : DrawOk c) (q : ∀ co ss c', DrawOk c' → Crs k co ss → Q (.tup (co.map encCr)) (c' :: t)) : wp (m_law_course [.loc 0, encK k] (c :: t)) Q := by
  obtain ⟨d1, d2⟩ := hk.days
  have hf := fun st2 => first_ok (st := st2) hk
  unfold m_law_course
  rw [wp_fnD]
  unfold b_law_course
  simp [hf]
  unfold b_law_course_2
  simp
  unfold b_law_course_3
  simp
  have done : ∀ (cs : List Cr) (ss : List Std) (s : Std) (cost : Int) (c' : Option Ob), DrawOk c' → Path 5 k cs ss s cost → cs.length ≤ k.cal.lights.length → wp (gcRet (c :: t) (.tup (cs.map encCr)) (c' :: (t ++ [some (.lst (cs.map encCr))]))) Q := fun cs ss s cost c' h' p hl => by
    rw [gc_drawL h' (by rw [lf_tup]; exact lfs_map lf_encCr), wp_ok]
    have := p.len.1
    exact q cs ss c' h' ⟨hk, ⟨cs, s, cost, p, .inl rfl⟩, fun st => ⟨_, run_go hk p (by omega)⟩, by omega, by omega⟩
  obtain ⟨HI, hHI⟩ : ∃ HI : Nat → Vars → Store → Prop, HI = fun n vs st => ∃ (cs : List Cr) (ss : List Std) (s : Std) (cost : Int) (c' : Option Ob) (v4 v5 v6 v7 : Option D), Path 5 k cs ss s cost ∧ cs.length ≤ k.cal.lights.length ∧ n = k.cal.lights.length - cs.length ∧ DrawOk c' ∧ st = c' :: (t ++ [some (.lst (cs.map encCr))]) ∧ vs = VC k s (t.length + 1) v4 v5 v6 v7 := ⟨_, rfl⟩
  refine while_wp HI (fun n vs st hI => ?_) (k.cal.lights.length) _ _ (by rw [hHI]; exact ⟨[], [first k], first k, 0, c, none, none, none, none, .nil, by simp, by simp, h, rfl, rfl⟩)
  rw [hHI] at hI
  obtain ⟨cs, ss, s, cost, c', v4, v5, v6, v7, p, hl, hn, h', rfl, rfl⟩ := hI
  have stop : ∀ (c1 : Option Ob), DrawOk c1 → wpS (b_law_course_12 (VC k s (t.length + 1) v4 v5 v6 v7) (c1 :: (t ++ [some (.lst (cs.map encCr))]))) ⟨fun x st' => wp (gcRet (c :: t) .non st') Q, fun d st' => wp (gcRet (c :: t) d st') Q, fun _ _ => False, fun _ _ => False⟩ := fun c1 h1 => by
    have := done cs ss s cost c1 h1 p hl
    unfold b_law_course_12 VC
    simp
    exact this
  have next : ∀ (x : Cr) (s' : Std) (ss' : List Std) (cost' : Int) (c1 : Option Ob) (v4 v5 v6 v7 : Option D), DrawOk c1 → Path 5 k (cs ++ [x]) ss' s' cost' → cs.length < k.cal.lights.length → ∃ m, m < n ∧ HI m (VC k s' (t.length + 1) v4 v5 v6 v7) (c1 :: (t ++ [some (.lst ((cs ++ [x]).map encCr))])) := fun x s' ss' cost' c1 v4 v5 v6 v7 h1 p' hl' => by
    rw [hHI]
    exact ⟨k.cal.lights.length - (cs ++ [x]).length, by simp; omega, cs ++ [x], ss', s', cost', c1, _, _, _, _, p', by simp; omega, rfl, h1, rfl, rfl⟩
  clear hHI
  by_cases hth : s.shot.length = k.film.scenes.length
  · have := stop c' h'
    unfold VC at this ⊢
    simp [through_ok, hth]
    exact this
  · by_cases hcl : cs.length < k.cal.lights.length
    · have hcl' : (cs.length : Int) < (k.cal.lights.length : Int) := by omega
      have hday := p.len.2
      obtain ⟨li, l, hm, l1, l2, hst⟩ := ats_of hk (p.ok hk) (by omega) hth
      unfold VC at stop ⊢
      simp [through_ok, hth, ixK1, ixC0, hcl, take_is]
      refine take_wp h' (by omega) (by omega) fun r c1 h1 _ _ => ?_
      by_cases hr : 0 < r
      · simp [hr]
        have ixM : ∀ st2 : Store, ixA (.tup (k.menu.map encM)) (.int (s.day : Nat)) st2 = .ok (encM l) st2 := fun st2 => by simp [hm]
        have hna := fun st2 => natures_ok (s := s) (st := st2) hk.film
        have hne := nats_ne (k := k) (p.ok hk).use
        have hnl := nats_len (s := s) hk.film
        unfold b_law_course_4
        simp [-ixA_tup, ixK3, ixS0, ixM, len_menu, take_is]
        refine take_wp h1 (by omega) (by omega) fun r2 c2 h2 r20 r21 => ?_
        obtain ⟨num, rfl⟩ : ∃ j : Nat, r2 = (j : Int) := ⟨r2.toNat, by omega⟩
        simp
        unfold b_law_course_5
        simp [hna]
        unfold b_law_course_6
        have ixN : ∀ (i : Int) (st2 : Store), 0 ≤ i → i < (nats' k s).length → ∃ n, n ∈ nats' k s ∧ ixA (.lst ((nats' k s).map encNt)) (.int i) st2 = .ok (encNt n) st2 := fun i st2 i0 i1 => by
          have hi : i.toNat < (nats' k s).length := by omega
          refine ⟨(nats' k s)[i.toNat], List.getElem_mem hi, ?_⟩
          rw [ixA_lst, atI_pos i0, List.getElem?_map, List.getElem?_eq_getElem hi]
          rfl
        simp [-ixA_lst, take_is]
        refine take_wp h2 (by omega) (by omega) fun r3 c3 h3 r30 r31 => ?_
        obtain ⟨nt, hnt, hx⟩ := ixN r3 (c3 :: (t ++ [some (.lst (cs.map encCr))])) r30 r31
        obtain ⟨sh, hs⟩ := hst num nt hnt (by omega)
        simp [-ixA_lst, hx]
        unfold b_law_course_7
        simp
        rw [if_pos (by omega)]
        simp
        unfold b_law_course_8
        have hs2 := fun st2 => step_ok (st := st2) hs
        simp [hs2]
        unfold b_law_course_9
        have hC2 : cs.map encCr ++ [D.tup [.int (num : Nat), encNt nt]] = (cs ++ [(⟨num, nt⟩ : Cr)]).map encCr := by rw [List.map_append]; rfl
        have hpl := p.len.1
        rw [hC2]
        cases e : stpW k s li (rowsOf k s sh nt) nt with
        | brk d =>
          have ixO : ∀ st2 : Store, ixA (encOut (.brk d)) (.int 0) st2 = .ok (.str "break") st2 := fun _ => rfl
          obtain ⟨CW, hCW⟩ : ∃ CW, CW = (cs ++ [(⟨num, nt⟩ : Cr)]).map encCr := ⟨_, rfl⟩
          have hlf : lfs CW = true := by rw [hCW]; exact lfs_map lf_encCr
          have hrn := fun st => run_brk (st := st) hk p (by omega) hs e
          rw [← hCW]
          simp [-ixA_tup, ixO]
          rw [gc_drawL h3 (by rw [lf_tup]; exact hlf), wp_ok, hCW]
          exact q _ ss c3 h3 ⟨hk, ⟨cs, s, cost, p, .inr ⟨⟨num, nt⟩, rfl⟩⟩, fun st => ⟨_, hrn st⟩, by omega, by simp; omega⟩
        | go s' cc =>
          have ixO : ∀ st2 : Store, ixA (encOut (.go s' cc)) (.int 0) st2 = .ok (.str "stand") st2 ∧ ixA (encOut (.go s' cc)) (.int 1) st2 = .ok (encSt s') st2 := fun _ => ⟨rfl, rfl⟩
          have nx := fun v4 v5 v6 v7 => next ⟨num, nt⟩ s' (ss ++ [s']) (cost + cc) c3 v4 v5 v6 v7 h3 (.snoc p hs e) hcl
          obtain ⟨CW, hCW⟩ : ∃ CW, CW = (cs ++ [(⟨num, nt⟩ : Cr)]).map encCr := ⟨_, rfl⟩
          rw [← hCW] at nx ⊢
          unfold VC at nx
          simp [-ixA_tup, ixO]
          unfold b_law_course_11
          simp [-ixA_tup, ixO]
          exact nx _ _ _ _
      · have := stop c1 h1
        simp [hr]
        exact this
    · have := stop c' h'
      unfold VC at this ⊢
      simp [through_ok, hth, ixK1, ixC0, hcl]
      exact this
end Lk72
namespace Lk72
open PySem Dn
/-! ### days of scenes -/
def encDO : Option Nat → D
  | none => .non
  | some d => .int (d : Nat)
theorem lf_encDO (o : Option Nat) : lf (encDO o) = true := by cases o <;> simp [encDO]
def upS (a : Std) (l : List (Option Nat)) (sc : Nat) : List (Option Nat) := if sc ∈ a.shot then l else l.set sc (some a.day)
def upd1 (a b : Std) (l : List (Option Nat)) : List (Option Nat) := b.shot.foldl (upS a) l
def daysL : List Std → List (Option Nat) → List (Option Nat)
  | a :: b :: r, l => daysL (b :: r) (upd1 a b l)
  | _, l => l
theorem upS_len {a : Std} {l : List (Option Nat)} {sc : Nat} : (upS a l sc).length = l.length := by
  unfold upS
  split <;> simp
theorem upd_len {a : Std} : ∀ (scs : List Nat) (l : List (Option Nat)), (scs.foldl (upS a) l).length = l.length
  | [], _ => rfl
  | s :: scs, l => by rw [List.foldl_cons, upd_len scs, upS_len]
theorem daysL_len : ∀ (ss : List Std) (l : List (Option Nat)), (daysL ss l).length = l.length
  | [], _ => rfl
  | [_], _ => rfl
  | a :: b :: r, l => by
    unfold daysL
    rw [daysL_len (b :: r)]
    exact upd_len _ _
def daysOf (n : Nat) (ss : List Std) : List (Option Nat) := daysL ss (List.replicate n none)
theorem daysOf_len {n : Nat} {ss : List Std} : (daysOf n ss).length = n := by
  unfold daysOf
  rw [daysL_len]
  simp
theorem zip_st {x y : Std} {r : List Std} : zipP ((x :: y :: r).map encSt) (((x :: y :: r).map encSt).drop 1) = .tup [encSt x, encSt y] :: zipP ((y :: r).map encSt) (((y :: r).map encSt).drop 1) := rfl
section
variable {k : Case} {co : List Cr} {ss : List Std} {st : Store}
theorem Crs.all (h : Crs k co ss) : ∀ x ∈ ss, ShotOk k.film.scenes.length x.shot := by
  obtain ⟨cs, s, c, p, _⟩ := h.cs
  exact p.all h.ck
theorem shot_days_ok (h : Crs k co ss) : m_shot_days [encK k, .tup (co.map encCr)] st = .ok (.lst ((daysOf k.film.scenes.length ss).map encDO)) st := by
  obtain ⟨X, hrun⟩ := h.run st
  have hall := h.all
  have hsc : k.film.scenes.length ≤ 60 := by have := h.ck.film.sc; omega
  obtain ⟨n, hn⟩ : ∃ n, n = k.film.scenes.length := ⟨_, rfl⟩
  have hn60 : n ≤ 60 := by omega
  have hnK : ∀ st2, lenD [.tup (k.film.scenes.map encSc)] st2 = .ok (.int (n : Nat)) st2 := fun st2 => by rw [hn]; simp
  rw [← hn] at hall ⊢
  obtain ⟨DU, hDU⟩ : ∃ DU, DU = daysOf n ss := ⟨_, rfl⟩
  rw [← hDU]
  have hDl : DU.length = n := by rw [hDU, daysOf_len]
  refine wp_eq ?_
  unfold m_shot_days
  rw [wp_fnD]
  unfold b_shot_days
  obtain ⟨CW, hCW⟩ : ∃ CW, CW = co.map encCr := ⟨_, rfl⟩
  obtain ⟨SW, hSW⟩ : ∃ SW, SW = ss.map encSt := ⟨_, rfl⟩
  rw [← hCW, ← hSW] at hrun
  rw [← hCW]
  simp [hrun]
  unfold b_shot_days_2
  have hmul : ∀ st2 : Store, mulD true (.lst [.non]) (.int (n : Nat)) st2 = .ok (.loc st2.length) (st2 ++ [some (.lst ((List.replicate n (none : Option Nat)).map encDO))]) := fun st2 => by
    unfold mulD
    simp only [lstOf_lst]
    rw [if_pos ⟨by omega, by omega, by simp; omega⟩, mkNew_t, Int.toNat_natCast, List.map_replicate]
    simp [encDO]
  simp [-Dn.len_eq, ixK0, ixF2, hnK, hmul, -List.map_replicate]
  unfold b_shot_days_3
  have hs1 : ∀ st2, sliceD false (.tup SW) (some 1) none st2 = .ok (.tup (SW.drop 1)) st2 := fun st2 => by rw [sl_tup, cut_from1]
  simp [-Dn.sl_tup, -List.drop_one, sFor_wp, hs1, -List.map_replicate]
  obtain ⟨HI, hHI⟩ : ∃ HI : List D → Vars → Store → Prop, HI = fun L vs st1 => ∃ (suf : List Std) (l : List (Option Nat)), L = zipP (suf.map encSt) ((suf.map encSt).drop 1) ∧ (∀ x ∈ suf, ShotOk n x.shot) ∧ l.length = n ∧ daysL suf l = DU ∧ st1 = st ++ [some (.lst (l.map encDO))] ∧ vs = [some (encK k), some (.tup CW), some (.tup SW), some (.loc st.length), none, none, none] := ⟨_, rfl⟩
  refine forGo_wp HI (fun _ _ _ _ => trivial) (fun d L vs st1 hI => ?_) (fun vs st1 hI => ?_) _ _ _ (by rw [hHI]; exact ⟨ss, List.replicate n none, by rw [hSW], hall, by simp, by rw [hDU]; rfl, rfl, rfl⟩)
  · rw [hHI] at hI
    obtain ⟨suf, l, hL, hsuf, hll, hT, rfl, rfl⟩ := hI
    cases suf with
    | nil => cases hL
    | cons a suf =>
      cases suf with
      | nil => cases hL
      | cons b r =>
        rw [zip_st] at hL
        injection hL with e1 e2
        subst e1 e2
        refine ⟨_, rfl, ?_⟩
        have hT2 : daysL (b :: r) (upd1 a b l) = DU := hT
        have hbs := hsuf b (by simp)
        have fin : HI (zipP ((b :: r).map encSt) (((b :: r).map encSt).drop 1)) [some (encK k), some (.tup CW), some (.tup SW), some (.loc st.length), none, none, none] (st ++ [some (.lst ((upd1 a b l).map encDO))]) := by
          rw [hHI]
          exact ⟨b :: r, upd1 a b l, rfl, fun x hx => hsuf x (List.mem_cons_of_mem _ hx), by rw [← hll]; exact upd_len _ _, hT2, rfl, rfl⟩
        clear hHI
        unfold b_shot_days_4
        have hiE : ∀ st2 : Store, itsOf st2 (encN b.shot) = some (nats b.shot, []) := fun st2 => rfl
        simp [sFor_wp, ixS1, hiE]
        obtain ⟨HJ, hHJ⟩ : ∃ HJ : List D → Vars → Store → Prop, HJ = fun L vs st1 => ∃ (suf : List Nat) (l2 : List (Option Nat)), L = nats suf ∧ (∀ x ∈ suf, x < n) ∧ l2.length = n ∧ suf.foldl (upS a) l2 = upd1 a b l ∧ st1 = st ++ [some (.lst (l2.map encDO))] ∧ vs = [some (encK k), some (.tup CW), some (.tup SW), some (.loc st.length), some (encSt a), some (encSt b), none] := ⟨_, rfl⟩
        refine forGo_wp HJ (fun _ _ _ _ => trivial) (fun d L vs st1 hJ => ?_) (fun vs st1 hJ => ?_) _ _ _ (by rw [hHJ]; exact ⟨b.shot, l, rfl, hbs.lt, hll, rfl, rfl, rfl⟩)
        · rw [hHJ] at hJ
          obtain ⟨suf, l2, hL, hlt, hl2, hT3, rfl, rfl⟩ := hJ
          cases suf with
          | nil => cases hL
          | cons sc suf =>
            injection hL with e1 e2
            subst e1 e2
            refine ⟨_, rfl, ?_⟩
            have hsc2 := hlt sc List.mem_cons_self
            have fin2 : HJ (nats suf) [some (encK k), some (.tup CW), some (.tup SW), some (.loc st.length), some (encSt a), some (encSt b), none] (st ++ [some (.lst ((upS a l2 sc).map encDO))]) := by
              rw [hHJ]
              exact ⟨suf, upS a l2 sc, rfl, fun x hx => hlt x (List.mem_cons_of_mem _ hx), by rw [upS_len]; exact hl2, hT3, rfl, rfl⟩
            clear hHJ
            unfold b_shot_days_5
            have hnin : ∀ st2 : Store, inA true ninD (.int (sc : Nat)) (encN a.shot) st2 = .ok (.bl !(decide (sc ∈ a.shot))) st2 := fun st2 => nin_nats (xs := a.shot) (i := sc) (y := encN a.shot) rfl
            simp [ixS1, hnin]
            unfold upS at fin2
            by_cases hm : sc ∈ a.shot
            · rw [if_pos hm] at fin2
              simp [hm]
              exact fin2
            · rw [if_neg hm] at fin2
              have hst : setA (.loc st.length) (.int (sc : Nat)) (.int (a.day : Nat)) (st ++ [some (.lst (l2.map encDO))]) = some (st ++ [some (.lst ((l2.set sc (some a.day)).map encDO))]) := by
                rw [setA_loc (ds := l2.map encDO) (by simp), ixN_pos (by omega) (by simp; omega), Int.toNat_natCast]
                simp [List.map_set]
                rfl
              simp [hm, ixS0, hst]
              rw [List.map_set] at fin2
              exact fin2
        · rw [hHJ] at hJ
          obtain ⟨suf, l2, hL, hlt, hl2, hT3, rfl, rfl⟩ := hJ
          cases suf with
          | cons sc suf => cases hL
          | nil =>
            have e : l2 = upd1 a b l := hT3
            rw [e]
            exact fin
  · rw [hHI] at hI
    obtain ⟨suf, l, hL, hsuf, hll, hT, rfl, rfl⟩ := hI
    have e : l = DU := by
      cases suf with
      | nil => exact hT
      | cons a suf =>
        cases suf with
        | nil => exact hT
        | cons b r => cases hL
    subst e
    unfold b_shot_days_7
    simp
    have := gc_lst (st0 := st) (l := [some (.lst (l.map encDO))]) (ds := l.map encDO) (i := 0) rfl (lfs_map lf_encDO)
    rw [Nat.add_zero] at this
    rw [this]
    simp
end
end Lk72
namespace Lk72
open PySem Dn
def SE (c : Str) : Exn := ⟨"StockError", [("code", .str c)]⟩
theorem ed_lab : d_MOST_LAB = .int 9 := rfl
def bkO (lab : Int) : Option Nat → D
  | none => .non
  | some d => .int ((d : Nat) + lab)
theorem lf_bkO (lab : Int) (o : Option Nat) : lf (bkO lab o) = true := by cases o <;> simp [bkO]
theorem okd_bkO {n : Nat} (lab : Int) (o : Option Nat) : okd n (bkO lab o) = true := by
  cases o with
  | none => exact okd_non
  | some d => exact okd_int
section
variable {k : Case} {co : List Cr} {ss : List Std} {st : Store} {lab : Int}
theorem check_lab_ok (h : 0 ≤ lab ∧ lab ≤ 9) : m_check_lab [.int lab] st = .ok .non st := by
  refine wp_eq ?_
  unfold m_check_lab
  rw [wp_fnD]
  unfold b_check_lab
  simp [ed_lab, h.1, h.2]
theorem check_lab_no (h : ¬ (0 ≤ lab ∧ lab ≤ 9)) : m_check_lab [.int lab] st = .exc (SE "lab") st := by
  refine wpX_eq ?_
  unfold m_check_lab
  rw [wpX_fnD]
  unfold b_check_lab
  by_cases h1 : 0 ≤ lab
  · have h2 : ¬ lab ≤ 9 := fun q => h ⟨h1, q⟩
    simp [ed_lab, h1, h2]
    rfl
  · simp [ed_lab, h1]
    rfl
theorem back_ok (h : Crs k co ss) (hl : 0 ≤ lab ∧ lab ≤ 9) : m_back_days [encK k, .tup (co.map encCr), .int lab] st = .ok (.tup ((daysOf k.film.scenes.length ss).map (bkO lab))) st := by
  have hs := fun st2 => shot_days_ok (st := st2) h
  have hsc : k.film.scenes.length ≤ 60 := by have := h.ck.film.sc; omega
  have hdl := daysOf_len (n := k.film.scenes.length) (ss := ss)
  generalize daysOf k.film.scenes.length ss = DU at *
  obtain ⟨CW, hCW⟩ : ∃ CW, CW = co.map encCr := ⟨_, rfl⟩
  rw [← hCW] at hs
  refine wp_eq ?_
  unfold m_back_days
  rw [wp_fnD]
  unfold b_back_days
  rw [← hCW]
  simp [check_lab_ok hl, hs, eComp_wp]
  refine ⟨by omega, ?_⟩
  rw [compGo_map (h := bkO lab) trivial fun o ho => ⟨_, rfl, by cases o <;> simp [encDO, bkO]⟩]
  simp [lfs_map (lf_bkO lab)]
theorem back_no {x y : D} (hl : ¬ (0 ≤ lab ∧ lab ≤ 9)) : m_back_days [x, y, .int lab] st = .exc (SE "lab") st := by
  refine wpX_eq ?_
  unfold m_back_days
  rw [wpX_fnD]
  unfold b_back_days
  simp [check_lab_no hl]
  unfold SE
  rw [gc_exn_same (by simp)]
  simp
def asc (l : List Int) : Bool := (l.zip (l.drop 1)).all fun p => decide (p.1 < p.2)
theorem ascends_ok {l : List Int} (hl : l.length ≤ 1000) : m_ascends [.tup (l.map .int)] st = .ok (.bl (asc l)) st := by
  refine wp_eq ?_
  unfold m_ascends
  rw [wp_fnD]
  unfold b_ascends
  obtain ⟨LW, hLW⟩ : ∃ LW, LW = l.map D.int := ⟨_, rfl⟩
  have hLl : LW.length = l.length := by rw [hLW]; simp
  have hs1 : ∀ st2, sliceD false (.tup LW) (some 1) none st2 = .ok (.tup (LW.drop 1)) st2 := fun st2 => by rw [sl_tup, cut_from1]
  have hz : zipP LW (LW.drop 1) = (l.zip (l.drop 1)).map fun p : Int × Int => D.tup [.int p.1, .int p.2] := by
    unfold zipP
    rw [hLW, ← List.map_drop, List.zip_map, List.map_map]
    rfl
  rw [← hLW]
  simp [-Dn.sl_tup, -List.drop_one, hs1, eComp_wp]
  rw [hz]
  refine ⟨by simp; omega, ?_⟩
  rw [compGo_map (h := fun p : Int × Int => .bl (decide (p.1 < p.2))) trivial fun p hp => ⟨_, rfl, by simp⟩]
  simp [-List.drop_one]
  rfl
def rightS (n : Nat) (l : List Int) : Bool := match l with
  | [] => false
  | a :: r => asc (a :: r) && (decide (0 ≤ a) && decide ((a :: r).getLast (by simp) < (n : Int)))
theorem last_int {a : Int} {r : List Int} {st : Store} : ixA (.tup ((a :: r).map .int)) (.int (-1)) st = .ok (.int ((a :: r).getLast (by simp))) st := by
  have h : (a :: r) = (a :: r).dropLast ++ [(a :: r).getLast (by simp)] := (List.dropLast_concat_getLast (by simp)).symm
  generalize (a :: r).getLast (by simp) = z at *
  rw [h, List.map_append, List.map_cons, List.map_nil, ixA_tup, atI_last]
theorem check_scenes_is {l : List Int} (hl : l.length ≤ 1000) : m_check_scenes [encK k, .tup (l.map .int)] st = if rightS k.film.scenes.length l = true then .ok .non st else .exc (SE "scenes") st := by
  have ha := fun st2 => ascends_ok (st := st2) hl
  cases l with
  | nil =>
    rw [if_neg (by simp [rightS])]
    refine wpX_eq ?_
    unfold m_check_scenes
    rw [wpX_fnD]
    unfold b_check_scenes
    simp
    rfl
  | cons a r =>
    have hla := fun st2 => last_int (a := a) (r := r) (st := st2)
    rw [show rightS k.film.scenes.length (a :: r) = (asc (a :: r) && (decide (0 ≤ a) && decide ((a :: r).getLast (by simp) < (k.film.scenes.length : Int)))) from rfl]
    generalize (a :: r).getLast (by simp) = z at *
    generalize asc (a :: r) = B at *
    obtain ⟨LW, hLW⟩ : ∃ LW, LW = (a :: r).map D.int := ⟨_, rfl⟩
    have hLl : LW.length = r.length + 1 := by rw [hLW]; simp
    have h0 : ∀ st2 : Store, ixA (.tup LW) (.int 0) st2 = .ok (.int a) st2 := fun st2 => by rw [hLW]; simp
    rw [← hLW] at ha hla ⊢
    have hpos : (0 : Int) < (LW.length : Int) := by omega
    by_cases hr : (B && (decide (0 ≤ a) && decide (z < (k.film.scenes.length : Int)))) = true
    · rw [if_pos hr]
      simp only [Bool.and_eq_true, decide_eq_true_eq] at hr
      obtain ⟨h1, h2, h3⟩ := hr
      refine wp_eq ?_
      unfold m_check_scenes
      rw [wp_fnD]
      unfold b_check_scenes
      simp [-ixA_tup, hpos, hLl, ha, h0, hla, h1, h2, h3, ixK0, ixF2]
    · rw [if_neg hr]
      refine wpX_eq ?_
      unfold m_check_scenes
      rw [wpX_fnD]
      unfold b_check_scenes
      cases B with
      | false =>
        simp [hLl, ha]
        rfl
      | true =>
        by_cases h2 : 0 ≤ a
        · have h3 : ¬ z < (k.film.scenes.length : Int) := fun q => hr (by simp [h2, q])
          simp [-ixA_tup, hLl, ha, h0, hla, h2, h3, ixK0, ixF2]
          rfl
        · simp [-ixA_tup, hLl, ha, h0, h2]
          rfl
end
end Lk72
namespace Lk72
open PySem Dn
theorem asc_of : ∀ {l : List Nat}, l.Pairwise (· < ·) → asc (intsL l) = true
  | [], _ => rfl
  | [a], _ => rfl
  | a :: b :: r, h => by
    have h1 := (List.pairwise_cons.mp h).1 b (by simp)
    have h2 := asc_of (List.pairwise_cons.mp h).2
    show (decide ((a : Int) < (b : Int)) && asc (intsL (b :: r))) = true
    rw [h2]
    simp
    exact h1
theorem right_of {n : Nat} {l : List Nat} (h : l.Sublist (List.range n)) (hne : l ≠ []) : rightS n (intsL l) = true := by
  have ha := asc_of (List.Pairwise.sublist h List.pairwise_lt_range)
  cases l with
  | nil => exact absurd rfl hne
  | cons a r =>
    show (asc (intsL (a :: r)) && (decide (0 ≤ (a : Int)) && decide ((intsL (a :: r)).getLast _ < (n : Int)))) = true
    rw [ha]
    have hl : (intsL (a :: r)).getLast (by simp [intsL]) ∈ intsL (a :: r) := List.getLast_mem _
    obtain ⟨k, hk, e⟩ := List.mem_map.mp hl
    have := List.mem_range.mp (h.subset hk)
    simp
    have e' : (intsL (a :: r)).getLast (by simp [intsL]) = (k : Int) := e.symm
    rw [e']
    omega
def anyNo (os : List (Option Nat)) : Bool := os.any Option.isNone
def dmax (os : List (Option Nat)) (lab : Int) : Int := maxI (os.map fun o => ((o.getD 0 : Nat) : Int) + lab)
def cutR (os : List (Option Nat)) (lab : Int) : D := if anyNo os = true then .non else .int (dmax os lab)
theorem in_no {os : List (Option Nat)} {lab : Int} {st : Store} : inA false inD .non (.lst (os.map (bkO lab))) st = .ok (.bl (anyNo os)) st := by
  show inD .non (.lst (os.map (bkO lab))) st = _
  have hf : (os.map (bkO lab)).all flatD = true := List.all_eq_true.mpr fun d hd => by
    obtain ⟨o, _, rfl⟩ := List.mem_map.mp hd
    cases o <;> simp [bkO]
  rw [in_flat (ds := os.map (bkO lab)) (by simp) hf rfl]
  congr 2
  unfold anyNo
  rw [List.any_map]
  congr 1
  funext o
  cases o <;> simp [bkO]
theorem bkO_zero (o : Option Nat) : bkO 0 o = encDO o := by
  cases o <;> simp [bkO, encDO]
theorem ints_bk {lab : Int} : ∀ {os : List (Option Nat)}, ¬ anyNo os = true → intsOf (os.map (bkO lab)) = some (os.map fun o => ((o.getD 0 : Nat) : Int) + lab)
  | [], _ => rfl
  | none :: os, h => absurd (by simp [anyNo]) h
  | some d :: os, h => by
    have h2 : ¬ anyNo os = true := fun q => h (by simp [anyNo] at q ⊢; exact q)
    rw [List.map_cons, show bkO lab (some d) = .int ((d : Nat) + lab) from rfl, intsOf_cons, ints_bk h2]
    rfl
theorem max_bk {os : List (Option Nat)} {lab : Int} {st : Store} (hne : os ≠ []) (h : ¬ anyNo os = true) : maxD [.lst (os.map (bkO lab))] st = .ok (.int (dmax os lab)) st := by
  refine max1_ints (L := os.map fun o => ((o.getD 0 : Nat) : Int) + lab) ?_ (by simpa using hne)
  rw [lstOf_lst, Option.bind_some, ints_bk h]
theorem dmax_add {os : List (Option Nat)} {lab : Int} (hne : os ≠ []) : dmax os 0 + lab = dmax os lab := by
  unfold dmax
  obtain ⟨o, r, rfl⟩ := List.exists_cons_of_ne_nil hne
  obtain ⟨h1, h2⟩ := maxI_is (i := ((o.getD 0 : Nat) : Int) + 0) (r := r.map fun o => ((o.getD 0 : Nat) : Int) + 0)
  rw [← List.map_cons (f := fun o : Option Nat => ((o.getD 0 : Nat) : Int) + 0)] at h1 h2
  refine max_uniq ?_ fun y hy => ?_
  · obtain ⟨a, ha, e⟩ := List.mem_map.mp h1
    refine List.mem_map.mpr ⟨a, ha, ?_⟩
    omega
  · obtain ⟨a, ha, rfl⟩ := List.mem_map.mp hy
    have := h2 _ (List.mem_map_of_mem ha)
    omega
section
variable {k : Case} {co : List Cr} {ss : List Std} {st : Store} {lab : Int}
def ownO (DU : List (Option Nat)) (l : List Nat) : List (Option Nat) := l.map fun sc => (DU[sc]?).getD none
theorem cut_ok (h : Crs k co ss) (hl : 0 ≤ lab ∧ lab ≤ 9) {l : List Nat} (hs : l.Sublist (List.range k.film.scenes.length)) (hne : l ≠ []) : m_cut_day [encK k, .tup (co.map encCr), encN l, .int lab] st = .ok (cutR (ownO (daysOf k.film.scenes.length ss) l) lab) st := by
  have hsd := fun st2 => shot_days_ok (st := st2) h
  have hsc : k.film.scenes.length ≤ 60 := by have := h.ck.film.sc; omega
  have hll := hs.length_le
  rw [List.length_range] at hll
  have hcs : ∀ st2, m_check_scenes [encK k, encN l] st2 = .ok .non st2 := fun st2 => by
    have := check_scenes_is (k := k) (l := intsL l) (st := st2) (by simp [intsL]; omega)
    rw [if_pos (right_of hs hne), ← encN_ints] at this
    exact this
  have hdl := daysOf_len (n := k.film.scenes.length) (ss := ss)
  generalize daysOf k.film.scenes.length ss = DU at *
  obtain ⟨CW, hCW⟩ : ∃ CW, CW = co.map encCr := ⟨_, rfl⟩
  rw [← hCW] at hsd
  have hone : ownO DU l ≠ [] := by simpa [ownO] using hne
  refine wp_eq ?_
  unfold m_cut_day
  rw [wp_fnD]
  unfold b_cut_day
  rw [← hCW]
  have hiE : ∀ st2 : Store, itsOf st2 (encN l) = some (nats l, []) := fun st2 => rfl
  obtain ⟨DW, hDW⟩ : ∃ DW, DW = DU.map encDO := ⟨_, rfl⟩
  rw [← hDW] at hsd
  simp [check_lab_ok hl, hcs, hsd, eComp_wp, hiE, nats]
  refine ⟨by omega, ?_⟩
  have hm := compGo_map (g := gN 6) (e := e2 ixA (eV 4) (eV 6)) (gd := grd (l.map fun k : Nat => D.int (k : Nat), [])) (vs := [some (encK k), some (.tup CW), some (encN l), some (.int lab), some (.lst DW), none, none]) (st := st) (f := fun k : Nat => D.int (k : Nat)) (h := fun sc : Nat => bkO 0 ((DU[sc]?).getD none)) trivial (xs := l) (fun sc hsc => by
    have hi := List.mem_range.mp (hs.subset hsc)
    have hi2 : sc < DU.length := by omega
    refine ⟨_, rfl, ?_⟩
    rw [bkO_zero, List.getElem?_eq_getElem hi2]
    simp [hDW, hi2])
  rw [hm]
  have eo : (l.map fun sc : Nat => bkO 0 ((DU[sc]?).getD none)) = (ownO DU l).map (bkO 0) := by
    unfold ownO
    rw [List.map_map]
    rfl
  rw [eo]
  have hin := fun st2 => in_no (os := ownO DU l) (lab := 0) (st := st2)
  have hmx := fun (h : ¬ anyNo (ownO DU l) = true) st2 => max_bk (st := st2) (lab := 0) hone h
  have hda := dmax_add (lab := lab) hone
  unfold cutR
  generalize ownO DU l = os at *
  obtain ⟨OW, hOW⟩ : ∃ OW, OW = os.map (bkO 0) := ⟨_, rfl⟩
  rw [← hOW] at hin hmx
  rw [← hOW]
  by_cases hn : anyNo os = true
  · simp [-Dn.inA_lst, hin, hn]
  · simp [-Dn.inA_lst, hin, hn, hmx hn, hda]
theorem cut_no_lab {x y z : D} (hl : ¬ (0 ≤ lab ∧ lab ≤ 9)) : m_cut_day [x, y, z, .int lab] st = .exc (SE "lab") st := by
  refine wpX_eq ?_
  unfold m_cut_day
  rw [wpX_fnD]
  unfold b_cut_day
  simp [check_lab_no hl]
  unfold SE
  rw [gc_exn_same (by simp)]
  simp
theorem cut_no_scenes {y : D} {l : List Int} (hl : 0 ≤ lab ∧ lab ≤ 9) (hn : l.length ≤ 1000) (hr : rightS k.film.scenes.length l = false) : m_cut_day [encK k, y, .tup (l.map .int), .int lab] st = .exc (SE "scenes") st := by
  have hcs : ∀ st2, m_check_scenes [encK k, .tup (l.map .int)] st2 = .exc (SE "scenes") st2 := fun st2 => by
    have := check_scenes_is (k := k) (l := l) (st := st2) hn
    rw [if_neg (by rw [hr]; simp)] at this
    exact this
  obtain ⟨LW, hLW⟩ : ∃ LW, LW = l.map D.int := ⟨_, rfl⟩
  rw [← hLW] at hcs ⊢
  refine wpX_eq ?_
  unfold m_cut_day
  rw [wpX_fnD]
  unfold b_cut_day
  simp [check_lab_ok hl, hcs]
  unfold SE
  rw [gc_exn_same (by simp)]
  simp
end
end Lk72
namespace Lk72
open PySem Dn
/-! ### rolls -/
def pio (roll : Int) : List Int → Int → Int → List Int
  | [], _, _ => []
  | t :: ts, n, l => if l < t then (n + 1) :: pio roll ts (n + 1) (roll - t) else n :: pio roll ts n (l - t)
def lw (roll : Int) : List Int → Int → Int → Int
  | [], u, _ => u
  | t :: ts, u, l => lw roll ts (u + b2i (decide (l < t))) ((if l < t then roll else l) - t)
theorem pio_len {roll : Int} : ∀ (ts : List Int) (n l : Int), (pio roll ts n l).length = ts.length
  | [], _, _ => rfl
  | t :: ts, n, l => by
    unfold pio
    split <;> simp [pio_len ts]
theorem pio_last {roll : Int} : ∀ (ts : List Int) (n l : Int), ((pio roll ts n l).getLast?.getD n) + 1 = lw roll ts (n + 1) l
  | [], n, l => rfl
  | t :: ts, n, l => by
    unfold pio lw
    by_cases h : l < t
    · rw [if_pos h, if_pos h, List.getLast?_cons, Option.getD_some, pio_last ts (n + 1) (roll - t)]
      simp [h, b2i]
    · rw [if_neg h, if_neg h, List.getLast?_cons, Option.getD_some, pio_last ts n (l - t)]
      simp [h, b2i]
theorem rolls_eq {roll : Int} {t : Int} {ts : List Int} (h0 : 0 < t) (h1 : t ≤ roll) : ((pio roll (t :: ts) 0 roll).getLast?.getD 0) + 1 = lw roll (t :: ts) 0 0 := by
  rw [pio_last]
  unfold lw
  have h2 : ¬ roll < t := by omega
  simp [h0, h2, b2i]
section
variable {st : Store}
theorem put_ok {ts : List Int} {roll : Int} (hl : ts.length ≤ 1000) : m_put_in_order [.lst (ts.map .int), .int roll] st = .ok (.tup ((pio roll ts 0 roll).map .int)) st := by
  obtain ⟨T, hT⟩ : ∃ T, T = pio roll ts 0 roll := ⟨_, rfl⟩
  have hTl : T.length = ts.length := by rw [hT, pio_len]
  rw [← hT]
  refine wp_eq ?_
  unfold m_put_in_order
  rw [wp_fnD]
  unfold b_put_in_order
  simp
  unfold b_put_in_order_2
  simp
  unfold b_put_in_order_3
  simp
  unfold b_put_in_order_4
  simp [sFor_wp]
  obtain ⟨HI, hHI⟩ : ∃ HI : List D → Vars → Store → Prop, HI = fun L vs st1 => ∃ (suf acc : List Int) (n l : Int), L = suf.map .int ∧ acc ++ pio roll suf n l = T ∧ st1 = st ++ [some (.lst (acc.map .int))] ∧ vs = [some (.lst (ts.map .int)), some (.int roll), some (.loc st.length), some (.int n), some (.int l), none] := ⟨_, rfl⟩
  refine forGo_wp HI (fun _ _ _ _ => trivial) (fun d L vs st1 hI => ?_) (fun vs st1 hI => ?_) _ _ _ (by rw [hHI]; exact ⟨ts, [], 0, roll, rfl, hT.symm, rfl, rfl⟩)
  · rw [hHI] at hI
    obtain ⟨suf, acc, n, l, hL, ha, rfl, rfl⟩ := hI
    cases suf with
    | nil => cases hL
    | cons t suf =>
      injection hL with e1 e2
      subst e1 e2
      refine ⟨_, rfl, ?_⟩
      have hal : acc.length + (suf.length + 1) = T.length := by
        rw [← ha, List.length_append, pio_len, List.length_cons]
      have fin : ∀ x n' l', acc ++ x :: pio roll suf n' l' = T → HI (suf.map .int) [some (.lst (ts.map .int)), some (.int roll), some (.loc st.length), some (.int n'), some (.int l'), none] (st ++ [some (.lst (acc.map .int ++ [.int x]))]) := fun x n' l' e => by
        rw [hHI]
        exact ⟨suf, acc ++ [x], n', l', rfl, by rw [List.append_assoc]; exact e, by rw [List.map_append]; rfl, rfl⟩
      clear hHI
      unfold pio at ha
      have ia : ∀ (i j : Int) (st2 : Store), iaddD (.int i) (.int j) st2 = .ok (.int (i + j)) st2 := fun _ _ _ => rfl
      obtain ⟨TW, hTW⟩ : ∃ TW, TW = ts.map D.int := ⟨_, rfl⟩
      rw [← hTW] at fin ⊢
      unfold b_put_in_order_5
      by_cases h : l < t
      · rw [if_pos h] at ha
        have := fin _ _ _ ha
        simp [h]
        unfold b_put_in_order_6
        simp [ia]
        unfold b_put_in_order_7
        simp
        unfold b_put_in_order_8
        simp
        rw [if_pos (by omega)]
        simp
        unfold b_put_in_order_9
        simp
        exact this
      · rw [if_neg h] at ha
        have := fin _ _ _ ha
        simp [h]
        unfold b_put_in_order_8
        simp
        rw [if_pos (by omega)]
        simp
        unfold b_put_in_order_9
        simp
        exact this
  · rw [hHI] at hI
    obtain ⟨suf, acc, n, l, hL, ha, rfl, rfl⟩ := hI
    cases suf with
    | cons t suf => cases hL
    | nil =>
      have e : acc = T := by rw [← ha]; simp [pio]
      subst e
      unfold b_put_in_order_10
      simp
      rw [gc_app (by rw [lf_tup]; exact lfs_ints)]
      simp
def minsAt (f : Film) (i : Int) : Int := match f.scenes[i.toNat]? with
  | some sc => sc.mins
  | none => 0
def tks (f : Film) (rows : List Row) : List Int := (rows.filter fun r => decide (r.item ≠ -1)).map fun r => minsAt f r.item
def drS (k : Case) (roll : Int) (p : Std × Cr) : Int := match (k.menu[p.1.day]?).bind (·[p.2.num]?) with
  | some sh => lw roll (tks k.film (rowsOf k p.1 sh p.2.nt)) 0 0
  | none => 0
theorem tks_pos {m : Nat} {f : Film} {rows : List Row} {roll : Int} (hf : FilmOk m f) (hr : RsOk f.scenes.length rows) (hroll : ∀ s ∈ f.scenes, s.mins ≤ roll) : ∀ t ∈ tks f rows, 0 < t ∧ t ≤ roll := fun t ht => by
  obtain ⟨r, hr1, rfl⟩ := List.mem_map.mp ht
  obtain ⟨h1, h2⟩ := List.mem_filter.mp hr1
  have h3 : r.item ≠ -1 := of_decide_eq_true h2
  rcases hr.2 r h1 with h4 | h4
  · exact absurd h4 h3
  · have hi : r.item.toNat < f.scenes.length := by omega
    unfold minsAt
    rw [List.getElem?_eq_getElem hi]
    have hm := List.getElem_mem hi
    have := (hf.so _ hm).2.2.1
    exact ⟨by show 0 < (f.scenes[r.item.toNat]).mins; omega, hroll _ hm⟩
theorem drS_is {k : Case} {s : Std} {num : Nat} {n : Nt} {li : Int × Int} {sh : Sheet} {roll : Int} (h : StpOk 5 k s num n li sh) : drS k roll (s, ⟨num, n⟩) = lw roll (tks k.film (rowsOf k s sh n)) 0 0 := by
  obtain ⟨l, h1, h2⟩ := h.csh
  unfold drS
  simp only [h1, Option.bind_some, h2]
theorem mins_ix {k : Case} {nn : Nat} {rows : List Row} (hr : RsOk k.film.scenes.length rows) {r : Row} (hm : r ∈ rows) (hn : r.item ≠ -1) : ∃ sc, k.film.scenes[r.item.toNat]? = some sc ∧ 0 ≤ r.item ∧ minsAt k.film r.item = sc.mins := by
  rcases hr.2 r hm with h4 | h4
  · exact absurd h4 hn
  · have hi : r.item.toNat < k.film.scenes.length := by omega
    refine ⟨k.film.scenes[r.item.toNat], List.getElem?_eq_getElem hi, h4.1, ?_⟩
    unfold minsAt
    rw [List.getElem?_eq_getElem hi]
theorem day_rolls_ok {k : Case} {s : Std} {num : Nat} {n : Nt} {li : Int × Int} {sh : Sheet} {roll : Int} (h : StpOk 5 k s num n li sh) (hroll : ∀ sc ∈ k.film.scenes, sc.mins ≤ roll) : m_day_rolls [encK k, encSt s, .int (num : Nat), encNt n, .int roll] st = .ok (.int (drS k roll (s, ⟨num, n⟩))) st := by
  rw [drS_is h]
  obtain ⟨X, hh⟩ := hours_st h
  obtain ⟨l, h3, h4⟩ := h.csh
  have ixM : ∀ st2 : Store, ixA (.tup (k.menu.map encM)) (.int (s.day : Nat)) st2 = .ok (encM l) st2 := fun st2 => by simp [h3]
  have ixL : ∀ st2 : Store, ixA (encM l) (.int (num : Nat)) st2 = .ok (encS sh) st2 := fun st2 => by simp [encM, h4]
  have hr := h.rows.1
  have htp := tks_pos h.ck.film hr hroll
  have htl : (tks k.film (rowsOf k s sh n)).length ≤ 100 := by
    unfold tks
    rw [List.length_map]
    exact Nat.le_trans (List.length_filter_le _ _) hr.1
  have edM : d_MEAL = .int (-1) := rfl
  refine wp_eq ?_
  unfold m_day_rolls
  rw [wp_fnD]
  unfold b_day_rolls
  have hrl := hr.1
  simp [-ixA_tup, ixK0, ixK3, ixS0, ixS1, ixM, ixL, hh]
  simp [eComp_wp]
  refine ⟨by omega, ?_⟩
  rw [compGo_fmap (p := fun r : Row => decide (r.item ≠ -1)) (h := fun r : Row => D.int (minsAt k.film r.item)) trivial fun r hrm => ⟨_, rfl, by simp [encRow, edM], fun hp => by
    obtain ⟨sc, s1, s2, s3⟩ := mins_ix (nn := 0) hr hrm (of_decide_eq_true hp)
    have e3 : ∀ st, ixA (encSc sc) (.int 3) st = .ok (.int sc.mins) st := fun st => by simp [encSc]
    simp [encRow, ixK0, ixF2, s1, s2, s3, e3]⟩]
  have et : ((rowsOf k s sh n).filter fun r => decide (r.item ≠ -1)).map (fun r : Row => D.int (minsAt k.film r.item)) = (tks k.film (rowsOf k s sh n)).map .int := by
    unfold tks
    rw [List.map_map]
    rfl
  rw [et]
  generalize tks k.film (rowsOf k s sh n) = ts at *
  have hput := fun st2 => put_ok (st := st2) (ts := ts) (roll := roll) (by omega)
  cases ts with
  | nil =>
    have htr : ∀ st2 : Store, truthB st2 (.lst []) = some false := fun _ => rfl
    simp [htr, lw]
  | cons t ts =>
    have hre := rolls_eq (ts := ts) (htp t List.mem_cons_self).1 (htp t List.mem_cons_self).2
    have hpl := pio_len (roll := roll) (t :: ts) 0 roll
    rw [← hre]
    obtain ⟨PW, hPW⟩ : ∃ PW, PW = pio roll (t :: ts) 0 roll := ⟨_, rfl⟩
    rw [← hPW] at hput hpl ⊢
    obtain ⟨TW, hTW⟩ : ∃ TW, TW = (t :: ts).map D.int := ⟨_, rfl⟩
    have hTn : TW.isEmpty = false := by rw [hTW]; rfl
    rw [← hTW] at hput ⊢
    have hlast : ∀ st2 : Store, ixA (.tup (PW.map .int)) (.int (-1)) st2 = .ok (.int (PW.getLast?.getD 0)) st2 := fun st2 => by
      cases PW with
      | nil => simp at hpl
      | cons a r =>
        rw [last_int, List.getLast?_eq_some_getLast (by simp)]
        rfl
    obtain ⟨QW, hQW⟩ : ∃ QW, QW = PW.map D.int := ⟨_, rfl⟩
    rw [← hQW] at hput hlast
    have htr : ∀ st2 : Store, truthB st2 (.lst TW) = some true := fun st2 => by
      rw [hTW]
      rfl
    simp [-ixA_tup, htr, hput, hlast]
end
end Lk72
namespace Lk72
open PySem Dn
theorem ed_mm : d_MOST_MINUTES = .int 999 := rfl
def RollOk (k : Case) (roll : Int) : Prop := (1 ≤ roll ∧ roll ≤ 999) ∧ ∀ s ∈ k.film.scenes, s.mins ≤ roll
theorem cut_last {ds : List D} : cutD ds none (some (-1)) = ds.dropLast := by
  unfold cutD
  have h : HT.sIx ds.length 0 none = 0 := rfl
  rw [h, List.drop_zero, Nat.sub_zero, List.dropLast_eq_take]
  cases ds with
  | nil => simp
  | cons a r =>
    congr 1
    have : HT.sIx (a :: r).length (a :: r).length (some (-1)) = ((max 0 ((-1 : Int) + ((a :: r).length : Nat))).toNat) := by
      unfold HT.sIx
      simp
      try omega
    rw [this]
    simp
    try omega
section
variable {k : Case} {co : List Cr} {ss : List Std} {st : Store} {roll : Int}
theorem check_roll_is (hf : k.film.scenes.length ≤ 60) : (RollOk k roll → m_check_roll [encK k, .int roll] st = .ok .non st) ∧ (¬ RollOk k roll → m_check_roll [encK k, .int roll] st = .exc (SE "roll") st) := by
  have hcm : eComp false (iE (e2 ixA (e2 ixA (eV 0) (eC (.int 0))) (eC (.int 2)))) (gN 2) (eC (.bl true)) (e2 leD (e2 ixA (eV 2) (eC (.int 3))) (eV 1)) [2] [some (encK k), some (.int roll), none] st = .ok (.lst (k.film.scenes.map fun s => D.bl (decide (s.mins ≤ roll)))) st := by
    refine wp_eq ?_
    simp [eComp_wp, ixK0, ixF2]
    refine ⟨by omega, ?_⟩
    rw [compGo_map (h := fun s : Scene => D.bl (decide (s.mins ≤ roll))) trivial fun s hs => ⟨_, rfl, by simp [encSc]⟩]
    simp
  have hall : (k.film.scenes.map fun s => decide (s.mins ≤ roll)).all id = true ↔ ∀ s ∈ k.film.scenes, s.mins ≤ roll := by
    simp
  constructor
  · rintro ⟨⟨h1, h2⟩, h3⟩
    refine wp_eq ?_
    unfold m_check_roll
    rw [wp_fnD]
    unfold b_check_roll
    have hb : (k.film.scenes.all fun a => decide (a.mins ≤ roll)) = true := by simpa using h3
    simp [ed_mm, h1, h2, hcm, hb]
  · intro hn
    refine wpX_eq ?_
    unfold m_check_roll
    rw [wpX_fnD]
    unfold b_check_roll
    by_cases h1 : 1 ≤ roll
    · by_cases h2 : roll ≤ 999
      · have hb : (k.film.scenes.all fun a => decide (a.mins ≤ roll)) = false := by
          rw [Bool.eq_false_iff]
          intro q
          exact hn ⟨⟨h1, h2⟩, by simpa using q⟩
        simp [ed_mm, h1, h2, hcm, hb]
        rfl
      · simp [ed_mm, h1, h2]
        rfl
    · simp [ed_mm, h1]
      rfl
theorem rolls_no {x : D} (hf : k.film.scenes.length ≤ 60) (h : ¬ RollOk k roll) : m_rolls_of [encK k, x, .int roll] st = .exc (SE "roll") st := by
  refine wpX_eq ?_
  unfold m_rolls_of
  rw [wpX_fnD]
  unfold b_rolls_of
  simp [(check_roll_is hf).2 h]
  unfold SE
  rw [gc_exn_same (by simp)]
  simp
theorem Crs.pair (h : Crs k co ss) : ss.dropLast.length ≤ co.length ∧ ∀ i, i + 1 < ss.length → ∃ s x li sh, ss[i]? = some s ∧ co[i]? = some x ∧ StpOk 5 k s x.num x.nt li sh := by
  obtain ⟨cs, s, c, p, hc⟩ := h.cs
  have hl := p.len.1
  have hcl : cs.length ≤ co.length := by
    rcases hc with rfl | ⟨x, rfl⟩ <;> simp
  refine ⟨by simp; omega, fun i hi => ?_⟩
  obtain ⟨s, x, li, sh, h1, h2, h3⟩ := p.steps i (by omega)
  refine ⟨s, x, li, sh, h1, ?_, h3⟩
  rcases hc with rfl | ⟨y, rfl⟩
  · exact h2
  · rw [List.getElem?_append_left (by omega)]; exact h2
def prs (ss : List Std) (co : List Cr) : List (Std × Cr) := ss.dropLast.zip co
theorem Crs.prs_all (h : Crs k co ss) : ∀ p ∈ prs ss co, ∃ li sh, StpOk 5 k p.1 p.2.num p.2.nt li sh := fun p hp => by
  obtain ⟨i, hi, e⟩ := List.mem_iff_getElem.mp hp
  have h0 := h.pair.1
  have hl : (prs ss co).length = ss.length - 1 := by
    unfold prs
    rw [List.length_zip, List.length_dropLast] at *
    omega
  obtain ⟨s, x, li, sh, h1, h2, h3⟩ := h.pair.2 i (by omega)
  have he : (prs ss co)[i]? = some (s, x) := by
    unfold prs
    rw [List.getElem?_zip_eq_some]
    refine ⟨?_, h2⟩
    rw [List.getElem?_dropLast, if_pos (by omega)]
    exact h1
  rw [List.getElem?_eq_getElem hi, e] at he
  injection he with he
  subst he
  exact ⟨li, sh, h3⟩
def totS (k : Case) (roll : Int) : List (Std × Cr) → Int
  | [] => 0
  | p :: ps => drS k roll p + totS k roll ps
def encPr (p : Std × Cr) : D := .tup [encSt p.1, encCr p.2]
theorem zip_P {as : List Std} {bs : List Cr} : zipP (as.map encSt) (bs.map encCr) = (as.zip bs).map encPr := by
  unfold zipP
  rw [List.zip_map, List.map_map]
  rfl
theorem rolls_ok (h : Crs k co ss) (hr : RollOk k roll) : m_rolls_of [encK k, .tup (co.map encCr), .int roll] st = .ok (.int (totS k roll (prs ss co))) st := by
  obtain ⟨X, hrun⟩ := h.run st
  have hsc : k.film.scenes.length ≤ 60 := by have := h.ck.film.sc; omega
  have hall := h.prs_all
  have hz : zipP (ss.map encSt).dropLast (co.map encCr) = (prs ss co).map encPr := by
    rw [← List.map_dropLast, zip_P]
    rfl
  obtain ⟨T, hT⟩ : ∃ T, T = totS k roll (prs ss co) := ⟨_, rfl⟩
  rw [← hT]
  obtain ⟨CW, hCW⟩ : ∃ CW, CW = co.map encCr := ⟨_, rfl⟩
  obtain ⟨SW, hSW⟩ : ∃ SW, SW = ss.map encSt := ⟨_, rfl⟩
  rw [← hCW, ← hSW] at hrun hz
  rw [← hCW]
  have hs1 : ∀ st2, sliceD false (.tup SW) none (some (-1)) st2 = .ok (.tup SW.dropLast) st2 := fun st2 => by rw [sl_tup, cut_last]
  refine wp_eq ?_
  unfold m_rolls_of
  rw [wp_fnD]
  unfold b_rolls_of
  simp [-Dn.sl_tup, (check_roll_is hsc).1 hr, hrun, sFor_wp, hs1, hz]
  obtain ⟨HI, hHI⟩ : ∃ HI : List D → Vars → Store → Prop, HI = fun L vs st1 => ∃ (suf : List (Std × Cr)) (a : Int), L = suf.map encPr ∧ (∀ p ∈ suf, ∃ li sh, StpOk 5 k p.1 p.2.num p.2.nt li sh) ∧ a + totS k roll suf = T ∧ st1 = st ∧ vs = [some (encK k), some (.tup CW), some (.int roll), some (.tup SW), some (.int a), none, none, none] := ⟨_, rfl⟩
  refine forGo_wp HI (fun _ _ _ _ => trivial) (fun d L vs st1 hI => ?_) (fun vs st1 hI => ?_) _ _ _ (by rw [hHI]; exact ⟨prs ss co, 0, rfl, hall, by rw [hT]; omega, rfl, rfl⟩)
  · rw [hHI] at hI
    obtain ⟨suf, a, hL, hsuf, ha, rfl, rfl⟩ := hI
    cases suf with
    | nil => cases hL
    | cons p suf =>
      injection hL with e1 e2
      subst e1 e2
      obtain ⟨s, num, n⟩ := p
      refine ⟨_, rfl, ?_⟩
      obtain ⟨li, sh, h1⟩ := hsuf _ List.mem_cons_self
      have fin : HI (suf.map encPr) [some (encK k), some (.tup CW), some (.int roll), some (.tup SW), some (.int (a + drS k roll (s, ⟨num, n⟩))), none, none, none] st1 := by
        rw [hHI]
        exact ⟨suf, _, rfl, fun x hx => hsuf x (List.mem_cons_of_mem _ hx), by rw [← ha]; show _ = a + (drS k roll (s, ⟨num, n⟩) + totS k roll suf); omega, rfl, rfl⟩
      clear hHI
      have hd := fun st2 => day_rolls_ok (st := st2) h1 hr.2
      have ia : ∀ (i j : Int) (st2 : Store), iaddD (.int i) (.int j) st2 = .ok (.int (i + j)) st2 := fun _ _ _ => rfl
      generalize drS k roll (s, ⟨num, n⟩) = z at *
      simp only at hd
      simp [encPr, encCr, hd, ia]
      exact fin
  · rw [hHI] at hI
    obtain ⟨suf, a, hL, hsuf, ha, rfl, rfl⟩ := hI
    cases suf with
    | cons p suf => cases hL
    | nil =>
      have : a = T := by rw [← ha]; simp [totS]
      subst this
      simp
theorem asked_rolls_ok {s : Std} {num : Nat} {n : Nt} {li : Int × Int} {sh : Sheet} (h : StpOk 5 k s num n li sh) : m_law_rolls [encK k, encSt s, .int (num : Nat), encNt n, .int roll] st = .ok (.int (drS k roll (s, ⟨num, n⟩))) st := by
  rw [drS_is h]
  obtain ⟨X, hh⟩ := hours_st h
  obtain ⟨l, h3, h4⟩ := h.csh
  have ixM : ∀ st2 : Store, ixA (.tup (k.menu.map encM)) (.int (s.day : Nat)) st2 = .ok (encM l) st2 := fun st2 => by simp [h3]
  have ixL : ∀ st2 : Store, ixA (encM l) (.int (num : Nat)) st2 = .ok (encS sh) st2 := fun st2 => by simp [encM, h4]
  have hr := h.rows.1
  obtain ⟨T, hT⟩ : ∃ T, T = lw roll (tks k.film (rowsOf k s sh n)) 0 0 := ⟨_, rfl⟩
  rw [← hT]
  refine wp_eq ?_
  unfold m_law_rolls
  rw [wp_fnD]
  unfold b_law_rolls
  simp [-ixA_tup, ixK0, ixK3, ixS0, ixS1, ixM, ixL, hh]
  unfold b_law_rolls_2
  simp
  unfold b_law_rolls_3
  simp
  unfold b_law_rolls_4
  simp [sFor_wp]
  obtain ⟨RW, hRW⟩ : ∃ RW, RW = (rowsOf k s sh n).map encRow := ⟨_, rfl⟩
  obtain ⟨HI, hHI⟩ : ∃ HI : List D → Vars → Store → Prop, HI = fun L vs st1 => ∃ (suf : List Row) (u l : Int), L = suf.map encRow ∧ (∀ r ∈ suf, r ∈ rowsOf k s sh n) ∧ lw roll (tks k.film suf) u l = T ∧ st1 = st ∧ vs = [some (encK k), some (encSt s), some (.int (num : Nat)), some (encNt n), some (.int roll), some (.tup RW), some (.int u), some (.int l), none, none, none, none] := ⟨_, rfl⟩
  rw [← hRW]
  refine forGo_wp HI (fun _ _ _ _ => trivial) (fun d L vs st1 hI => ?_) (fun vs st1 hI => ?_) _ _ _ (by rw [hHI]; exact ⟨_, 0, 0, hRW, fun _ h => h, hT.symm, rfl, rfl⟩)
  · rw [hHI] at hI
    obtain ⟨suf, u, l, hL, hsuf, ha, rfl, rfl⟩ := hI
    cases suf with
    | nil => cases hL
    | cons r suf =>
      injection hL with e1 e2
      subst e1 e2
      refine ⟨_, rfl, ?_⟩
      have hrm := hsuf r List.mem_cons_self
      have fin : ∀ u' l', lw roll (tks k.film suf) u' l' = T → HI (suf.map encRow) [some (encK k), some (encSt s), some (.int (num : Nat)), some (encNt n), some (.int roll), some (.tup RW), some (.int u'), some (.int l'), none, none, none, none] st1 := fun u' l' e => by
        rw [hHI]
        exact ⟨suf, u', l', rfl, fun x hx => hsuf x (List.mem_cons_of_mem _ hx), e, rfl, rfl⟩
      clear hHI
      unfold b_law_rolls_5
      by_cases hn : r.item = -1
      · have e : tks k.film (r :: suf) = tks k.film suf := by
          unfold tks
          rw [List.filter_cons_of_neg (by simp [hn])]
        rw [e] at ha
        simp [encRow, hn]
        exact fin _ _ ha
      · have e : tks k.film (r :: suf) = minsAt k.film r.item :: tks k.film suf := by
          unfold tks
          rw [List.filter_cons_of_pos (by simp [hn])]
          rfl
        obtain ⟨sc, s1, s2, s3⟩ := mins_ix (nn := 0) hr hrm hn
        have e3 : ∀ st, ixA (encSc sc) (.int 3) st = .ok (.int sc.mins) st := fun st => by simp [encSc]
        rw [e, s3] at ha
        unfold lw at ha
        have := fin _ _ ha
        simp [encRow, hn]
        unfold b_law_rolls_6
        simp [ixK0, ixF2, s1, s2, s3, e3]
        have iT : ∀ st2 : Store, intD [.bl true] st2 = .ok (.int 1) st2 := fun _ => rfl
        have iF : ∀ st2 : Store, intD [.bl false] st2 = .ok (.int 0) st2 := fun _ => rfl
        unfold b_law_rolls_7
        by_cases hlt : l < sc.mins
        · simp [hlt, b2i] at this
          simp [hlt, iT, iF]
          unfold b_law_rolls_8
          simp [hlt]
          exact this
        · simp [hlt, b2i] at this
          simp [hlt, iT, iF]
          unfold b_law_rolls_8
          simp [hlt]
          exact this
  · rw [hHI] at hI
    obtain ⟨suf, u, l, hL, hsuf, ha, rfl, rfl⟩ := hI
    cases suf with
    | cons p suf => cases hL
    | nil =>
      have : u = T := ha
      subst this
      unfold b_law_rolls_9
      simp
end
end Lk72
namespace Lk72
open PySem Dn
section
variable {k : Case} {co : List Cr} {ss : List Std} {st : Store} {lab roll : Int} {x y z : D}
theorem asked0_ok (h : Crs k co ss) (hl : 0 ≤ lab ∧ lab ≤ 9) : m_law_asked [.int 0, encK k, .tup (co.map encCr), x, .int lab] st = .ok (.tup ((daysOf k.film.scenes.length ss).map (bkO lab))) st := by
  have hb := fun st2 => back_ok (st := st2) h hl
  obtain ⟨CW, hCW⟩ : ∃ CW, CW = co.map encCr := ⟨_, rfl⟩
  rw [← hCW] at hb ⊢
  refine wp_eq ?_
  unfold m_law_asked
  rw [wp_fnD]
  unfold b_law_asked
  refine wpS_try ?_
  simp [hb, lfs_map (lf_bkO lab)]
theorem asked0_no (hl : ¬ (0 ≤ lab ∧ lab ≤ 9)) : m_law_asked [.int 0, y, z, x, .int lab] st = .ok (.str "lab") st := by
  have hb := fun st2 => back_no (x := y) (y := z) (st := st2) hl
  refine wp_eq ?_
  unfold m_law_asked
  rw [wp_fnD]
  unfold b_law_asked
  refine wpS_try ?_
  simp [hb]
  refine ⟨.inr rfl, by show catches "StockError" "StockError" = true; decide +kernel, [.str "lab"], rfl, .ret (.str "lab") st, fun a dd => ?_, ?_⟩ <;> simp
theorem lf_cutR {os : List (Option Nat)} : lf (cutR os lab) = true := by
  unfold cutR
  split <;> simp
theorem asked1_ok (h : Crs k co ss) (hl : 0 ≤ lab ∧ lab ≤ 9) {l : List Nat} (hs : l.Sublist (List.range k.film.scenes.length)) (hne : l ≠ []) : m_law_asked [.int 1, encK k, .tup (co.map encCr), encN l, .int lab] st = .ok (cutR (ownO (daysOf k.film.scenes.length ss) l) lab) st := by
  have hb := fun st2 => cut_ok (st := st2) h hl hs hne
  have hlf := lf_cutR (lab := lab) (os := ownO (daysOf k.film.scenes.length ss) l)
  generalize cutR (ownO (daysOf k.film.scenes.length ss) l) lab = R at *
  obtain ⟨CW, hCW⟩ : ∃ CW, CW = co.map encCr := ⟨_, rfl⟩
  rw [← hCW] at hb ⊢
  refine wp_eq ?_
  unfold m_law_asked
  rw [wp_fnD]
  unfold b_law_asked
  refine wpS_try ?_
  simp [hb, hlf]
theorem asked1_lab (hl : ¬ (0 ≤ lab ∧ lab ≤ 9)) : m_law_asked [.int 1, x, y, z, .int lab] st = .ok (.str "lab") st := by
  have hb := fun st2 => cut_no_lab (x := x) (y := y) (z := z) (st := st2) hl
  refine wp_eq ?_
  unfold m_law_asked
  rw [wp_fnD]
  unfold b_law_asked
  refine wpS_try ?_
  simp [hb]
  refine ⟨.inr rfl, by show catches "StockError" "StockError" = true; decide +kernel, [.str "lab"], rfl, .ret (.str "lab") st, fun a dd => ?_, ?_⟩ <;> simp
theorem asked1_scenes {l : List Int} {L : D} (e : L = .tup (l.map .int)) (hl : 0 ≤ lab ∧ lab ≤ 9) (hn : l.length ≤ 1000) (hr : rightS k.film.scenes.length l = false) : m_law_asked [.int 1, encK k, y, L, .int lab] st = .ok (.str "scenes") st := by
  have hb := fun st2 => cut_no_scenes (y := y) (k := k) (l := l) (st := st2) hl hn hr
  rw [← e] at hb
  refine wp_eq ?_
  unfold m_law_asked
  rw [wp_fnD]
  unfold b_law_asked
  refine wpS_try ?_
  simp [hb]
  refine ⟨.inr rfl, by show catches "StockError" "StockError" = true; decide +kernel, [.str "scenes"], rfl, .ret (.str "scenes") st, fun a dd => ?_, ?_⟩ <;> simp
theorem asked2_ok (h : Crs k co ss) (hr : RollOk k roll) : m_law_asked [.int 2, encK k, .tup (co.map encCr), x, .int roll] st = .ok (.int (totS k roll (prs ss co))) st := by
  have hb := fun st2 => rolls_ok (st := st2) h hr
  obtain ⟨CW, hCW⟩ : ∃ CW, CW = co.map encCr := ⟨_, rfl⟩
  rw [← hCW] at hb ⊢
  refine wp_eq ?_
  unfold m_law_asked
  rw [wp_fnD]
  unfold b_law_asked
  refine wpS_try ?_
  simp [hb]
theorem asked2_no (hf : k.film.scenes.length ≤ 60) (hr : ¬ RollOk k roll) : m_law_asked [.int 2, encK k, y, x, .int roll] st = .ok (.str "roll") st := by
  have hb := fun st2 => rolls_no (x := y) (st := st2) hf hr
  refine wp_eq ?_
  unfold m_law_asked
  rw [wp_fnD]
  unfold b_law_asked
  refine wpS_try ?_
  simp [hb]
  refine ⟨.inr rfl, by show catches "StockError" "StockError" = true; decide +kernel, [.str "roll"], rfl, .ret (.str "roll") st, fun a dd => ?_, ?_⟩ <;> simp
def VW (fz : D) (k : Case) (CW SW : List D) (v7 v8 : Option D) : Vars := [some fz, some (.loc 0), some (encK k), some (.int (k.film.scenes.length : Nat)), some (.tup CW), some (.tup SW), some (.loc 1), v7, v8, none, none, none, none, none, none, none, none, none, none, none, none]
theorem days_go (h : Crs k co ss) {c : Option Ob} {fz : D} {CW : List D} {P : Po} (hP : ∀ v8, wpS (b_law_11 (VW fz k CW (ss.map encSt) none v8) [c, some (.lst ((daysOf k.film.scenes.length ss).map encDO))]) P) :
    wpS (b_law_7 (VW fz k CW (ss.map encSt) none none) [c, some (.lst ((List.replicate k.film.scenes.length (none : Option Nat)).map encDO))]) P := by
  have hall := h.all
  have hsl := h.len.1
  have hsc : k.film.scenes.length ≤ 60 := by have := h.ck.film.sc; omega
  unfold VW at *
  obtain ⟨n, hn⟩ : ∃ n, n = k.film.scenes.length := ⟨_, rfl⟩
  rw [← hn] at hall hP hsc ⊢
  obtain ⟨DU, hDU⟩ : ∃ DU, DU = daysOf n ss := ⟨_, rfl⟩
  rw [← hDU] at hP
  obtain ⟨SW, hSW⟩ : ∃ SW, SW = ss.map encSt := ⟨_, rfl⟩
  have hSl : SW.length = ss.length := by rw [hSW]; simp
  rw [← hSW] at hP ⊢
  unfold b_law_7
  simp [sFor_wp, hSl, -List.map_replicate]
  rw [if_pos ⟨fitR_of (by omega) (by omega), fitR_of (by omega) (by omega)⟩, wp_ok]
  obtain ⟨HI, hHI⟩ : ∃ HI : List D → Vars → Store → Prop, HI = fun L vs st1 => ∃ (j : Nat) (l : List (Option Nat)) (v8 : Option D), L = (rng 1 (ss.length - 1)).drop j ∧ l.length = n ∧ daysL (ss.drop j) l = DU ∧ st1 = [c, some (.lst (l.map encDO))] ∧ vs = [some fz, some (.loc 0), some (encK k), some (.int (n : Nat)), some (.tup CW), some (.tup SW), some (.loc 1), none, v8, none, none, none, none, none, none, none, none, none, none, none, none] := ⟨_, rfl⟩
  refine forGo_wp HI (fun _ _ _ _ => trivial) (fun d L vs st1 hI => ?_) (fun vs st1 hI => ?_) _ _ _ (by rw [hHI]; exact ⟨0, List.replicate n none, none, rfl, by simp, by rw [hDU]; rfl, rfl, rfl⟩)
  · rw [hHI] at hI
    obtain ⟨j, l, v8, hL, hll, hT, rfl, rfl⟩ := hI
    obtain ⟨hj, rfl, rfl⟩ := rng_drop hL.symm
    refine ⟨_, rfl, ?_⟩
    have hj0 : j < ss.length := by omega
    have hj1 : j + 1 < ss.length := by omega
    obtain ⟨a, ha⟩ : ∃ a, a = ss[j] := ⟨_, rfl⟩
    obtain ⟨b, hb⟩ : ∃ b, b = ss[j + 1] := ⟨_, rfl⟩
    have e1 : ss.drop j = a :: b :: ss.drop (j + 1 + 1) := by
      rw [List.drop_eq_getElem_cons hj0, List.drop_eq_getElem_cons hj1, ← ha, ← hb]
    have e2 : ss.drop (j + 1) = b :: ss.drop (j + 1 + 1) := by
      rw [List.drop_eq_getElem_cons hj1, ← hb]
    rw [e1] at hT
    have hT2 : daysL (ss.drop (j + 1)) (upd1 a b l) = DU := by rw [e2]; exact hT
    have hbs := hall b (by rw [hb]; exact List.getElem_mem hj1)
    have fin : ∀ v8, HI ((rng 1 (ss.length - 1)).drop (j + 1)) [some fz, some (.loc 0), some (encK k), some (.int (n : Nat)), some (.tup CW), some (.tup SW), some (.loc 1), none, v8, none, none, none, none, none, none, none, none, none, none, none, none] [c, some (.lst ((upd1 a b l).map encDO))] := fun v8 => by
      rw [hHI]
      exact ⟨j + 1, upd1 a b l, v8, rfl, by rw [← hll]; exact upd_len _ _, hT2, rfl, rfl⟩
    clear hHI
    have ixA1 : ∀ st2 : Store, ixA (.tup SW) (.int (1 + (j : Nat))) st2 = .ok (encSt b) st2 := fun st2 => by
      rw [hSW, show (1 : Int) + (j : Nat) = ((j + 1 : Nat) : Int) by omega, ixA_tup, atI_pos (by omega)]
      simp [hj1, hb]
    have ixA0 : ∀ st2 : Store, ixA (.tup SW) (.int (1 + (j : Nat) - 1)) st2 = .ok (encSt a) st2 := fun st2 => by
      rw [hSW, show (1 : Int) + (j : Nat) - 1 = ((j : Nat) : Int) by omega, ixA_tup, atI_pos (by omega)]
      simp [hj0, ha]
    unfold b_law_8
    have hiE : ∀ st2 : Store, itsOf st2 (encN b.shot) = some (nats b.shot, []) := fun st2 => rfl
    simp [-ixA_tup, sFor_wp, ixA1, ixS1, hiE]
    obtain ⟨HJ, hHJ⟩ : ∃ HJ : List D → Vars → Store → Prop, HJ = fun L vs st1 => ∃ (suf : List Nat) (l2 : List (Option Nat)) (v8 : Option D), L = nats suf ∧ (∀ x ∈ suf, x < n) ∧ l2.length = n ∧ suf.foldl (upS a) l2 = upd1 a b l ∧ st1 = [c, some (.lst (l2.map encDO))] ∧ vs = [some fz, some (.loc 0), some (encK k), some (.int (n : Nat)), some (.tup CW), some (.tup SW), some (.loc 1), some (.int (1 + (j : Nat))), v8, none, none, none, none, none, none, none, none, none, none, none, none] := ⟨_, rfl⟩
    refine forGo_wp HJ (fun _ _ _ _ => trivial) (fun d L vs st1 hJ => ?_) (fun vs st1 hJ => ?_) _ _ _ (by rw [hHJ]; exact ⟨b.shot, l, v8, rfl, hbs.lt, hll, rfl, rfl, rfl⟩)
    · rw [hHJ] at hJ
      obtain ⟨suf, l2, v8, hL, hlt, hl2, hT3, rfl, rfl⟩ := hJ
      cases suf with
      | nil => cases hL
      | cons sc suf =>
        injection hL with e1 e2
        subst e1 e2
        refine ⟨_, rfl, ?_⟩
        have hsc2 := hlt sc List.mem_cons_self
        have fin2 : ∀ v8, HJ (nats suf) [some fz, some (.loc 0), some (encK k), some (.int (n : Nat)), some (.tup CW), some (.tup SW), some (.loc 1), some (.int (1 + (j : Nat))), v8, none, none, none, none, none, none, none, none, none, none, none, none] [c, some (.lst ((upS a l2 sc).map encDO))] := fun v8 => by
          rw [hHJ]
          exact ⟨suf, upS a l2 sc, v8, rfl, fun x hx => hlt x (List.mem_cons_of_mem _ hx), by rw [upS_len]; exact hl2, hT3, rfl, rfl⟩
        clear hHJ
        unfold b_law_9
        have hnin : ∀ st2 : Store, inA true ninD (.int (sc : Nat)) (encN a.shot) st2 = .ok (.bl !(decide (sc ∈ a.shot))) st2 := fun st2 => nin_nats (xs := a.shot) (i := sc) (y := encN a.shot) rfl
        simp [-ixA_tup, ixA0, ixS1, hnin]
        unfold upS at fin2
        by_cases hm : sc ∈ a.shot
        · rw [if_pos hm] at fin2
          simp [hm]
          exact fin2 _
        · rw [if_neg hm] at fin2
          have hst : setA (.loc 1) (.int (sc : Nat)) (.int (a.day : Nat)) [c, some (.lst (l2.map encDO))] = some [c, some (.lst ((l2.set sc (some a.day)).map encDO))] := by
            rw [setA_loc (ds := l2.map encDO) (by simp), ixN_pos (by omega) (by simp; omega), Int.toNat_natCast]
            simp [List.map_set]
            rfl
          simp [-ixA_tup, hm, ixA0, ixS0, hst]
          have := fin2 (some (.int (sc : Nat)))
          rw [List.map_set] at this
          exact this
    · rw [hHJ] at hJ
      obtain ⟨suf, l2, v8, hL, hlt, hl2, hT3, rfl, rfl⟩ := hJ
      cases suf with
      | cons sc suf => cases hL
      | nil =>
        have e : l2 = upd1 a b l := hT3
        rw [e]
        exact fin _
  · rw [hHI] at hI
    obtain ⟨j, l, v8, hL, hll, hT, rfl, rfl⟩ := hI
    have hje := rng_end hL
    have e : l = DU := by
      rw [← hT]
      cases hd : ss.drop j with
      | nil => rfl
      | cons a r =>
        cases r with
        | nil => rfl
        | cons b r =>
          have := congrArg List.length hd
          simp at this
          omega
    subst e
    exact hP _
end
end Lk72
namespace Lk72
open PySem Dn
section
variable {k : Case} {co : List Cr} {ss : List Std} {st : Store} {lab roll : Int} {fz : D} {CW SW : List D} {P : Po} {c : Option Ob}
/-- the slots of the law, from the ninth on -/
def VZ (fz : D) (k : Case) (CW SW : List D) (v8 : Option D) (r : List (Option D)) : Vars := [some fz, some (.loc 0), some (encK k), some (.int (k.film.scenes.length : Nat)), some (.tup CW), some (.tup SW), some (.loc 1), none, v8] ++ r
def Good (k : Case) (CW : List D) (d : D) : Prop := ∃ kind row num code, d = .tup [kind, row, num, .str code] ∧ PyData.strOk code = true ∧ ∀ st : Store, m_law_asked [kind, encK k, .tup CW, row, num] st = .ok (.str code) st
theorem errs_go {v8 : Option D} {v9 v10 v12 v13 v14 v15 v16 : D} {N : Nat} (hP : ∀ st2, P.r (.bl true) st2) {st1 : Store} : ∀ (L : List D), (∀ d ∈ L, Good k CW d) → 
    wpS (forGo (gT [gN 17, gN 18, gN 19, gN 20]) b_law_29 [17, 18, 19, 20] (fun _ => True) L [some fz, some (.loc 0), some (encK k), some (.int (N : Nat)), some (.tup CW), some (.tup SW), some (.loc 1), none, v8, some v9, some v10, none, some v12, some v13, some v14, some v15, some v16, none, none, none, none] st1) ⟨fun vs st => wpS (b_law_31 vs st) P, P.r, P.b, P.c⟩ := fun L hL => by
  obtain ⟨HI, hHI⟩ : ∃ HI : List D → Vars → Store → Prop, HI = fun L vs st => (∀ d ∈ L, Good k CW d) ∧ st = st1 ∧ vs = [some fz, some (.loc 0), some (encK k), some (.int (N : Nat)), some (.tup CW), some (.tup SW), some (.loc 1), none, v8, some v9, some v10, none, some v12, some v13, some v14, some v15, some v16, none, none, none, none] := ⟨_, rfl⟩
  refine forGo_wp HI (fun _ _ _ _ => trivial) (fun d L vs st hI => ?_) (fun vs st hI => ?_) _ _ _ (by rw [hHI]; exact ⟨hL, rfl, rfl⟩)
  · rw [hHI] at hI
    obtain ⟨h1, rfl, rfl⟩ := hI
    obtain ⟨kind, row, num, code, rfl, hc, ha⟩ := h1 d List.mem_cons_self
    refine ⟨_, rfl, ?_⟩
    have fin : HI L [some fz, some (.loc 0), some (encK k), some (.int (N : Nat)), some (.tup CW), some (.tup SW), some (.loc 1), none, v8, some v9, some v10, none, some v12, some v13, some v14, some v15, some v16, none, none, none, none] st := by
      rw [hHI]
      exact ⟨fun x hx => h1 x (List.mem_cons_of_mem _ hx), rfl, rfl⟩
    clear hHI
    have hne : ∀ st2 : Store, neD (.str code) (.str code) st2 = .ok (.bl false) st2 := fun st2 => ne_refl (okd_str hc)
    unfold b_law_29
    simp [ha, hne]
    exact fin
  · rw [hHI] at hI
    obtain ⟨h1, rfl, rfl⟩ := hI
    unfold b_law_31
    simp
    exact hP _
theorem rolls_go (h : Crs k co ss) {v8 : Option D} {v9 v10 v12 v13 v14 : D} {st1 : Store} {N : Nat} (hP : wpS (b_law_26 [some fz, some (.loc 0), some (encK k), some (.int (N : Nat)), some (.tup (co.map encCr)), some (.tup (ss.map encSt)), some (.loc 1), none, v8, some v9, some v10, none, some v12, some v13, some v14, some (.int roll), some (.int (totS k roll (prs ss co))), none, none, none, none] st1) P) :
    wpS (b_law_24 [some fz, some (.loc 0), some (encK k), some (.int (N : Nat)), some (.tup (co.map encCr)), some (.tup (ss.map encSt)), some (.loc 1), none, v8, some v9, some v10, none, some v12, some v13, some v14, some (.int roll), some (.int 0), none, none, none, none] st1) P := by
  have hsl := h.len.1
  have hp := h.pair
  obtain ⟨T, hT⟩ : ∃ T, T = totS k roll (prs ss co) := ⟨_, rfl⟩
  rw [← hT] at hP
  obtain ⟨CW, hCW⟩ : ∃ CW, CW = co.map encCr := ⟨_, rfl⟩
  obtain ⟨SW, hSW⟩ : ∃ SW, SW = ss.map encSt := ⟨_, rfl⟩
  have hSl : SW.length = ss.length := by rw [hSW]; simp
  have hprl : (prs ss co).length = ss.length - 1 := by
    have := hp.1
    unfold prs
    rw [List.length_zip, List.length_dropLast] at *
    omega
  rw [← hCW, ← hSW] at hP ⊢
  unfold b_law_24
  simp [sFor_wp, hSl]
  rw [if_pos (fitR_of (by omega) (by omega)), wp_ok]
  obtain ⟨HI, hHI⟩ : ∃ HI : List D → Vars → Store → Prop, HI = fun L vs st => ∃ (j : Nat) (a : Int), L = (rng 0 (ss.length - 1)).drop j ∧ a + totS k roll ((prs ss co).drop j) = T ∧ st = st1 ∧ vs = [some fz, some (.loc 0), some (encK k), some (.int (N : Nat)), some (.tup CW), some (.tup SW), some (.loc 1), none, v8, some v9, some v10, none, some v12, some v13, some v14, some (.int roll), some (.int a), none, none, none, none] := ⟨_, rfl⟩
  refine forGo_wp HI (fun _ _ _ _ => trivial) (fun d L vs st hI => ?_) (fun vs st hI => ?_) _ _ _ (by rw [hHI]; exact ⟨0, 0, rfl, by rw [hT, List.drop_zero]; omega, rfl, rfl⟩)
  · rw [hHI] at hI
    obtain ⟨j, a, hL, ha, rfl, rfl⟩ := hI
    obtain ⟨hj, rfl, rfl⟩ := rng_drop hL.symm
    refine ⟨_, rfl, ?_⟩
    obtain ⟨s, x, li, sh, h1, h2, h3⟩ := hp.2 j (by omega)
    have he : (prs ss co)[j]? = some (s, x) := by
      unfold prs
      rw [List.getElem?_zip_eq_some]
      refine ⟨?_, h2⟩
      rw [List.getElem?_dropLast, if_pos (by omega)]
      exact h1
    have hd : (prs ss co).drop j = (s, x) :: (prs ss co).drop (j + 1) := by
      have hj2 : j < (prs ss co).length := by omega
      rw [List.drop_eq_getElem_cons hj2]
      rw [List.getElem?_eq_getElem hj2] at he
      injection he with he
      rw [he]
    rw [hd] at ha
    have ha2 : a + drS k roll (s, x) + totS k roll ((prs ss co).drop (j + 1)) = T := by
      rw [← ha]
      show _ = a + (drS k roll (s, x) + totS k roll ((prs ss co).drop (j + 1)))
      omega
    have fin : HI ((rng 0 (ss.length - 1)).drop (j + 1)) [some fz, some (.loc 0), some (encK k), some (.int (N : Nat)), some (.tup CW), some (.tup SW), some (.loc 1), none, v8, some v9, some v10, none, some v12, some v13, some v14, some (.int roll), some (.int (a + drS k roll (s, x))), none, none, none, none] st := by
      rw [hHI]
      exact ⟨j + 1, _, rfl, ha2, rfl, rfl⟩
    clear hHI
    obtain ⟨num, n⟩ := x
    have hd := fun st2 => asked_rolls_ok (st := st2) (roll := roll) h3
    generalize drS k roll (s, ⟨num, n⟩) = z at *
    have ixS : ∀ st2 : Store, ixA (.tup SW) (.int (j : Nat)) st2 = .ok (encSt s) st2 := fun st2 => by
      rw [hSW]
      simp [h1]
    have ixC : ∀ st2 : Store, ixA (.tup CW) (.int (j : Nat)) st2 = .ok (encCr ⟨num, n⟩) st2 := fun st2 => by
      rw [hCW]
      simp [h2]
    have ixC0 : ∀ st2 : Store, ixA (encCr ⟨num, n⟩) (.int 0) st2 = .ok (.int (num : Nat)) st2 := fun _ => rfl
    have ixC1 : ∀ st2 : Store, ixA (encCr ⟨num, n⟩) (.int 1) st2 = .ok (encNt n) st2 := fun _ => rfl
    simp only at hd
    unfold b_law_25
    simp [-ixA_tup, ixS, ixC, ixC0, ixC1, hd]
    exact fin
  · rw [hHI] at hI
    obtain ⟨j, a, hL, ha, rfl, rfl⟩ := hI
    have hje := rng_end hL
    rw [List.drop_eq_nil_of_le (by omega)] at ha
    have : a = T := by rw [← ha]; simp [totS]
    subst this
    exact hP
end
end Lk72
namespace Lk72
open PySem Dn
section
variable {k : Case} {co : List Cr} {ss : List Std} {st : Store} {lab roll : Int} {fz : D} {CW SW : List D} {P : Po} {c : Option Ob}
def longS (k : Case) : Int := maxI (k.film.scenes.map Scene.mins)
theorem long_is (hf : FilmOk 5 k.film) : (5 ≤ longS k ∧ longS k ≤ 200) ∧ (∀ s ∈ k.film.scenes, s.mins ≤ longS k) ∧ ∃ s ∈ k.film.scenes, s.mins = longS k := by
  have hne : k.film.scenes ≠ [] := by
    intro e
    have := hf.sc.1
    rw [e] at this
    simp at this
  unfold longS
  obtain ⟨a, r, e⟩ := List.exists_cons_of_ne_nil hne
  obtain ⟨h1, h2⟩ := maxI_is (i := a.mins) (r := r.map Scene.mins)
  rw [← List.map_cons, ← e] at h1 h2
  obtain ⟨s, hs, e2⟩ := List.mem_map.mp h1
  have := (hf.so s hs).2.2.1
  exact ⟨by omega, fun s hs => h2 _ (List.mem_map_of_mem hs), s, hs, e2⟩
theorem errs_all (hk : CaseOk 5 k) (h : Crs k co ss) : ∀ d ∈ [D.tup [.int 0, .tup [], .int (-1), .str "lab"], .tup [.int 0, .tup [], .int 10, .str "lab"], .tup [.int 1, .tup [.int 0], .int 10, .str "lab"], .tup [.int 1, .tup [], .int 0, .str "scenes"], .tup [.int 1, .tup [.int 0, .int 0], .int 0, .str "scenes"], .tup [.int 1, .tup [.int (k.film.scenes.length : Nat)], .int 0, .str "scenes"], .tup [.int 1, .tup [.int (-1), .int 0], .int 0, .str "scenes"], .tup [.int 1, .tup [.int 0, .int (k.film.scenes.length : Nat)], .int 0, .str "scenes"], .tup [.int 1, .tup [], .int (-1), .str "lab"], .tup [.int 2, .tup [], .int (longS k - 1), .str "roll"], .tup [.int 2, .tup [], .int 1000, .str "roll"], .tup [.int 2, .tup [], .int 0, .str "roll"]], Good k CW d := by
  obtain ⟨_, _, s, hs, e⟩ := long_is hk.film
  have hsc : k.film.scenes.length ≤ 60 := by have := hk.film.sc; omega
  have hsc1 := hk.film.sc.1
  have b1 : PyData.strOk "lab" = true := by decide +kernel
  have b2 : PyData.strOk "scenes" = true := by decide +kernel
  have b3 : PyData.strOk "roll" = true := by decide +kernel
  intro d hd
  simp at hd
  rcases hd with rfl | rfl | rfl | rfl | rfl | rfl | rfl | rfl | rfl | rfl | rfl | rfl
  · exact ⟨_, _, _, _, rfl, b1, fun st => asked0_no (by omega)⟩
  · exact ⟨_, _, _, _, rfl, b1, fun st => asked0_no (by omega)⟩
  · exact ⟨_, _, _, _, rfl, b1, fun st => asked1_lab (by omega)⟩
  · exact ⟨_, _, _, _, rfl, b2, fun st => asked1_scenes (l := []) rfl (by omega) (by simp) rfl⟩
  · exact ⟨_, _, _, _, rfl, b2, fun st => asked1_scenes (l := [0, 0]) rfl (by omega) (by simp) rfl⟩
  · exact ⟨_, _, _, _, rfl, b2, fun st => asked1_scenes (l := [((k.film.scenes.length : Nat) : Int)]) rfl (by omega) (by simp) (by simp [rightS])⟩
  · exact ⟨_, _, _, _, rfl, b2, fun st => asked1_scenes (l := [-1, 0]) rfl (by omega) (by simp) (by simp [rightS])⟩
  · exact ⟨_, _, _, _, rfl, b2, fun st => asked1_scenes (l := [0, ((k.film.scenes.length : Nat) : Int)]) rfl (by omega) (by simp) (by simp [rightS])⟩
  · exact ⟨_, _, _, _, rfl, b1, fun st => asked1_lab (by omega)⟩
  · exact ⟨_, _, _, _, rfl, b3, fun st => asked2_no hsc fun q => by have := q.2 s hs; omega⟩
  · exact ⟨_, _, _, _, rfl, b3, fun st => asked2_no hsc fun q => by have := q.1; omega⟩
  · exact ⟨_, _, _, _, rfl, b3, fun st => asked2_no hsc fun q => by have := q.1; omega⟩
theorem tail_roll (h : Crs k co ss) {v8 : Option D} {v9 v10 v12 v13 : D} {t : Store} (hd : DrawOk c) (hP : ∀ st2, P.r (.bl true) st2) :
    wpS (b_law_21 [some fz, some (.loc 0), some (encK k), some (.int (k.film.scenes.length : Nat)), some (.tup (co.map encCr)), some (.tup (ss.map encSt)), some (.loc 1), none, v8, some v9, some v10, none, some v12, some v13, none, none, none, none, none, none, none] (c :: t)) P := by
  have hk := h.ck
  obtain ⟨⟨l0, l1⟩, hl2, _⟩ := long_is hk.film
  have hsc : k.film.scenes.length ≤ 60 := by have := hk.film.sc; omega
  have hsc1 := hk.film.sc.1
  have herr := errs_all (CW := co.map encCr) hk h
  have hmx : ∀ st2 : Store, maxD [.lst ((k.film.scenes.map Scene.mins).map .int)] st2 = .ok (.int (longS k)) st2 := fun st2 => by
    refine max1_ints ?_ ?_
    · rw [lstOf_lst, Option.bind_some, intsOf_map']
    · intro e
      have hne : (k.film.scenes.map Scene.mins).length = 0 := by rw [e]; rfl
      rw [List.length_map] at hne
      omega
  have hrest : ∀ (roll : Int) (c' : Option Ob) v8, DrawOk c' → RollOk k roll → wpS (b_law_23 [some fz, some (.loc 0), some (encK k), some (.int (k.film.scenes.length : Nat)), some (.tup (co.map encCr)), some (.tup (ss.map encSt)), some (.loc 1), none, v8, some v9, some v10, none, some v12, some v13, some (.int (longS k)), some (.int roll), none, none, none, none, none] (c' :: t)) P := fun roll c' v8 h' hr => by
    unfold b_law_23
    simp
    refine rolls_go h ?_
    have ha := fun st2 => asked2_ok (x := .tup []) (st := st2) h hr
    generalize totS k roll (prs ss co) = T at *
    obtain ⟨CW, hCW⟩ : ∃ CW, CW = co.map encCr := ⟨_, rfl⟩
    obtain ⟨SW, hSW⟩ : ∃ SW, SW = ss.map encSt := ⟨_, rfl⟩
    rw [← hCW] at ha herr
    rw [← hCW, ← hSW]
    unfold b_law_26
    simp [ha]
    have := errs_go (fz := fz) (k := k) (CW := CW) (SW := SW) (v8 := v8) (v9 := v9) (v10 := v10) (v12 := v12) (v13 := v13) (v14 := .int (longS k)) (v15 := .int roll) (v16 := .int T) (N := k.film.scenes.length) hP (st1 := c' :: t) _ herr
    unfold b_law_28
    simp [sFor_wp]
    exact this
  clear herr
  generalize longS k = L at *
  obtain ⟨CW, hCW⟩ : ∃ CW, CW = co.map encCr := ⟨_, rfl⟩
  obtain ⟨SW, hSW⟩ : ∃ SW, SW = ss.map encSt := ⟨_, rfl⟩
  rw [← hCW, ← hSW] at hrest ⊢
  unfold b_law_21
  simp [eComp_wp, ixK0, ixF2]
  refine ⟨by omega, ?_⟩
  rw [compGo_map (h := fun s : Scene => D.int s.mins) trivial fun s hs => ⟨_, rfl, by simp [encSc]⟩]
  have em : k.film.scenes.map (fun s : Scene => D.int s.mins) = (k.film.scenes.map Scene.mins).map .int := by
    rw [List.map_map]
    rfl
  rw [em]
  generalize k.film.scenes.map Scene.mins = ML at *
  obtain ⟨MW, hMW⟩ : ∃ MW, MW = ML.map D.int := ⟨_, rfl⟩
  rw [← hMW] at hmx ⊢
  simp [hmx]
  unfold b_law_22
  simp [take_is]
  refine take_wp hd (by omega) (by omega) fun r c1 h1 r0 r1 => ?_
  simp
  refine take_wp h1 (by omega) (by omega) fun r2 c2 h2 r20 r21 => ?_
  have hq : r2 = 0 ∨ r2 = 1 ∨ r2 = 2 ∨ r2 = 3 := by omega
  rcases hq with rfl | rfl | rfl | rfl
  · simp
    exact hrest _ _ _ h2 ⟨by omega, fun s hs => by have := hl2 s hs; omega⟩
  · simp
    exact hrest _ _ _ h2 ⟨by omega, fun s hs => by have := hl2 s hs; omega⟩
  · simp
    exact hrest _ _ _ h2 ⟨by omega, fun s hs => by have := hl2 s hs; omega⟩
  · simp
    exact hrest _ _ _ h2 ⟨by omega, fun s hs => by have := hl2 s hs; omega⟩
end
end Lk72
namespace Lk72
open PySem Dn
section
variable {k : Case} {co : List Cr} {ss : List Std} {st : Store} {lab roll : Int} {fz : D} {CW SW : List D} {P : Po} {c : Option Ob}
theorem okd_cut {n : Nat} {os : List (Option Nat)} : okd n (cutR os lab) = true := by
  unfold cutR
  split
  · exact okd_non
  · exact okd_int
theorem tail_seq (h : Crs k co ss) {v8 : Option D} {v12 : Option D} {t : Store} (hd : DrawOk c) (hl : 0 ≤ lab ∧ lab ≤ 9) {l : List Nat} (hs : l.Sublist (List.range k.film.scenes.length)) (hne : l ≠ []) (hP : ∀ st2, P.r (.bl true) st2) :
    wpS (b_law_18 [some fz, some (.loc 0), some (encK k), some (.int (k.film.scenes.length : Nat)), some (.tup (co.map encCr)), some (.tup (ss.map encSt)), some (.loc 1), none, v8, some (.int lab), some (.lst ((daysOf k.film.scenes.length ss).map (bkO lab))), none, some (encN l), none, none, none, none, none, none, none, none] (c :: t)) P := by
  have ha := fun st2 => asked1_ok (st := st2) h hl hs hne
  have htl := fun v8 v9 v10 v12 v13 => tail_roll (fz := fz) (v8 := v8) (v9 := v9) (v10 := v10) (v12 := v12) (v13 := v13) (t := t) h hd hP
  have hsc : k.film.scenes.length ≤ 60 := by have := h.ck.film.sc; omega
  have hll := hs.length_le
  rw [List.length_range] at hll
  have hdl := daysOf_len (n := k.film.scenes.length) (ss := ss)
  have hlt : ∀ i ∈ l, i < k.film.scenes.length := fun i hi => List.mem_range.mp (hs.subset hi)
  generalize daysOf k.film.scenes.length ss = DU at *
  obtain ⟨CW, hCW⟩ : ∃ CW, CW = co.map encCr := ⟨_, rfl⟩
  obtain ⟨SW, hSW⟩ : ∃ SW, SW = ss.map encSt := ⟨_, rfl⟩
  obtain ⟨DW, hDW⟩ : ∃ DW, DW = DU.map (bkO lab) := ⟨_, rfl⟩
  rw [← hCW] at ha
  rw [← hCW, ← hSW] at htl
  rw [← hCW, ← hSW, ← hDW]
  have hone : ownO DU l ≠ [] := by simpa [ownO] using hne
  have hiE : ∀ st2 : Store, itsOf st2 (encN l) = some (nats l, []) := fun st2 => rfl
  unfold b_law_18
  simp [eComp_wp, hiE, nats]
  refine ⟨by omega, ?_⟩
  rw [compGo_map (f := fun k : Nat => D.int (k : Nat)) (h := fun sc : Nat => bkO lab ((DU[sc]?).getD none)) trivial (xs := l) (fun sc hsc => by
    have hi := hlt sc hsc
    have hi2 : sc < DU.length := by omega
    refine ⟨_, rfl, ?_⟩
    rw [List.getElem?_eq_getElem hi2]
    simp [hDW, hi2])]
  have eo : (l.map fun sc : Nat => bkO lab ((DU[sc]?).getD none)) = (ownO DU l).map (bkO lab) := by
    unfold ownO
    rw [List.map_map]
    rfl
  rw [eo]
  simp
  have hin := fun st2 => in_no (os := ownO DU l) (lab := lab) (st := st2)
  have hmx := fun (h : ¬ anyNo (ownO DU l) = true) st2 => max_bk (st := st2) (lab := lab) hone h
  have hrf := fun (st2 : Store) => ne_refl (st := st2) (okd_cut (n := 60) (lab := lab) (os := ownO DU l))
  unfold cutR at ha hrf
  generalize ownO DU l = os at *
  obtain ⟨OW, hOW⟩ : ∃ OW, OW = os.map (bkO lab) := ⟨_, rfl⟩
  rw [← hOW] at hin hmx
  rw [← hOW]
  unfold b_law_19
  by_cases hn : anyNo os = true
  · rw [if_pos hn] at hrf
    simp only [hn, if_true] at ha
    simp [-Dn.inA_lst, hin, hn, ha, hrf]
    exact htl _ _ _ _ _
  · rw [if_neg hn] at hrf
    simp only [hn, if_false] at ha
    simp [-Dn.inA_lst, hin, hn, hmx hn, ha, hrf]
    exact htl _ _ _ _ _
theorem tail_lab (h : Crs k co ss) {v8 : Option D} (hd : DrawOk c) (hP : ∀ st2, P.r (.bl true) st2) :
    wpS (b_law_11 (VW fz k (co.map encCr) (ss.map encSt) none v8) [c, some (.lst ((daysOf k.film.scenes.length ss).map encDO))]) P := by
  have hsc : k.film.scenes.length ≤ 60 := by have := h.ck.film.sc; omega
  have hsc1 := h.ck.film.sc.1
  have hdl := daysOf_len (n := k.film.scenes.length) (ss := ss)
  have ha := fun lab (hl : 0 ≤ lab ∧ lab ≤ 9) st2 => asked0_ok (lab := lab) (x := .tup []) (st := st2) h hl
  have htl := fun lab (hl : 0 ≤ lab ∧ lab ≤ 9) l hs hne c t (hd : DrawOk c) v8 => tail_seq (lab := lab) (fz := fz) (v8 := v8) (v12 := none) (t := t) h hd hl (l := l) hs hne hP
  generalize daysOf k.film.scenes.length ss = DU at *
  obtain ⟨CW, hCW⟩ : ∃ CW, CW = co.map encCr := ⟨_, rfl⟩
  obtain ⟨SW, hSW⟩ : ∃ SW, SW = ss.map encSt := ⟨_, rfl⟩
  rw [← hCW] at ha
  rw [← hCW, ← hSW] at htl
  rw [← hCW, ← hSW]
  unfold VW
  unfold b_law_11
  simp [take_is]
  refine take_wp hd (by omega) (by omega) fun r c1 h1 r0 r1 => ?_
  simp
  obtain ⟨DW, hDW⟩ : ∃ DW, DW = DU.map encDO := ⟨_, rfl⟩
  have hDl : DW.length = DU.length := by rw [hDW]; simp
  rw [← hDW]
  unfold b_law_12
  simp [eComp_wp, hDl]
  refine ⟨by dsimp only; omega, ?_⟩
  rw [hDW, compGo_map (h := bkO r) ⟨rfl, trivial⟩ fun o ho => ⟨_, rfl, by cases o <;> simp [encDO, bkO]⟩, ← hDW]
  have ha0 := ha r ⟨r0, by omega⟩
  have ht0 := htl r ⟨r0, by omega⟩
  have hrf := fun (st2 : Store) => ne_refl (st := st2) (okd_tup (n := 59) fun d hd => by
    obtain ⟨o, _, rfl⟩ := List.mem_map.mp hd
    exact okd_bkO (n := 59) r o : okd 60 (.tup (DU.map (bkO r))) = true)
  obtain ⟨EW, hEW⟩ : ∃ EW, EW = DU.map (bkO r) := ⟨_, rfl⟩
  rw [← hEW] at ha0 ht0 hrf
  rw [← hEW]
  simp
  unfold b_law_13
  simp [ha0, hrf]
  unfold b_law_15
  simp
  refine some_wp hsc h1 fun l c2 h2 hs => ?_
  have hle : ∀ st2 : Store, lenD [encN l] st2 = .ok (.int (l.length : Nat)) st2 := fun st2 => by simp [encN]
  simp
  unfold b_law_16
  by_cases hn : l = []
  · subst hn
    have hle0 : ∀ st2 : Store, lenD [encN []] st2 = .ok (.int 0) st2 := fun st2 => rfl
    simp [hle0, take_is]
    refine take_wp h2 (by omega) (by omega) fun r3 c3 h3 r30 r31 => ?_
    obtain ⟨i, rfl⟩ : ∃ i : Nat, r3 = (i : Int) := ⟨r3.toNat, by omega⟩
    have := ht0 [i] (by rw [List.singleton_sublist]; exact List.mem_range.mpr (by omega)) (by simp) c3 [some (.lst DW)] h3 v8
    simp
    exact this
  · have hlp : ¬ ((l.length : Nat) : Int) = 0 := fun q => hn (List.length_eq_zero_iff.mp (by omega))
    have := ht0 l hs hn c2 [some (.lst DW)] h2 v8
    simp [hle, hn]
    exact this
end
theorem law_wp (ns : List Int) : wp (m_law [.frz (ns.map D.int)] []) fun d _ => d = .bl true := by
  unfold m_law
  rw [wp_fnD]
  unfold b_law
  obtain ⟨c0, h0, e0⟩ := begin_ok (ns := ns)
  simp [begin_is, e0]
  unfold b_law_2
  simp [take_is]
  have hPt : ∀ st2, wp (gcRet [] (.bl true) st2) fun d _ => d = .bl true := fun st2 => by rw [gc_nil (by simp), wp_ok]
  refine take_wp h0 (by omega) (by omega) fun r c1 h1 r0 r1 => ?_
  obtain ⟨days, hdays⟩ : ∃ days : Nat, 1 + r = (days : Int) := ⟨(1 + r).toNat, by omega⟩
  simp [hdays]
  refine case60_wp (days := days) (by omega) h1 fun k c2 h2 hk hkl => ?_
  have hsc : k.film.scenes.length ≤ 60 := by have := hk.film.sc; omega
  simp
  unfold b_law_3
  simp [ixK0, ixF2]
  unfold b_law_4
  simp
  refine course_wp hk h2 fun co ss c3 h3 h => ?_
  obtain ⟨X, hrun⟩ := h.run [c3]
  have hdg := days_go (c := c3) (fz := .frz (ns.map D.int)) (CW := co.map encCr) h (P := ⟨fun x st' => wp (gcRet [] .non st') fun d _ => d = .bl true, fun d st' => wp (gcRet [] d st') fun d _ => d = .bl true, fun _ _ => False, fun _ _ => False⟩) fun v8 => tail_lab h h3 hPt
  unfold VW at hdg
  have hmul : ∀ st2 : Store, mulD true (.lst [.non]) (.int (k.film.scenes.length : Nat)) st2 = .ok (.loc st2.length) (st2 ++ [some (.lst ((List.replicate k.film.scenes.length (none : Option Nat)).map encDO))]) := fun st2 => by
    unfold mulD
    simp only [lstOf_lst]
    rw [if_pos ⟨by omega, by omega, by simp; omega⟩, mkNew_t, Int.toNat_natCast, List.map_replicate]
    simp [encDO]
  obtain ⟨CW, hCW⟩ : ∃ CW, CW = co.map encCr := ⟨_, rfl⟩
  obtain ⟨SW, hSW⟩ : ∃ SW, SW = ss.map encSt := ⟨_, rfl⟩
  obtain ⟨RW, hRW⟩ : ∃ RW, RW = (List.replicate k.film.scenes.length (none : Option Nat)).map encDO := ⟨_, rfl⟩
  rw [← hCW, ← hSW] at hrun
  rw [← hCW, ← hSW, ← hRW] at hdg
  rw [← hRW] at hmul
  rw [← hCW]
  simp
  unfold b_law_5
  simp [hrun]
  unfold b_law_6
  simp [hmul]
  exact hdg
theorem law_true (ns : List Int) (_ : ns.length ≤ 63) : ∃ st, m_law [.frz (ns.map D.int)] [] = .ok (.bl true) st := by
  obtain ⟨d, st, e, rfl⟩ := wp_ex (law_wp ns)
  exact ⟨st, e⟩
end Lk72
open PySem PySem.W PyProof.Rows
set_option maxHeartbeats 0 in
theorem PySem.Challenge.cw_callsheets_k72_days_of_courses_holds : PySem.Challenge.rw_callsheets_k72_days_of_courses.Holds := by
  w_on; o_law; k_head; (case hw => w_witness2)
  k_fill
  refine L2.walk_of (l := PySem.Challenge.rw_callsheets_k72_days_of_courses) (n := 63) (k := 18) (x := "script") (CX := fun w => L2.CX PySem.Challenge.pw_callsheets_k72_days_of_courses w) (sp := fun w => Lk72.spLaw _) rfl (by decide) rfl ⟨rfl, by decide, by decide⟩ (fun w h Y => PySem.W.kIn_of Y) ?F (fun _ _ a ns hl _ hS => ⟨a, ns, rfl, hS, hl, fun _ => rfl⟩) (fun _ _ _ _ _ h => Dn.cx_false h)
  case F =>
    intro w mg fa h KX G hmg
    refine' Lk72.all_mk KX G hmg Lk72.law_true ?g_MEAL ?g_DAY ?g_NO_REST ?g_HALF_HOUR ?g_IDLE ?hIDLE_1 ?g_MOST_LAB ?g_MOST_MINUTES ?g_FIGURES ?hFIGURES_1 ?a1 ?l1 ?c1 ?k1 ?k_a_Clock ?k_pg_Clock ?k_hd_Clock ?k_po_Clock ?k_sa_Clock ?k_mk_Clock ?k_kp_Clock ?k_n_Clock_film ?k_n_Clock_minute ?k_n_Clock_place ?k_n_Clock_rows ?a2 ?i2 ?l2 ?c2 ?k2 ?a3 ?i3 ?l3 ?c3 ?k3 ?a4 ?i4 ?l4 ?c4 ?k4 ?a5 ?l5 ?c5 ?k5 ?a6 ?l6 ?c6 ?k6 ?a7 ?l7 ?c7 ?k7 ?a8 ?l8 ?c8 ?k8 ?a9 ?l9 ?c9 ?k9 ?a10 ?l10 ?c10 ?k10 ?a11 ?l11 ?c11 ?k11 ?a12 ?l12 ?c12 ?k12 ?a13 ?l13 ?c13 ?k13 ?a14 ?l14 ?c14 ?k14 ?a15 ?l15 ?c15 ?k15 ?a16 ?l16 ?c16 ?k16 ?a17 ?l17 ?c17 ?k17 ?a18 ?l18 ?c18 ?k18 ?a19 ?l19 ?c19 ?k19 ?a20 ?l20 ?c20 ?k20 ?a21 ?l21 ?c21 ?k21 ?a22 ?l22 ?c22 ?k22 ?a23 ?l23 ?c23 ?k23 ?a24 ?l24 ?c24 ?k24 ?a25 ?l25 ?c25 ?k25 ?a26 ?l26 ?c26 ?k26 ?a27 ?l27 ?c27 ?k27 ?a28 ?l28 ?c28 ?k28 ?a29 ?l29 ?c29 ?k29 ?a30 ?l30 ?c30 ?k30 ?a31 ?l31 ?c31 ?k31 ?a32 ?l32 ?c32 ?k32 ?a33 ?l33 ?c33 ?k33 ?a34 ?l34 ?c34 ?k34 ?a35 ?l35 ?c35 ?k35 ?a36 ?l36 ?c36 ?k36 ?a37 ?l37 ?c37 ?k37 ?a38 ?l38 ?c38 ?k38 ?a39 ?l39 ?c39 ?k39 ?a40 ?l40 ?c40 ?k40 ?a41 ?l41 ?c41 ?k41 ?a42 ?l42 ?c42 ?k42 ?a43 ?l43 ?c43 ?k43 ?a44 ?l44 ?c44 ?k44 ?a45 ?l45 ?c45 ?k45 ?a46 ?l46 ?c46 ?k46 ?e_D ?e_I ?e_tI ?e_lI ?e_cI ?e_lc ?e_lcc ?e_clD ?e_zs ?e_zy ?e_a_CaseError ?e_x_CaseError ?e_sa_CaseError ?e_ga_CaseError ?e_gg_CaseError ?e_nb_CaseError ?e_ic_CaseError ?e_k_CaseError ?e_e_CaseError ?e_v_CaseError ?e_t_CaseError ?e_h_CaseError ?e_s_CaseError ?e_a_StockError ?e_x_StockError ?e_sa_StockError ?e_ga_StockError ?e_gg_StockError ?e_nb_StockError ?e_ic_StockError ?e_k_StockError ?e_e_StockError ?e_v_StockError ?e_t_StockError ?e_h_StockError ?e_s_StockError ?y_e_StockError ?y_i_StockError ?y_t_StockError ?y_s_CaseError_StockError ?y_s_StockError_StockError ?z_abs ?z_all ?z_any ?z_enumerate ?z_int ?z_len ?z_list ?z_max ?z_min ?z_range ?z_sorted ?z_str ?z_sum ?z_tuple ?z_zip ?v_hv ?v_file ?v_top ?v_ne_CaseError ?v_ne_StockError
    (case g_MEAL => k_is); (case g_DAY => k_is); (case g_NO_REST => k_is); (case g_HALF_HOUR => k_is); (case g_IDLE => k_is); (case hIDLE_1 => k_is); (case g_MOST_LAB => k_is); (case g_MOST_MINUTES => k_is); (case g_FIGURES => k_is); (case hFIGURES_1 => k_is); (case a1 => k_is); (case l1 => k_is); (case c1 => k_is); (case k1 => k_is); (case k_a_Clock => k_is); (case k_pg_Clock => k_is); (case k_hd_Clock => k_is); (case k_po_Clock => k_is); (case k_sa_Clock => k_is); (case k_mk_Clock => k_is); (case k_kp_Clock => k_is); (case k_n_Clock_film => k_is); (case k_n_Clock_minute => k_is); (case k_n_Clock_place => k_is); (case k_n_Clock_rows => k_is); (case a2 => k_is); (case i2 => k_is); (case l2 => k_is); (case c2 => k_is); (case k2 => k_is); (case a3 => k_is); (case i3 => k_is); (case l3 => k_is); (case c3 => k_is); (case k3 => k_is); (case a4 => k_is); (case i4 => k_is); (case l4 => k_is); (case c4 => k_is); (case k4 => k_is); (case a5 => k_is); (case l5 => k_is); (case c5 => k_is); (case k5 => k_is); (case a6 => k_is); (case l6 => k_is); (case c6 => k_is); (case k6 => k_is); (case a7 => k_is); (case l7 => k_is); (case c7 => k_is); (case k7 => k_is); (case a8 => k_is); (case l8 => k_is); (case c8 => k_is); (case k8 => k_is); (case a9 => k_is); (case l9 => k_is); (case c9 => k_is); (case k9 => k_is); (case a10 => k_is); (case l10 => k_is); (case c10 => k_is); (case k10 => k_is); (case a11 => k_is); (case l11 => k_is); (case c11 => k_is); (case k11 => k_is); (case a12 => k_is); (case l12 => k_is); (case c12 => k_is); (case k12 => k_is); (case a13 => k_is); (case l13 => k_is); (case c13 => k_is); (case k13 => k_is); (case a14 => k_is); (case l14 => k_is); (case c14 => k_is); (case k14 => k_is); (case a15 => k_is); (case l15 => k_is); (case c15 => k_is); (case k15 => k_is); (case a16 => k_is); (case l16 => k_is); (case c16 => k_is); (case k16 => k_is); (case a17 => k_is); (case l17 => k_is); (case c17 => k_is); (case k17 => k_is); (case a18 => k_is); (case l18 => k_is); (case c18 => k_is); (case k18 => k_is); (case a19 => k_is); (case l19 => k_is); (case c19 => k_is); (case k19 => k_is); (case a20 => k_is); (case l20 => k_is); (case c20 => k_is); (case k20 => k_is); (case a21 => k_is); (case l21 => k_is); (case c21 => k_is); (case k21 => k_is); (case a22 => k_is); (case l22 => k_is); (case c22 => k_is); (case k22 => k_is); (case a23 => k_is); (case l23 => k_is); (case c23 => k_is); (case k23 => k_is); (case a24 => k_is); (case l24 => k_is); (case c24 => k_is); (case k24 => k_is); (case a25 => k_is); (case l25 => k_is); (case c25 => k_is); (case k25 => k_is); (case a26 => k_is); (case l26 => k_is); (case c26 => k_is); (case k26 => k_is); (case a27 => k_is); (case l27 => k_is); (case c27 => k_is); (case k27 => k_is); (case a28 => k_is); (case l28 => k_is); (case c28 => k_is); (case k28 => k_is); (case a29 => k_is); (case l29 => k_is); (case c29 => k_is); (case k29 => k_is); (case a30 => k_is); (case l30 => k_is); (case c30 => k_is); (case k30 => k_is); (case a31 => k_is); (case l31 => k_is); (case c31 => k_is); (case k31 => k_is); (case a32 => k_is); (case l32 => k_is); (case c32 => k_is); (case k32 => k_is); (case a33 => k_is); (case l33 => k_is); (case c33 => k_is); (case k33 => k_is); (case a34 => k_is); (case l34 => k_is); (case c34 => k_is); (case k34 => k_is); (case a35 => k_is); (case l35 => k_is); (case c35 => k_is); (case k35 => k_is); (case a36 => k_is); (case l36 => k_is); (case c36 => k_is); (case k36 => k_is); (case a37 => k_is); (case l37 => k_is); (case c37 => k_is); (case k37 => k_is); (case a38 => k_is); (case l38 => k_is); (case c38 => k_is); (case k38 => k_is); (case a39 => k_is); (case l39 => k_is); (case c39 => k_is); (case k39 => k_is); (case a40 => k_is); (case l40 => k_is); (case c40 => k_is); (case k40 => k_is); (case a41 => k_is); (case l41 => k_is); (case c41 => k_is); (case k41 => k_is); (case a42 => k_is); (case l42 => k_is); (case c42 => k_is); (case k42 => k_is); (case a43 => k_is); (case l43 => k_is); (case c43 => k_is); (case k43 => k_is); (case a44 => k_is); (case l44 => k_is); (case c44 => k_is); (case k44 => k_is); (case a45 => k_is); (case l45 => k_is); (case c45 => k_is); (case k45 => k_is); (case a46 => k_is); (case l46 => k_is); (case c46 => k_is); (case k46 => k_is); (case e_D => k_is); (case e_I => k_is); (case e_tI => k_is); (case e_lI => k_is); (case e_cI => k_is); (case e_lc => k_is); (case e_lcc => k_is); (case e_clD => k_is); (case e_zs => k_is); (case e_zy => k_is); (case e_a_CaseError => k_is); (case e_x_CaseError => k_is); (case e_sa_CaseError => k_is); (case e_ga_CaseError => k_is); (case e_gg_CaseError => k_is); (case e_nb_CaseError => k_is); (case e_ic_CaseError => k_is); (case e_k_CaseError => k_is); (case e_e_CaseError => k_is); (case e_v_CaseError => k_is); (case e_t_CaseError => k_is); (case e_h_CaseError => k_is); (case e_s_CaseError => k_is); (case e_a_StockError => k_is); (case e_x_StockError => k_is); (case e_sa_StockError => k_is); (case e_ga_StockError => k_is); (case e_gg_StockError => k_is); (case e_nb_StockError => k_is); (case e_ic_StockError => k_is); (case e_k_StockError => k_is); (case e_e_StockError => k_is); (case e_v_StockError => k_is); (case e_t_StockError => k_is); (case e_h_StockError => k_is); (case e_s_StockError => k_is); (case y_e_StockError => k_is); (case y_i_StockError => k_is); (case y_t_StockError => k_is); (case y_s_CaseError_StockError => k_is); (case y_s_StockError_StockError => k_is); (case z_abs => k_is); (case z_all => k_is); (case z_any => k_is); (case z_enumerate => k_is); (case z_int => k_is); (case z_len => k_is); (case z_list => k_is); (case z_max => k_is); (case z_min => k_is); (case z_range => k_is); (case z_sorted => k_is); (case z_str => k_is); (case z_sum => k_is); (case z_tuple => k_is); (case z_zip => k_is); (case v_hv => first | rfl | decide +kernel | kernel_rfl); (case v_file => first | rfl | decide +kernel | kernel_rfl); (case v_top => first | rfl | decide +kernel | kernel_rfl); (case v_ne_CaseError => first | rfl | decide +kernel | kernel_rfl); (case v_ne_StockError => first | rfl | decide +kernel | kernel_rfl)
