import PyProof.Rows.All
import Wide.All
import OpenK.AllK
import Wide.FinOn
import HandS.ForMost
import HandS.ForExc
import HandS.TupAny
import HandS.Deep
import KE.KeyNested
import KE.KDictKeyed
import HandS.TupMul
import HandS.TupLe
import HandS.CallSlots
import HandS.ExcOwn
import HandS.SortInts
import KE.SortData
import HandS.WordsDict
import KE.GoesEnum
import HandS.Zip
import HandS.Small
import HandS.Strs
import KE.DataMinMax
import KE.BitLaws
import HandS.TupSets
import HandS.Iter
import KE.KExcSuper
import HandS.TryOnly
import KE.KTupSum
import HandS.Conv
import KE.KRevSl
import KE.KDictSum
import HandS.SortKw
import HandS.ExcValue
import KE.KDictDisplayH
import HandS.DictComp
import HandS.TryMany
import HandS.IsInst
import PySem.Challenge.RW_callsheets_k69_takes_on_rolls
set_option Elab.async false
set_option linter.all false
set_option maxRecDepth 100000
set_option maxHeartbeats 4000000
/-! A denotational layer over HandS: data D, a store of what may change, what an expression gives. -/
namespace Dn
open PySem PySem.Spec PyProof.Rows L2

/-- data: what never changes stands as itself, what may change stands at a place of the store -/
inductive D where
  | non | bl (b : Bool) | int (i : Int) | str (x : Str) | tup (ds : List D) | lst (ds : List D) | frz (ds : List D) | loc (n : Nat)
  | exn (a dd : Addr) (ds : List D)
  deriving Inhabited
/-- what may change -/
inductive Ob where
  | lst (ds : List D) | dct (kvs : List (Key × D)) | dtt (kvs : List (NestedKey × D)) | ins (c : Str) (fs : List (Str × D))
abbrev Store := List (Option Ob)
abbrev Vars := List (Option D)
/-- an exception: its class, its fields -/
structure Exn where
  c : Str
  fs : List (Str × D)

/-! ### what stands for data -/
def Ex (H H' : Hp) : Prop := ∀ a o, H a = some o → H' a = some o
theorem Ex.refl (H : Hp) : Ex H H := fun _ _ h => h
theorem Ex.trans {H H1 H2 : Hp} (a : Ex H H1) (b : Ex H1 H2) : Ex H H2 := fun x o h => b x o (a x o h)
theorem Ex.new {H : Hp} {p : Addr} {o : HO} (h : H p = none) : Ex H (upd H p o) := fun a u e => by
  rw [upd_ne (ne_of_none e h)]
  exact e
theorem Ex.free {H H' : Hp} (e : Ex H H') {p : Addr} (h : H' p = none) : H p = none := by
  cases h1 : H p with
  | none => rfl
  | some o =>
    rw [e p o h1] at h
    cases h
/-- what H does not have may change behind it -/
theorem Ex.mut {H H' : Hp} {p : Addr} {o : HO} (e : Ex H H') (h : H p = none) : Ex H (upd H' p o) := fun a u ha => by
  rw [upd_ne (ne_of_none ha h)]
  exact e a u ha
theorem Ex.rd {H H' : Hp} {a : Addr} {u : HO} (e : Ex H H') (h : Rd H a u) : Rd H' a u := by
  rcases h with h | ⟨o, h⟩
  · exact Or.inl (e a _ h)
  · exact Or.inr ⟨o, e a _ h⟩
theorem Ex.sqt {K : PySem.W.Frag} {H H' : Hp} {a : Addr} {xs : List V} (e : Ex H H') (h : SqT K H a xs) : SqT K H' a xs := by
  rcases h with h | h
  · exact Or.inl (e.rd h)
  · exact Or.inr h
theorem Ex.sql {K : PySem.W.Frag} {H H' : Hp} {a : Addr} {xs : List V} (e : Ex H H') (h : SqL K H a xs) : SqL K H' a xs := by
  rcases h with h | h
  · exact Or.inl (e.rd h)
  · exact Or.inr h

/-- the fields of an own error, in their order -/
def exN : List Str := ["code", "line"]
section
variable (K : PySem.W.Frag) (μ : List Addr) (G : Hp)
mutual
def Rep : D → V → Prop
  | .non, v => v = .non
  | .bl b, v => v = .bl b
  | .int i, v => v = .int i
  | .str x, v => v = .str x
  | .tup ds, v => ∃ a vs, v = .ref a ∧ SqT K G a vs ∧ Reps ds vs
  | .lst ds, v => ∃ a vs, v = .ref a ∧ G a = some (.lst vs) ∧ Reps ds vs
  | .frz ds, v => ∃ a vs, v = .ref a ∧ SqL K G a vs ∧ Reps ds vs
  | .loc n, v => ∃ a, v = .ref a ∧ μ[n]? = some a
  | .exn a dd ds, v => ∃ vs, v = .ref a ∧ G dd = some (.xd (exN.zip vs)) ∧ Reps ds vs
def Reps : List D → List V → Prop
  | [], vs => vs = []
  | d :: ds, vs => ∃ v r, vs = v :: r ∧ Rep d v ∧ Reps ds r
end
end
/-- later: more places, more that is known -/
structure Fut (μ : List Addr) (G : Hp) (μ' : List Addr) (G' : Hp) : Prop where
  pl : ∃ l, μ' = μ ++ l
  ex : Ex G G'
theorem Fut.refl (μ : List Addr) (G : Hp) : Fut μ G μ G := ⟨⟨[], by simp⟩, Ex.refl G⟩
theorem Fut.trans {μ μ1 μ2 : List Addr} {G G1 G2 : Hp} (a : Fut μ G μ1 G1) (b : Fut μ1 G1 μ2 G2) : Fut μ G μ2 G2 := by
  obtain ⟨⟨l, rfl⟩, ea⟩ := a
  obtain ⟨⟨k, rfl⟩, eb⟩ := b
  exact ⟨⟨l ++ k, by simp⟩, ea.trans eb⟩
theorem Fut.at {μ μ' : List Addr} {G G' : Hp} (f : Fut μ G μ' G') {n : Nat} {a : Addr} (h : μ[n]? = some a) : μ'[n]? = some a := by
  obtain ⟨⟨l, rfl⟩, _⟩ := f
  rw [List.getElem?_append_left (List.getElem?_eq_some_iff.mp h).1]
  exact h
theorem Fut.know {μ : List Addr} {G G' : Hp} (e : Ex G G') : Fut μ G μ G' := ⟨⟨[], by simp⟩, e⟩

section
variable {K : PySem.W.Frag} {μ μ' : List Addr} {G G' : Hp}
mutual
theorem Rep.fut (f : Fut μ G μ' G') : ∀ {d : D} {v : V}, Rep K μ G d v → Rep K μ' G' d v
  | .non, _, h => by simpa [Rep] using h
  | .bl _, _, h => by simpa [Rep] using h
  | .int _, _, h => by simpa [Rep] using h
  | .str _, _, h => by simpa [Rep] using h
  | .tup ds, v, h => by
    unfold Rep at h ⊢
    obtain ⟨a, vs, e, s, r⟩ := h
    exact ⟨a, vs, e, f.ex.sqt s, Reps.fut f r⟩
  | .lst ds, v, h => by
    unfold Rep at h ⊢
    obtain ⟨a, vs, e, s, r⟩ := h
    exact ⟨a, vs, e, f.ex a _ s, Reps.fut f r⟩
  | .frz ds, v, h => by
    unfold Rep at h ⊢
    obtain ⟨a, vs, e, s, r⟩ := h
    exact ⟨a, vs, e, f.ex.sql s, Reps.fut f r⟩
  | .loc n, v, h => by
    unfold Rep at h ⊢
    obtain ⟨a, e, s⟩ := h
    exact ⟨a, e, f.at s⟩
  | .exn a dd ds, v, h => by
    unfold Rep at h ⊢
    obtain ⟨vs, e, s, r⟩ := h
    exact ⟨vs, e, f.ex dd _ s, Reps.fut f r⟩
theorem Reps.fut (f : Fut μ G μ' G') : ∀ {ds : List D} {vs : List V}, Reps K μ G ds vs → Reps K μ' G' ds vs
  | [], _, h => by simpa [Reps] using h
  | d :: ds, vs, h => by
    unfold Reps at h ⊢
    obtain ⟨v, r, e, h1, h2⟩ := h
    exact ⟨v, r, e, Rep.fut f h1, Reps.fut f h2⟩
end
theorem rep_non {v : V} (h : Rep K μ G .non v) : v = .non := by simpa [Rep] using h
theorem rep_bl {b : Bool} {v : V} (h : Rep K μ G (.bl b) v) : v = .bl b := by simpa [Rep] using h
theorem rep_int {i : Int} {v : V} (h : Rep K μ G (.int i) v) : v = .int i := by simpa [Rep] using h
theorem rep_str {x : Str} {v : V} (h : Rep K μ G (.str x) v) : v = .str x := by simpa [Rep] using h
theorem rep_tup {ds : List D} {v : V} (h : Rep K μ G (.tup ds) v) : ∃ a vs, v = .ref a ∧ SqT K G a vs ∧ Reps K μ G ds vs := by unfold Rep at h; exact h
theorem rep_lst {ds : List D} {v : V} (h : Rep K μ G (.lst ds) v) : ∃ a vs, v = .ref a ∧ G a = some (.lst vs) ∧ Reps K μ G ds vs := by unfold Rep at h; exact h
theorem rep_frz {ds : List D} {v : V} (h : Rep K μ G (.frz ds) v) : ∃ a vs, v = .ref a ∧ SqL K G a vs ∧ Reps K μ G ds vs := by unfold Rep at h; exact h
theorem rep_loc {n : Nat} {v : V} (h : Rep K μ G (.loc n) v) : ∃ a, v = .ref a ∧ μ[n]? = some a := by unfold Rep at h; exact h
theorem rep_exn {a dd : Addr} {ds : List D} {v : V} (h : Rep K μ G (.exn a dd ds) v) : ∃ vs, v = .ref a ∧ G dd = some (.xd (exN.zip vs)) ∧ Reps K μ G ds vs := by unfold Rep at h; exact h
theorem Rep.exn {a dd : Addr} {ds : List D} {vs : List V} (s : G dd = some (.xd (exN.zip vs))) (r : Reps K μ G ds vs) : Rep K μ G (.exn a dd ds) (.ref a) := by
  unfold Rep
  exact ⟨vs, rfl, s, r⟩
theorem Rep.non : Rep K μ G .non .non := by simp [Rep]
theorem Rep.bl {b : Bool} : Rep K μ G (.bl b) (.bl b) := by simp [Rep]
theorem Rep.int {i : Int} : Rep K μ G (.int i) (.int i) := by simp [Rep]
theorem Rep.str {x : Str} : Rep K μ G (.str x) (.str x) := by simp [Rep]
theorem Rep.tup {ds : List D} {a : Addr} {vs : List V} (s : SqT K G a vs) (r : Reps K μ G ds vs) : Rep K μ G (.tup ds) (.ref a) := by
  unfold Rep
  exact ⟨a, vs, rfl, s, r⟩
theorem Rep.lst {ds : List D} {a : Addr} {vs : List V} (s : G a = some (.lst vs)) (r : Reps K μ G ds vs) : Rep K μ G (.lst ds) (.ref a) := by
  unfold Rep
  exact ⟨a, vs, rfl, s, r⟩
theorem Rep.frz {ds : List D} {a : Addr} {vs : List V} (s : SqL K G a vs) (r : Reps K μ G ds vs) : Rep K μ G (.frz ds) (.ref a) := by
  unfold Rep
  exact ⟨a, vs, rfl, s, r⟩
theorem Rep.loc {n : Nat} {a : Addr} (h : μ[n]? = some a) : Rep K μ G (.loc n) (.ref a) := by
  unfold Rep
  exact ⟨a, rfl, h⟩
theorem Reps.nil : Reps K μ G [] [] := by simp [Reps]
theorem Reps.cons {d : D} {ds : List D} {v : V} {vs : List V} (h : Rep K μ G d v) (t : Reps K μ G ds vs) : Reps K μ G (d :: ds) (v :: vs) := by
  unfold Reps
  exact ⟨v, vs, rfl, h, t⟩
theorem reps_nil {vs : List V} (h : Reps K μ G [] vs) : vs = [] := by simpa [Reps] using h
theorem reps_cons {d : D} {ds : List D} {vs : List V} (h : Reps K μ G (d :: ds) vs) : ∃ v r, vs = v :: r ∧ Rep K μ G d v ∧ Reps K μ G ds r := by unfold Reps at h; exact h
theorem Reps.length : ∀ {ds : List D} {vs : List V}, Reps K μ G ds vs → vs.length = ds.length
  | [], _, h => by rw [reps_nil h]; rfl
  | d :: ds, vs, h => by
    obtain ⟨v, r, rfl, _, t⟩ := reps_cons h
    rw [List.length_cons, List.length_cons, Reps.length t]
theorem Reps.get : ∀ {ds : List D} {vs : List V} {i : Nat} {d : D}, Reps K μ G ds vs → ds[i]? = some d → ∃ v, vs[i]? = some v ∧ Rep K μ G d v
  | [], _, i, d, _, e => by simp at e
  | x :: ds, vs, 0, d, h, e => by
    obtain ⟨v, r, rfl, hv, _⟩ := reps_cons h
    have e' : x = d := by simpa using e
    subst e'
    exact ⟨v, rfl, hv⟩
  | x :: ds, vs, i + 1, d, h, e => by
    obtain ⟨v, r, rfl, _, t⟩ := reps_cons h
    obtain ⟨w, hw, rw'⟩ := Reps.get (i := i) (d := d) t (by simpa using e)
    exact ⟨w, by simpa using hw, rw'⟩
theorem Reps.append : ∀ {ds es : List D} {vs ws : List V}, Reps K μ G ds vs → Reps K μ G es ws → Reps K μ G (ds ++ es) (vs ++ ws)
  | [], es, vs, ws, h, k => by rw [reps_nil h]; exact k
  | d :: ds, es, vs, ws, h, k => by
    obtain ⟨v, r, rfl, hv, t⟩ := reps_cons h
    exact .cons hv (Reps.append t k)
theorem Reps.set {d : D} {v : V} (hd : Rep K μ G d v) : ∀ {ds : List D} {vs : List V} (i : Nat), Reps K μ G ds vs → Reps K μ G (ds.set i d) (vs.set i v)
  | [], vs, i, h => by rw [reps_nil h]; exact .nil
  | x :: ds, vs, 0, h => by
    obtain ⟨v', r, rfl, _, t⟩ := reps_cons h
    exact .cons hd t
  | x :: ds, vs, i + 1, h => by
    obtain ⟨v', r, rfl, hx, t⟩ := reps_cons h
    exact .cons hx (Reps.set hd i t)
theorem Reps.take : ∀ {ds : List D} {vs : List V} (n : Nat), Reps K μ G ds vs → Reps K μ G (ds.take n) (vs.take n)
  | _, _, 0, _ => by simp [Reps]
  | [], vs, n + 1, h => by rw [reps_nil h]; exact .nil
  | x :: ds, vs, n + 1, h => by
    obtain ⟨v', r, rfl, hx, t⟩ := reps_cons h
    exact .cons hx (Reps.take n t)
theorem Reps.drop : ∀ {ds : List D} {vs : List V} (n : Nat), Reps K μ G ds vs → Reps K μ G (ds.drop n) (vs.drop n)
  | _, _, 0, h => h
  | [], vs, n + 1, h => by rw [reps_nil h]; exact .nil
  | x :: ds, vs, n + 1, h => by
    obtain ⟨v', r, rfl, hx, t⟩ := reps_cons h
    exact Reps.drop n t
theorem Reps.eraseIdx : ∀ {ds : List D} {vs : List V} (n : Nat), Reps K μ G ds vs → Reps K μ G (ds.eraseIdx n) (vs.eraseIdx n)
  | [], vs, n, h => by rw [reps_nil h]; exact .nil
  | x :: ds, vs, 0, h => by
    obtain ⟨v', r, rfl, hx, t⟩ := reps_cons h
    exact t
  | x :: ds, vs, n + 1, h => by
    obtain ⟨v', r, rfl, hx, t⟩ := reps_cons h
    exact .cons hx (Reps.eraseIdx n t)
theorem Reps.reverse : ∀ {ds : List D} {vs : List V}, Reps K μ G ds vs → Reps K μ G ds.reverse vs.reverse
  | [], vs, h => by rw [reps_nil h]; exact .nil
  | x :: ds, vs, h => by
    obtain ⟨v', r, rfl, hx, t⟩ := reps_cons h
    rw [List.reverse_cons, List.reverse_cons]
    exact (Reps.reverse t).append (.cons hx .nil)
theorem Reps.dropLast {ds : List D} {vs : List V} (h : Reps K μ G ds vs) : Reps K μ G ds.dropLast vs.dropLast := by
  rw [List.dropLast_eq_take, List.dropLast_eq_take, h.length]
  exact h.take _
theorem reps_ints : ∀ {ns : List Int} {vs : List V}, Reps K μ G (ns.map D.int) vs → vs = ns.map V.int
  | [], vs, h => reps_nil h
  | n :: ns, vs, h => by
    obtain ⟨v', r, rfl, hx, t⟩ := reps_cons h
    rw [rep_int hx, reps_ints t]
    rfl
theorem reps_bls : ∀ {bs : List Bool} {vs : List V}, Reps K μ G (bs.map D.bl) vs → vs = bs.map V.bl
  | [], vs, h => reps_nil h
  | n :: ns, vs, h => by
    obtain ⟨v', r, rfl, hx, t⟩ := reps_cons h
    rw [rep_bl hx, reps_bls t]
    rfl
theorem reps_strs : ∀ {ns : List Str} {vs : List V}, Reps K μ G (ns.map D.str) vs → vs = ns.map V.str
  | [], vs, h => reps_nil h
  | n :: ns, vs, h => by
    obtain ⟨v', r, rfl, hx, t⟩ := reps_cons h
    rw [rep_str hx, reps_strs t]
    rfl
theorem Reps.ints : ∀ {ns : List Int}, Reps K μ G (ns.map D.int) (ns.map V.int)
  | [] => .nil
  | _ :: _ => .cons .int Reps.ints
theorem Reps.strs : ∀ {ns : List Str}, Reps K μ G (ns.map D.str) (ns.map V.str)
  | [] => .nil
  | _ :: _ => .cons .str Reps.strs
end

/-! ### dicts whose keys are tuples: of ints, None and such tuples -/
mutual
def dkN : NestedKey → D
  | .none => .non
  | .num i => .int i
  | .text x => .str x
  | .tup ks => .tup (dksN ks)
def dksN : List NestedKey → List D
  | [] => []
  | k :: ks => dkN k :: dksN ks
end
mutual
def plainN : NestedKey → Bool
  | .none => true
  | .num _ => true
  | .text _ => false
  | .tup ks => plainNs ks
def plainNs : List NestedKey → Bool
  | [] => true
  | k :: ks => plainN k && plainNs ks
end
def keyN (k : NestedKey) : Bool := plainN k && decide (k.depth ≤ 8)
abbrev NPs := List (NestedKey × Addr × V)
def entN (w : World) (x : NestedKey × Addr × Value) : DictEntry := ⟨x.1.hash w, .ref x.2.1, x.2.2⟩
abbrev NRel : NPs → List (NestedKey × Addr × Value) → Prop := Paired fun p q => p.1 = q.1 ∧ p.2.1 = q.2.1 ∧ RelV p.2.2 q.2.2
/-- at a stands a dict with these keys, key objects and values -/
def phiN (a : Addr) (ps : NPs) : Heap → Prop := fun h => ∃ (w : World) (xs : List (NestedKey × Addr × Value)), NRel ps xs ∧ ∃ o es ep, h.get? a = some o ∧ o.ExactDict ∧ o.data = .dict es ep ∧ es.toList = xs.map (entN w) ∧ (xs.map (·.1)).Nodup
section
variable (K : PySem.W.Frag) (μ : List Addr) (G : Hp)
def RepNK : List (NestedKey × D) → NPs → Prop
  | [], ps => ps = []
  | (k, d) :: r, ps => ∃ b v s, ps = (k, b, v) :: s ∧ keyN k = true ∧ Rep K μ G (dkN k) (.ref b) ∧ Rep K μ G d v ∧ RepNK r s
end
theorem RepNK.fut {K : PySem.W.Frag} {μ μ' : List Addr} {G G' : Hp} (f : Fut μ G μ' G') : ∀ {l : List (NestedKey × D)} {ps : NPs}, RepNK K μ G l ps → RepNK K μ' G' l ps
  | [], _, h => h
  | (k, d) :: r, ps, h => by
    obtain ⟨b, v, s, e, hk, hb, hv, t⟩ := h
    exact ⟨b, v, s, e, hk, hb.fut f, hv.fut f, RepNK.fut f t⟩

/-! ### the store -/
/-- a key of a dict with int and text keys -/
def keyD : Key → D
  | .inl i => .int i
  | .inr x => .str x
def keyT (ks : List Key) : D := .tup (ks.map keyD)
section
variable (K : PySem.W.Frag) (mg : Str → Option Value) (μ : List Addr) (G : Hp)
/-- the pairs of a dict -/
def RepKV {κ : Type} : List (κ × D) → List (κ × V) → Prop
  | [], kvs => kvs = []
  | (k, d) :: r, kvs => ∃ v s, kvs = (k, v) :: s ∧ Rep K μ G d v ∧ RepKV r s
/-- attributes, fields -/
def RepF : List (Str × D) → List (Str × V) → Prop
  | [], fs => fs = []
  | (f, d) :: r, fs => ∃ v s, fs = (f, v) :: s ∧ Rep K μ G d v ∧ RepF r s
/-- what stands at an address for what may change -/
def RepO (a : Addr) : Ob → HO → Prop
  | .lst ds, o => ∃ vs, o = .lst vs ∧ Reps K μ G ds vs
  | .dct kvs, o => ∃ ps, o = .dK ps ∧ RepKV K μ G kvs ps
  | .dtt kvs, o => ∃ ps, o = .ext (phiN a ps) ∧ kvs.length ≤ sizeLine ∧ (a == sysModules) = false ∧ RepNK K μ G kvs ps
  | .ins c fs, o => ∃ C dx gs, o = .ins C dx gs ∧ mg c = some (.ref C) ∧ RepF K μ G fs gs
/-- an exception behind the code that raised it -/
def RepX (e : Exn) (cls : Value) (dd : Option Addr) : Prop := ∃ C, cls = .ref C ∧ mg e.c = some (.ref C) ∧
  match dd with
  | some d => ∃ gs, G d = some (.xd gs) ∧ RepF K μ G e.fs gs
  | none => e.fs = []
/-- what is known of the heap: G never changes, F is somebody else's for now, the store's places -/
structure Kn (F : Hp) (st : Store) (H : Hp) : Prop where
  ex : Ex G H
  fr : Ex F H
  sep : ∀ a o, F a = some o → G a = none
  len : μ.length = st.length
  inj : μ.Nodup
  cell : ∀ (n : Nat) (ob : Ob), st[n]? = some (some ob) → ∃ a o, μ[n]? = some a ∧ G a = none ∧ F a = none ∧ H a = some o ∧ RepO K mg μ G a ob o
  there : ∀ a ∈ μ, H a ≠ none
  out : ∀ a ∈ μ, F a = none
/-- the names' values -/
structure RepE (vs : Vars) (σ : L2.St) : Prop where
  len : vs.length = σ.length
  get : ∀ (i : Nat) (d : D), vs[i]? = some (some d) → ∃ v, σ[i]? = some (some v) ∧ Rep K μ G d v
end
section
variable {K : PySem.W.Frag} {mg : Str → Option Value} {μ μ' : List Addr} {G G' : Hp}
theorem RepKV.fut {κ : Type} (f : Fut μ G μ' G') : ∀ {l : List (κ × D)} {ps : List (κ × V)}, RepKV K μ G l ps → RepKV K μ' G' l ps
  | [], _, h => h
  | (k, d) :: r, ps, h => by
    obtain ⟨v, s, e, hv, t⟩ := h
    exact ⟨v, s, e, hv.fut f, RepKV.fut f t⟩
theorem RepF.fut (f : Fut μ G μ' G') : ∀ {l : List (Str × D)} {ps : List (Str × V)}, RepF K μ G l ps → RepF K μ' G' l ps
  | [], _, h => h
  | (k, d) :: r, ps, h => by
    obtain ⟨v, s, e, hv, t⟩ := h
    exact ⟨v, s, e, hv.fut f, RepF.fut f t⟩
theorem RepO.fut (f : Fut μ G μ' G') {a : Addr} {ob : Ob} {o : HO} (h : RepO K mg μ G a ob o) : RepO K mg μ' G' a ob o := by
  cases ob with
  | lst ds =>
    obtain ⟨vs, e, r⟩ := h
    exact ⟨vs, e, r.fut f⟩
  | dct kvs =>
    obtain ⟨vs, e, r⟩ := h
    exact ⟨vs, e, r.fut f⟩
  | dtt kvs =>
    obtain ⟨vs, e, z, y, r⟩ := h
    exact ⟨vs, e, z, y, r.fut f⟩
  | ins c fs =>
    obtain ⟨C, dx, gs, e, m, r⟩ := h
    exact ⟨C, dx, gs, e, m, r.fut f⟩
theorem RepX.fut (f : Fut μ G μ' G') {e : Exn} {cls : Value} {dd : Option Addr} (h : RepX K mg μ G e cls dd) : RepX K mg μ' G' e cls dd := by
  obtain ⟨C, e1, e2, h⟩ := h
  refine ⟨C, e1, e2, ?_⟩
  cases dd with
  | none => exact h
  | some d =>
    obtain ⟨gs, g, r⟩ := h
    exact ⟨gs, f.ex d _ g, r.fut f⟩
theorem RepE.fut (f : Fut μ G μ' G') {vs : Vars} {σ : L2.St} (h : RepE K μ G vs σ) : RepE K μ' G' vs σ :=
  ⟨h.len, fun i d e => let ⟨v, hv, r⟩ := h.get i d e; ⟨v, hv, r.fut f⟩⟩
theorem RepE.set {vs : Vars} {σ : L2.St} (h : RepE K μ G vs σ) {d : D} {v : V} (r : Rep K μ G d v) (i : Nat) : RepE K μ G (vs.set i (some d)) (σ.set i (some v)) := by
  refine ⟨by rw [List.length_set, List.length_set, h.len], fun j e hj => ?_⟩
  by_cases hij : i = j
  · subst hij
    by_cases hl : i < vs.length
    · rw [List.getElem?_set_self hl] at hj
      have : d = e := by simpa using hj
      subst this
      exact ⟨v, List.getElem?_set_self (by rw [← h.len]; exact hl), r⟩
    · rw [List.getElem?_eq_none (by simpa using hl)] at hj
      cases hj
  · rw [List.getElem?_set_ne hij] at hj
    rw [List.getElem?_set_ne hij]
    exact h.get j e hj
/-- a name's value forgotten -/
theorem RepE.drop {vs : Vars} {σ : L2.St} (h : RepE K μ G vs σ) (i : Nat) : RepE K μ G (vs.set i none) σ := by
  refine ⟨by rw [List.length_set, h.len], fun j e hj => ?_⟩
  by_cases hij : i = j
  · subst hij
    by_cases hl : i < vs.length
    · rw [List.getElem?_set_self hl] at hj
      cases hj
    · rw [List.getElem?_eq_none (by simpa using hl)] at hj
      cases hj
  · rw [List.getElem?_set_ne hij] at hj
    exact h.get j e hj
/-- a new thing that is known for ever -/
theorem Kn.learn {F : Hp} {st : Store} {H : Hp} (k : Kn K mg μ G F st H) {p : Addr} {o : HO} (hp : H p = none) : Kn K mg μ (upd G p o) F st (upd H p o) := by
  have gp : G p = none := k.ex.free hp
  have fp : F p = none := k.fr.free hp
  have f : Fut μ G μ (upd G p o) := .know (.new gp)
  refine ⟨fun a u e => ?_, fun a u e => ?_, fun a u e => ?_, k.len, k.inj, fun n ob e => ?_, fun a ha => ?_, k.out⟩
  · by_cases h : a = p
    · subst h; rw [upd_same] at e ⊢; exact e
    · rw [upd_ne h] at e ⊢; exact k.ex a u e
  · rw [upd_ne (ne_of_none e fp)]
    exact k.fr a u e
  · rw [upd_ne (ne_of_none e fp)]
    exact k.sep a u e
  · obtain ⟨a, u, h1, h2, h3, h4, h5⟩ := k.cell n ob e
    have hne : a ≠ p := ne_of_none h4 hp
    exact ⟨a, u, h1, by rw [upd_ne hne]; exact h2, h3, by rw [upd_ne hne]; exact h4, h5.fut f⟩
  · by_cases h : a = p
    · subst h; rw [upd_same]; intro z; cases z
    · rw [upd_ne h]; exact k.there a ha
/-- a new thing that may change -/
theorem Kn.alloc {F : Hp} {st : Store} {H : Hp} (k : Kn K mg μ G F st H) {p : Addr} {o : HO} {ob : Ob} (hp : H p = none) (r : RepO K mg μ G p ob o) :
    Kn K mg (μ ++ [p]) G F (st ++ [some ob]) (upd H p o) := by
  have gp : G p = none := k.ex.free hp
  have fp : F p = none := k.fr.free hp
  have f : Fut μ G (μ ++ [p]) G := ⟨⟨[p], rfl⟩, .refl G⟩
  have hm : p ∉ μ := fun h => k.there p h hp
  refine ⟨k.ex.mut gp, k.fr.mut fp, k.sep, by simp [k.len], List.nodup_append.mpr ⟨k.inj, by simp, fun a ha b hb => ?_⟩, fun n ob' e => ?_, fun a ha => ?_, fun a ha => ?_⟩
  · have : b = p := by simpa using hb
    subst this
    intro z
    subst z
    exact hm ha
  · by_cases hn : n < st.length
    · rw [List.getElem?_append_left hn] at e
      obtain ⟨a, u, h1, h2, h3, h4, h5⟩ := k.cell n ob' e
      have hne : a ≠ p := ne_of_none h4 hp
      exact ⟨a, u, f.at h1, h2, h3, by rw [upd_ne hne]; exact h4, h5.fut f⟩
    · have hn' : n = st.length := by
        have := (List.getElem?_eq_some_iff.mp e).1
        rw [List.length_append] at this
        simp at this
        omega
      subst hn'
      rw [List.getElem?_append_right (Nat.le_refl _), Nat.sub_self] at e
      have e' : ob = ob' := by simpa using e
      subst e'
      exact ⟨p, o, by rw [← k.len, List.getElem?_append_right (Nat.le_refl _), Nat.sub_self]; rfl, gp, fp, upd_same, r.fut f⟩
  · by_cases h : a = p
    · subst h; rw [upd_same]; intro z; cases z
    · rw [upd_ne h]
      rcases List.mem_append.mp ha with h1 | h1
      · exact k.there a h1
      · exact absurd (by simpa using h1) h
  · rcases List.mem_append.mp ha with h1 | h1
    · exact k.out a h1
    · have : a = p := by simpa using h1
      rw [this]
      exact fp
/-- what may change is changed -/
theorem Kn.write {F : Hp} {st : Store} {H : Hp} (k : Kn K mg μ G F st H) {n : Nat} {ob ob' : Ob} {o : HO} {a : Addr} (hn : st[n]? = some (some ob)) (ha : μ[n]? = some a) (r : RepO K mg μ G a ob' o) :
    Kn K mg μ G F (st.set n (some ob')) (upd H a o) := by
  obtain ⟨a', u, h1, h2, h3, h4, h5⟩ := k.cell n ob hn
  rw [ha] at h1
  cases h1
  have nl : n < st.length := (List.getElem?_eq_some_iff.mp hn).1
  refine ⟨k.ex.mut h2, k.fr.mut h3, k.sep, by simp [k.len], k.inj, fun m ob2 e => ?_, fun b hb => ?_, k.out⟩
  · by_cases hm : n = m
    · subst hm
      rw [List.getElem?_set_self nl] at e
      have e' : ob' = ob2 := by simpa using e
      subst e'
      exact ⟨a, o, ha, h2, h3, upd_same, r⟩
    · rw [List.getElem?_set_ne hm] at e
      obtain ⟨b, u', g1, g2, g3, g4, g5⟩ := k.cell m ob2 e
      have hne : b ≠ a := by
        intro z
        subst z
        exact hm (L2.nd_ix k.inj ha g1)
      exact ⟨b, u', g1, g2, g3, by rw [upd_ne hne]; exact g4, g5⟩
  · by_cases h : b = a
    · subst h; rw [upd_same]; intro z; cases z
    · rw [upd_ne h]; exact k.there b hb
/-- a new thing that matters no longer -/
theorem Kn.junk {F : Hp} {st : Store} {H : Hp} (k : Kn K mg μ G F st H) {p : Addr} {o : HO} (hp : H p = none) : Kn K mg μ G F st (upd H p o) := by
  have gp : G p = none := k.ex.free hp
  have fp : F p = none := k.fr.free hp
  refine ⟨k.ex.mut gp, k.fr.mut fp, k.sep, k.len, k.inj, fun n ob e => ?_, fun a ha => ?_, k.out⟩
  · obtain ⟨a, u, h1, h2, h3, h4, h5⟩ := k.cell n ob e
    exact ⟨a, u, h1, h2, h3, by rw [upd_ne (ne_of_none h4 hp)]; exact h4, h5⟩
  · by_cases h : a = p
    · subst h; rw [upd_same]; intro z; cases z
    · rw [upd_ne h]; exact k.there a ha
end

/-! ### what an expression gives -/
inductive Re (α : Type) where
  | bad
  | ok (a : α) (st : Store)
  | exc (e : Exn) (st : Store)
/-- what the simplifier leaves alone: a function behind it stays as it is -/
abbrev Lk {α : Sort _} (_ : α) : Type := Unit
def Re.bind {α β : Type} (r : Re α) (k : α → Store → Re β) (_ : Lk k := Unit.unit) : Re β := match r with
  | .bad => .bad
  | .ok a st => k a st
  | .exc e st => .exc e st
abbrev EM := Vars → Store → Re D
abbrev EMs := Vars → Store → Re (List D)

section
variable (K : PySem.W.Frag) (mg : Str → Option Value) (W : WX)
def Done {α : Type} (σ : L2.St) (μ : List Addr) (G F : Hp) (r : Re α) (P : List Addr → Hp → α → Store → Hp → Prop) : Prop := match r with
  | .bad => False
  | .ok a st => ∀ μ' G' H', Fut μ G μ' G' → Kn K mg μ' G' F st H' → P μ' G' a st H'
  | .exc e st => ∀ μ' G' H' cls dd, Fut μ G μ' G' → Kn K mg μ' G' F st H' → RepX K mg μ' G' e cls dd → W cls dd σ H'
def tE (m : EM) : TE := fun σ H Q => ∃ vs st μ G F, RepE K μ G vs σ ∧ Kn K mg μ G F st H ∧ Done K mg W σ μ G F (m vs st) fun μ' G' d _ H' => ∀ v, Rep K μ' G' d v → Q v H'
def tT (m : EM) : TT := fun σ H Q => ∃ vs st μ G F, RepE K μ G vs σ ∧ Kn K mg μ G F st H ∧ Done K mg W σ μ G F (m vs st) fun _ _ d _ H' => ∃ b, d = .bl b ∧ Q b H'
def tA (m : EMs) : TA := fun σ H Q => ∃ vs st μ G F, RepE K μ G vs σ ∧ Kn K mg μ G F st H ∧ Done K mg W σ μ G F (m vs st) fun μ' G' ds _ H' => ∀ ws, Reps K μ' G' ds ws → Q ws H'
end
section
variable {K : PySem.W.Frag} {mg : Str → Option Value} {W : WX} {α β : Type} {σ : L2.St} {μ μ' : List Addr} {G G' F : Hp}
theorem Done.mono {r : Re α} {P P' : List Addr → Hp → α → Store → Hp → Prop} (h : Done K mg W σ μ G F r P)
    (k : ∀ μ' G' a st H', Fut μ G μ' G' → Kn K mg μ' G' F st H' → P μ' G' a st H' → P' μ' G' a st H') : Done K mg W σ μ G F r P' := by
  cases r with
  | bad => exact h
  | ok a st => exact fun μ' G' H' f kn => k μ' G' a st H' f kn (h μ' G' H' f kn)
  | exc e st => exact h
theorem Done.fut {r : Re α} {P : List Addr → Hp → α → Store → Hp → Prop} (f : Fut μ G μ' G') (h : Done K mg W σ μ G F r P) : Done K mg W σ μ' G' F r P := by
  cases r with
  | bad => exact h
  | ok a st => exact fun μ2 G2 H2 f2 kn => h μ2 G2 H2 (f.trans f2) kn
  | exc e st => exact fun μ2 G2 H2 cls dd f2 kn x => h μ2 G2 H2 cls dd (f.trans f2) kn x
theorem Done.bind {r : Re α} {k : α → Store → Re β} {P : List Addr → Hp → β → Store → Hp → Prop} (h : Done K mg W σ μ G F (r.bind k) P) :
    Done K mg W σ μ G F r fun μ' G' a st _ => Done K mg W σ μ' G' F (k a st) P := by
  cases r with
  | bad => exact h
  | ok a st => exact fun μ' G' H' f kn => Done.fut f h
  | exc e st => exact h
end

/-! ### weaker readings -/
section
variable {X : Cx} {e : Expr} {es : List Expr}
theorem _root_.L2.PE.of {t t' : TE} (h : PE X e t) (k : ∀ σ H Q, t' σ H Q → t σ H Q) : PE X e t' := ⟨fun pins s σ H Q I q => h.run pins s σ H Q I (k σ H Q q)⟩
theorem _root_.L2.PT.of {t t' : TT} (h : PT X e t) (k : ∀ σ H Q, t' σ H Q → t σ H Q) : PT X e t' := ⟨fun pins s σ H Q I q => h.run pins s σ H Q I (k σ H Q q)⟩
theorem _root_.L2.PW.of {t t' : TT} (h : PW X e t) (k : ∀ σ H Q, t' σ H Q → t σ H Q) : PW X e t' := ⟨fun wh pins s σ H Q I q => h.run wh pins s σ H Q I (k σ H Q q)⟩
theorem _root_.L2.PA.of {t t' : TA} (h : PA X es t) (k : ∀ σ H Q, t' σ H Q → t σ H Q) : PA X es t' := ⟨fun pos pins s σ H Q I q => h.run pos pins s σ H Q I (k σ H Q q)⟩
theorem _root_.L2.PS.of {s : Stmt} {t t' : TS} (h : PS X s t) (k : ∀ D σ H, t' D σ H → t D σ H) : PS X s t' := ⟨fun pins s σ H D I q => h.run pins s σ H D I (k D σ H q)⟩
theorem _root_.L2.PSs.of {s : List Stmt} {t t' : TS} (h : PSs X s t) (k : ∀ D σ H, t' D σ H → t D σ H) : PSs X s t' := ⟨fun pins s σ H D I q => h.run pins s σ H D I (k D σ H q)⟩
end
end Dn
namespace Dn
open PySem PySem.Spec PyProof.Rows L2

/-! ### operations on data -/
abbrev room (n : Nat) : Prop := n ≤ 1000000
theorem room_line {n : Nat} (h : room n) : n ≤ sizeLine := Nat.le_trans h (by decide)
theorem room_lt {n : Nat} (h : room n) : n < sizeLine := Nat.lt_of_le_of_lt h (by decide)
def cell (st : Store) (n : Nat) : Option Ob := (st[n]?).join
def lstAt (st : Store) (n : Nat) : Option (List D) := match cell st n with
  | some (.lst ds) => some ds
  | _ => none
def seqOf (st : Store) : D → Option (List D)
  | .tup ds => some ds
  | .lst ds => some ds
  | .frz ds => some ds
  | .loc n => lstAt st n
  | _ => none
def lstOf (st : Store) : D → Option (List D)
  | .lst ds => some ds
  | .loc n => lstAt st n
  | _ => none
theorem lstAt_cell {st : Store} {n : Nat} {ds : List D} (h : lstAt st n = some ds) : cell st n = some (.lst ds) := by
  unfold lstAt at h
  split at h
  · rename_i e
    rw [e]
    injection h with h
    rw [h]
  · cases h
theorem cell_some {st : Store} {n : Nat} {ob : Ob} (h : cell st n = some ob) : st[n]? = some (some ob) := by
  unfold cell at h
  cases e : st[n]? with
  | none => rw [e] at h; cases h
  | some o =>
    rw [e] at h
    have h' : o = some ob := h
    rw [h']
section
variable {K : PySem.W.Frag} {mg : Str → Option Value} {W : WX} {σ : L2.St} {μ : List Addr} {G F : Hp} {st : Store} {H : Hp} {d : D} {ds : List D} {v : V} {vs : List V} {Q : VK}
theorem lstOf_rep (k : Kn K mg μ G F st H) (r : Rep K μ G d v) (e : lstOf st d = some ds) : ∃ a vs, v = .ref a ∧ H a = some (.lst vs) ∧ Reps K μ G ds vs := by
  cases d with
  | lst xs =>
    obtain ⟨a, vs, rfl, g, q⟩ := rep_lst r
    have : xs = ds := by simpa [lstOf] using e
    subst this
    exact ⟨a, vs, rfl, k.ex a _ g, q⟩
  | loc n =>
    obtain ⟨a, rfl, ha⟩ := rep_loc r
    obtain ⟨a', o, h1, _, _, h4, vs, rfl, q⟩ := k.cell n _ (cell_some (lstAt_cell e))
    rw [ha] at h1
    cases h1
    exact ⟨a, vs, rfl, h4, q⟩
  | _ => cases e
theorem seqOf_rep (k : Kn K mg μ G F st H) (r : Rep K μ G d v) (e : seqOf st d = some ds) : ∃ a vs, v = .ref a ∧ (SqL K H a vs ∨ SqT K H a vs) ∧ Reps K μ G ds vs := by
  cases d with
  | tup xs =>
    obtain ⟨a, vs, rfl, g, q⟩ := rep_tup r
    have : xs = ds := by simpa [seqOf] using e
    subst this
    exact ⟨a, vs, rfl, .inr (k.ex.sqt g), q⟩
  | lst xs =>
    obtain ⟨a, vs, h1, h2, h3⟩ := lstOf_rep (ds := ds) k r e
    exact ⟨a, vs, h1, .inl (.of h2), h3⟩
  | frz xs =>
    obtain ⟨a, vs, rfl, g, q⟩ := rep_frz r
    have : xs = ds := by simpa [seqOf] using e
    subst this
    exact ⟨a, vs, rfl, .inl (k.ex.sql g), q⟩
  | loc n =>
    obtain ⟨a, vs, h1, h2, h3⟩ := lstOf_rep (ds := ds) k r e
    exact ⟨a, vs, h1, .inl (.of h2), h3⟩
  | _ => cases e
/-- what a value-level answer asks -/
abbrev Fin (K : PySem.W.Frag) (Q : VK) : List Addr → Hp → D → Store → Hp → Prop := fun μ' G' d _ H' => ∀ z, Rep K μ' G' d z → Q z H'
theorem Done.here {α : Type} {a : α} {P : List Addr → Hp → α → Store → Hp → Prop} (k : Kn K mg μ G F st H) (h : Done K mg W σ μ G F (.ok a st) P) : P μ G a st H := h μ G H (.refl μ G) k
theorem fin_here {z : V} (k : Kn K mg μ G F st H) (h : Done K mg W σ μ G F (.ok d st) (Fin K Q)) (r : Rep K μ G d z) : Q z H := h μ G H (.refl μ G) k z r
/-- a new list: by value, or at a place -/
def mkNew (b : Bool) (ds : List D) (st : Store) : Re D := match b with
  | true => .ok (.loc st.length) (st ++ [some (.lst ds)])
  | false => .ok (.lst ds) st
theorem new_list {b : Bool} (k : Kn K mg μ G F st H) (r : Reps K μ G ds vs) (h : Done K mg W σ μ G F (mkNew b ds st) (Fin K Q)) : ∀ p, H p = none → Q (.ref p) (upd H p (.lst vs)) := fun p hp => by
  cases b with
  | true =>
    refine h (μ ++ [p]) G _ ⟨⟨[p], rfl⟩, .refl G⟩ (k.alloc hp ⟨vs, rfl, r⟩) _ (.loc ?_)
    rw [← k.len, List.getElem?_append_right (Nat.le_refl _), Nat.sub_self]
    rfl
  | false =>
    have f : Fut μ G μ (upd G p (.lst vs)) := .know (.new (k.ex.free hp))
    exact h μ _ _ f (k.learn hp) _ (.lst upd_same (r.fut f))
theorem new_tup (k : Kn K mg μ G F st H) (r : Reps K μ G ds vs) (h : Done K mg W σ μ G F (.ok (.tup ds) st) (Fin K Q)) : ∀ p, H p = none → Q (.ref p) (upd H p (.tup vs)) := fun p hp => by
  have f : Fut μ G μ (upd G p (.tup vs)) := .know (.new (k.ex.free hp))
  exact h μ _ _ f (k.learn hp) _ (.tup (.of upd_same) (r.fut f))
end

/-! ### data as PyData -/
mutual
def pd : D → PyData
  | .non => .none
  | .bl b => .bool b
  | .int i => .int i
  | .str x => .str x
  | .tup ds => .tuple (pds ds)
  | .lst ds => .list (pds ds)
  | .frz _ => .none
  | .loc _ => .none
  | .exn _ _ _ => .none
def pds : List D → List PyData
  | [] => []
  | d :: ds => pd d :: pds ds
end
/-- of bounded depth, without places -/
def okd : Nat → D → Bool
  | _, .non => true
  | _, .bl _ => true
  | _, .int _ => true
  | _, .str x => PyData.strOk x
  | 0, _ => false
  | n + 1, .tup ds => ds.all (okd n)
  | n + 1, .lst ds => ds.all (okd n)
  | _, .frz _ => false
  | _, .loc _ => false
  | _, .exn _ _ _ => false
theorem pds_map : ∀ ds : List D, pds ds = ds.map pd
  | [] => rfl
  | d :: ds => by rw [pds, pds_map ds]; rfl
theorem okd_shape : ∀ (n : Nat) (d : D), okd n d = true → (pd d).canLay0 = true ∧ (pd d).depth ≤ n := by
  have all : ∀ (n : Nat), (∀ d : D, okd n d = true → (pd d).canLay0 = true ∧ (pd d).depth ≤ n) → ∀ ds : List D, ds.all (okd n) = true → PyData.canLayAll0 (pds ds) = true ∧ PyData.depthAll (pds ds) ≤ n := by
    intro n ih ds
    induction ds with
    | nil => intro _; simp [pds, PyData.canLayAll0, PyData.depthAll]
    | cons d ds ih2 =>
      intro h
      rw [List.all_cons, Bool.and_eq_true] at h
      obtain ⟨h1, h2⟩ := ih d h.1
      obtain ⟨g1, g2⟩ := ih2 h.2
      rw [pds, PyData.canLayAll0, PyData.depthAll, h1, g1]
      exact ⟨rfl, by omega⟩
  intro n
  induction n with
  | zero =>
    intro d h
    cases d <;> simp_all [okd, pd, PyData.canLay0, PyData.depth]
  | succ n ih =>
    intro d h
    cases d with
    | tup ds =>
      have := all n ih ds (by simpa [okd] using h)
      simp only [pd, PyData.canLay0, PyData.depth]
      exact ⟨this.1, by omega⟩
    | lst ds =>
      have := all n ih ds (by simpa [okd] using h)
      simp only [pd, PyData.canLay0, PyData.depth]
      exact ⟨this.1, by omega⟩
    | _ => simp_all [okd, pd, PyData.canLay0, PyData.depth]
theorem okd_shaped {d : D} (h : okd 60 d = true) : SeqAt.shaped (pd d) = true := by
  obtain ⟨h1, h2⟩ := okd_shape 60 d h
  unfold SeqAt.shaped
  rw [h1, decide_eq_true (by omega)]
  rfl
section
variable {K : PySem.W.Frag} {μ : List Addr} {G H : Hp}
theorem rep_dp (e : Ex G H) : ∀ (n : Nat) (d : D) (v : V), okd n d = true → Rep K μ G d v → Dp K H v (pd d) := by
  have all : ∀ (n : Nat), (∀ (d : D) (v : V), okd n d = true → Rep K μ G d v → Dp K H v (pd d)) → ∀ (ds : List D) (vs : List V), ds.all (okd n) = true → Reps K μ G ds vs → DpAll K H vs (pds ds) := by
    intro n ih ds
    induction ds with
    | nil =>
      intro vs _ r
      rw [reps_nil r]
      exact .nil
    | cons d ds ih2 =>
      intro vs h r
      rw [List.all_cons, Bool.and_eq_true] at h
      obtain ⟨v, t, rfl, hv, ht⟩ := reps_cons r
      exact .cons (ih d v h.1 hv) (ih2 t h.2 ht)
  intro n
  induction n with
  | zero =>
    intro d v h r
    cases d with
    | non => rw [rep_non r]; exact .non
    | bl b => rw [rep_bl r]; exact .bl b
    | int i => rw [rep_int r]; exact .int i
    | str x => rw [rep_str r]; exact .str x
    | _ => simp [okd] at h
  | succ n ih =>
    intro d v h r
    cases d with
    | non => rw [rep_non r]; exact .non
    | bl b => rw [rep_bl r]; exact .bl b
    | int i => rw [rep_int r]; exact .int i
    | str x => rw [rep_str r]; exact .str x
    | tup ds =>
      obtain ⟨a, vs, rfl, s, q⟩ := rep_tup r
      exact .tup (e.sqt s) (all n ih ds vs (by simpa [okd] using h) q)
    | lst ds =>
      obtain ⟨a, vs, rfl, s, q⟩ := rep_lst r
      exact .lst (.of (e a _ s)) (all n ih ds vs (by simpa [okd] using h) q)
    | frz _ => simp [okd] at h
    | loc _ => simp [okd] at h
    | exn _ _ _ => simp [okd] at h
end
/-- a list at a place stands for its items -/
def resD (st : Store) : D → D
  | .loc n => match lstAt st n with
    | some ds => .lst ds
    | none => .loc n
  | d => d
def eqvD (x y : D) : Bool := PyData.eqv (pd x) (pd y)
section
variable {K : PySem.W.Frag} {mg : Str → Option Value} {μ : List Addr} {G F : Hp} {st : Store} {H : Hp} {d : D} {v : V}
theorem res_dp (k : Kn K mg μ G F st H) (r : Rep K μ G d v) (h : okd 60 (resD st d) = true) : Dp K H v (pd (resD st d)) := by
  cases d with
  | loc n =>
    cases hc : lstAt st n with
    | none =>
      have e : resD st (.loc n) = .loc n := by simp only [resD, hc]
      rw [e] at h
      simp [okd] at h
    | some ds =>
      have e : resD st (.loc n) = .lst ds := by simp only [resD, hc]
      rw [e] at h ⊢
      obtain ⟨a, vs, rfl, h2, h3⟩ := lstOf_rep (ds := ds) k r hc
      refine .lst (.of h2) ?_
      have h' : ds.all (okd 59) = true := by simpa [okd] using h
      clear e h hc r h2
      induction ds generalizing vs with
      | nil => rw [reps_nil h3]; exact .nil
      | cons d ds ih =>
        obtain ⟨v, t, rfl, hv, ht⟩ := reps_cons h3
        rw [List.all_cons, Bool.and_eq_true] at h'
        exact .cons (rep_dp k.ex 59 d v h'.1 hv) (ih t ht h'.2)
  | _ => exact rep_dp k.ex 60 _ v h r
end

/-! ### operators on data -/
def addD (b : Bool) (x y : D) (st : Store) : Re D := match x, y with
  | .int i, .int j => .ok (.int (i + j)) st
  | .str s, .str t => if room (s.length + t.length) then .ok (.str (s ++ t)) st else .bad
  | .tup u, .tup w => if room (u.length + w.length) then .ok (.tup (u ++ w)) st else .bad
  | x, y => match lstOf st x, lstOf st y with
    | some u, some w => if room (u.length + w.length) then mkNew b (u ++ w) st else .bad
    | _, _ => .bad
def subD (x y : D) (st : Store) : Re D := match x, y with
  | .int i, .int j => .ok (.int (i - j)) st
  | _, _ => .bad
def mulD (b : Bool) (x y : D) (st : Store) : Re D := match x, y with
  | .int i, .int j => if (-(2 ^ 64) < i ∧ i < 2 ^ 64) ∨ (-(2 ^ 64) < j ∧ j < 2 ^ 64) then .ok (.int (i * j)) st else .bad
  | .tup u, .int k => if u ≠ [] ∧ 2 ≤ k ∧ k ≤ 1000 ∧ u.length ≤ 1000 then .ok (.tup (List.replicate k.toNat u).flatten) st else .bad
  | x, .int k => match lstOf st x with
    | some u => if -(2 ^ 63) ≤ k ∧ k < 2 ^ 63 ∧ room (u.length * k.toNat) then mkNew b (List.replicate k.toNat u).flatten st else .bad
    | _ => .bad
  | _, _ => .bad
def fdivD (x y : D) (st : Store) : Re D := match x, y with
  | .int i, .int j => if 0 < j ∧ j < 1073741824 then .ok (.int (i / j)) st else .bad
  | _, _ => .bad
def modD (x y : D) (st : Store) : Re D := match x, y with
  | .int i, .int j => if 0 < j then .ok (.int (i % j)) st else .bad
  | _, _ => .bad
def powD (x y : D) (st : Store) : Re D := match x, y with
  | .int i, .int j => if 0 ≤ j ∧ j ≤ 1000000 ∧ i.natAbs < 2 ^ 64 then .ok (.int (i ^ j.toNat)) st else .bad
  | _, _ => .bad
def shlD (x y : D) (st : Store) : Re D := match x, y with
  | .int i, .int j => if 0 ≤ j ∧ j ≤ 1000000 ∧ i.natAbs < 2 ^ 64 then .ok (.int (i * 2 ^ j.toNat)) st else .bad
  | _, _ => .bad
def shrD (x y : D) (st : Store) : Re D := match x, y with
  | .int i, .int j => if 0 ≤ j then .ok (.int (i / 2 ^ j.toNat)) st else .bad
  | _, _ => .bad
def andD (x y : D) (st : Store) : Re D := match x, y with
  | .int i, .int j => .ok (.int (Builtin.bitAnd i j)) st
  | _, _ => .bad
/-- == by data -/
def eqB (st : Store) (x y : D) : Option Bool := match x, y with
  | .non, .non => some true
  | .int i, .int j => some (decide (i = j))
  | .bl i, .bl j => some (decide (i = j))
  | .str i, .str j => some (decide (i = j))
  | x, y => if okd 60 (resD st x) && okd 60 (resD st y) then some (eqvD (resD st x) (resD st y)) else none
def eqD (x y : D) (st : Store) : Re D := match eqB st x y with
  | some b => .ok (.bl b) st
  | none => .bad
def neD (x y : D) (st : Store) : Re D := match eqB st x y with
  | some b => .ok (.bl !b) st
  | none => .bad
def ltD (x y : D) (st : Store) : Re D := match x, y with
  | .int i, .int j => .ok (.bl (decide (i < j))) st
  | .str i, .str j => .ok (.bl (decide (i.cps.toList < j.cps.toList))) st
  | _, _ => .bad
def leD (x y : D) (st : Store) : Re D := match x, y with
  | .int i, .int j => .ok (.bl (decide (i ≤ j))) st
  | _, _ => .bad
def gtD (x y : D) (st : Store) : Re D := match x, y with
  | .int i, .int j => .ok (.bl (decide (j < i))) st
  | _, _ => .bad
def geD (x y : D) (st : Store) : Re D := match x, y with
  | .int i, .int j => .ok (.bl (decide (j ≤ i))) st
  | _, _ => .bad
def isNon : D → Bool
  | .non => true
  | _ => false
def isD (x y : D) (st : Store) : Re D := match x, y with
  | .bl i, .bl j => .ok (.bl (decide (i = j))) st
  | x, .non => .ok (.bl (isNon x)) st
  | _, _ => .bad
def isnotD (x y : D) (st : Store) : Re D := match x, y with
  | .bl i, .bl j => .ok (.bl (!decide (i = j))) st
  | x, .non => .ok (.bl (!isNon x)) st
  | _, _ => .bad
def flatD : D → Bool
  | .non | .bl _ | .int _ | .str _ => true
  | _ => false
def inB (st : Store) (x y : D) : Option Bool := match x, y with
  | .str c, .str z => match c.cps.toList with
    | [s] => some (decide (s ∈ z.cps.toList))
    | _ => none
  | x, y => match seqOf st y with
    | some ds => if flatD x && ds.all flatD then some (ds.any fun z => eqvD z x)
      else if okd 60 x && ds.all (okd 59) then some (ds.any fun z => eqvD z x) else none
    | none => none
def inD (x y : D) (st : Store) : Re D := match inB st x y with
  | some b => .ok (.bl b) st
  | none => .bad
def ninD (x y : D) (st : Store) : Re D := match inB st x y with
  | some b => .ok (.bl !b) st
  | none => .bad
def ixD (x y : D) (st : Store) : Re D := match x, y with
  | .str z, .int i => if room z.length then (match atI z.cps.toList i with | some c => .ok (.str ⟨#[c]⟩) st | none => .bad) else .bad
  | x, .int i => match seqOf st x with
    | some ds => (match atI ds i with | some d => .ok d st | none => .bad)
    | none => .bad
  | _, _ => .bad
def negD (x : D) (st : Store) : Re D := match x with
  | .int i => .ok (.int (-i)) st
  | _ => .bad
def truthB (st : Store) : D → Option Bool
  | .non => some false
  | .bl b => some b
  | .int i => some (i != 0)
  | .str z => if room z.length then some ((z.length : Int) != 0) else none
  | .tup ds => some (!ds.isEmpty)
  | .lst ds => some (!ds.isEmpty)
  | .frz ds => some (!ds.isEmpty)
  | .loc n => match cell st n with
    | some (.lst ds) => some (!ds.isEmpty)
    | some (.dct kvs) => some (!kvs.isEmpty)
    | _ => none
  | .exn _ _ _ => none
/-- a slice -/
def cutD (ds : List D) (lo hi : Option Int) : List D := (ds.drop (HT.sIx ds.length 0 lo)).take (HT.sIx ds.length ds.length hi - HT.sIx ds.length 0 lo)
def sliceD (b : Bool) (x : D) (lo hi : Option Int) (st : Store) : Re D := match x with
  | .tup ds => .ok (.tup (cutD ds lo hi)) st
  | .str z => .bad
  | x => match lstOf st x with
    | some ds => mkNew b (cutD ds lo hi) st
    | none => .bad

/-! ### they are what the operators do -/
section
variable (K : PySem.W.Frag) (mg : Str → Option Value)
def S2 (f : D → D → Store → Re D) (r : R2) : Prop := ∀ (W : WX) (σ : L2.St) (μ : List Addr) (G F : Hp) (st : Store) (H : Hp) (x y : D) (v w : V) (Q : VK), Kn K mg μ G F st H → Rep K μ G x v → Rep K μ G y w →
  Done K mg W σ μ G F (f x y st) (Fin K Q) → r v w H Q
def S1 (f : D → Store → Re D) (r : V → Hp → VK → Prop) : Prop := ∀ (W : WX) (σ : L2.St) (μ : List Addr) (G F : Hp) (st : Store) (H : Hp) (x : D) (v : V) (Q : VK), Kn K mg μ G F st H → Rep K μ G x v →
  Done K mg W σ μ G F (f x st) (Fin K Q) → r v H Q
def SN (f : List D → Store → Re D) (r : List V → Hp → VK → Prop) : Prop := ∀ (W : WX) (σ : L2.St) (μ : List Addr) (G F : Hp) (st : Store) (H : Hp) (xs : List D) (vs : List V) (Q : VK), Kn K mg μ G F st H → Reps K μ G xs vs →
  Done K mg W σ μ G F (f xs st) (Fin K Q) → r vs H Q
end
section
variable {X : Cx} {K : PySem.W.Frag} {mg : Str → Option Value}
/-- by lists alone -/
theorem lists2 {f : List D → List D → Store → Re D} {st : Store} {x y : D} {W : WX} {σ : L2.St} {μ : List Addr} {G F : Hp} {P : List Addr → Hp → D → Store → Hp → Prop}
    (h : Done K mg W σ μ G F (match lstOf st x, lstOf st y with | some u, some w => f u w st | _, _ => .bad) P) : ∃ u w, lstOf st x = some u ∧ lstOf st y = some w ∧ Done K mg W σ μ G F (f u w st) P := by
  cases e1 : lstOf st x with
  | none => rw [e1] at h; exact h.elim
  | some u =>
    cases e2 : lstOf st y with
    | none => rw [e1, e2] at h; exact h.elim
    | some w =>
      rw [e1, e2] at h
      exact ⟨u, w, rfl, rfl, h⟩
abbrev rAddA (K : PySem.W.Frag) : R2 := fun x y H Q => (rI0 fun i j => .int (i + j)) x y H Q ∨ ((∃ i j, x = .str i ∧ y = .str j ∧ i.length + j.length ≤ sizeLine ∧ Q (.str (i ++ j)) H) ∨ (rCat x y H Q ∨ rCatA K x y H Q))
theorem or_add : OpR X (binaryOp .Add) (rAddA X.K) := op_add.or (op_add_str.or (op_cat.or op_catA))
theorem ite_done {c : Prop} [Decidable c] {r : Re D} {W : WX} {σ : L2.St} {μ : List Addr} {G F : Hp} {P : List Addr → Hp → D → Store → Hp → Prop} (h : Done K mg W σ μ G F (if c then r else .bad) P) : c ∧ Done K mg W σ μ G F r P := by
  by_cases hc : c
  · rw [if_pos hc] at h; exact ⟨hc, h⟩
  · rw [if_neg hc] at h; exact h.elim
theorem s_add (b : Bool) : S2 K mg (addD b) (rAddA K) := by
  intro W σ μ G F st H x y v w Q k rx ry h
  have lists : (Done K mg W σ μ G F (match lstOf st x, lstOf st y with | some u, some w => if room (u.length + w.length) then mkNew b (u ++ w) st else .bad | _, _ => .bad) (Fin K Q)) → rAddA K v w H Q := by
    intro h
    obtain ⟨u, w', e1, e2, h⟩ := lists2 (f := fun u w st => if room (u.length + w.length) then mkNew b (u ++ w) st else .bad) h
    obtain ⟨hr, h⟩ := ite_done h
    obtain ⟨a, us, rfl, ha, ru⟩ := lstOf_rep k rx e1
    obtain ⟨c, ws, rfl, hc, rw'⟩ := lstOf_rep k ry e2
    refine .inr (.inr (.inl ⟨a, c, us, ws, rfl, rfl, ha, hc, ?_, new_list k (ru.append rw') h⟩))
    rw [ru.length, rw'.length]
    exact room_line hr
  unfold addD at h
  split at h
  · rw [rep_int rx, rep_int ry]
    exact .inl ⟨_, _, rfl, rfl, fin_here k h .int⟩
  · obtain ⟨hr, h⟩ := ite_done h
    rw [rep_str rx, rep_str ry]
    exact .inr (.inl ⟨_, _, rfl, rfl, room_line hr, fin_here k h .str⟩)
  · rename_i us ws
    obtain ⟨hr, h⟩ := ite_done h
    obtain ⟨a, vs, rfl, ha, ru⟩ := rep_tup rx
    obtain ⟨c, zs, rfl, hc, rz⟩ := rep_tup ry
    refine .inr (.inr (.inr ⟨a, c, vs, zs, rfl, rfl, k.ex.sqt ha, k.ex.sqt hc, by rw [ru.length, rz.length]; exact room_line hr, fun e => ?_, fun _ e => ?_, fun _ _ => new_tup k (ru.append rz) h⟩))
    · subst e
      have : us = [] := by
        have := ru.length
        simpa using this.symm
      subst this
      exact fin_here k h ry
    · subst e
      have : ws = [] := by
        have := rz.length
        simpa using this.symm
      subst this
      rw [List.append_nil] at h
      exact fin_here k h rx
  · exact lists h
theorem s_sub : S2 K mg subD (rI0 fun i j => .int (i - j)) := by
  intro W σ μ G F st H x y v w Q k rx ry h
  unfold subD at h
  split at h
  · rw [rep_int rx, rep_int ry]
    exact ⟨_, _, rfl, rfl, fin_here k h .int⟩
  · exact h.elim
abbrev rMulA (K : PySem.W.Frag) : R2 := fun x y H Q => (rI CMul fun i j => .int (i * j)) x y H Q ∨ (rRep x y H Q ∨ rRepT K x y H Q)
theorem or_mul : OpR X (binaryOp .Mult) (rMulA X.K) := op_mul.or (op_rep.or op_repT)
theorem Reps.rep {μ : List Addr} {G : Hp} {ds : List D} {vs : List V} (h : Reps K μ G ds vs) : ∀ n : Nat, Reps K μ G (List.replicate n ds).flatten (List.replicate n vs).flatten
  | 0 => .nil
  | n + 1 => by
    rw [List.replicate_succ, List.replicate_succ, List.flatten_cons, List.flatten_cons]
    exact h.append (Reps.rep h n)
theorem s_mul (b : Bool) : S2 K mg (mulD b) (rMulA K) := by
  intro W σ μ G F st H x y v w Q k rx ry h
  unfold mulD at h
  split at h
  · obtain ⟨hr, h⟩ := ite_done h
    rw [rep_int rx, rep_int ry]
    exact .inl ⟨_, _, rfl, rfl, hr, fin_here k h .int⟩
  · obtain ⟨⟨h1, h2, h3, h4⟩, h⟩ := ite_done h
    obtain ⟨a, vs, rfl, ha, ru⟩ := rep_tup rx
    rw [rep_int ry]
    refine .inr (.inr ⟨a, _, vs, rfl, rfl, k.ex.sqt ha, fun e => ?_, h2, h3, by rw [ru.length]; exact h4, new_tup k (ru.rep _) h⟩)
    subst e
    exact h1 (by simpa using ru.length.symm)
  · split at h
    · rename_i us e
      obtain ⟨⟨h1, h2, h3⟩, h⟩ := ite_done h
      obtain ⟨a, vs, rfl, ha, ru⟩ := lstOf_rep k rx e
      rw [rep_int ry]
      exact .inr (.inl ⟨a, _, vs, rfl, rfl, ha, h1, h2, by rw [ru.length]; exact room_line h3, new_list k (ru.rep _) h⟩)
    · exact h.elim
  · exact h.elim
theorem s_int {f : D → D → Store → Re D} {C : Int → Int → Prop} {g : Int → Int → V} (hf : ∀ W σ μ G F st x y P, Done K mg W σ μ G F (f x y st) P → ∃ i j, x = .int i ∧ y = .int j ∧ C i j ∧ ∃ d, (∀ μ G, Rep K μ G d (g i j)) ∧ Done K mg W σ μ G F (.ok d st) P) : S2 K mg f (rI C g) := by
  intro W σ μ G F st H x y v w Q k rx ry h
  obtain ⟨i, j, rfl, rfl, hc, d, hd, h⟩ := hf _ _ _ _ _ _ _ _ _ h
  rw [rep_int rx, rep_int ry]
  exact ⟨i, j, rfl, rfl, hc, fin_here k h (hd _ _)⟩
theorem s_int0 {f : D → D → Store → Re D} {g : Int → Int → V} (hf : ∀ W σ μ G F st x y P, Done K mg W σ μ G F (f x y st) P → ∃ i j, x = .int i ∧ y = .int j ∧ ∃ d, (∀ μ G, Rep K μ G d (g i j)) ∧ Done K mg W σ μ G F (.ok d st) P) : S2 K mg f (rI0 g) := by
  intro W σ μ G F st H x y v w Q k rx ry h
  obtain ⟨i, j, rfl, rfl, d, hd, h⟩ := hf _ _ _ _ _ _ _ _ _ h
  rw [rep_int rx, rep_int ry]
  exact ⟨i, j, rfl, rfl, fin_here k h (hd _ _)⟩
theorem s_fdiv : S2 K mg fdivD (rI CDiv fun i j => .int (i / j)) := s_int fun W σ μ G F st x y P h => by
  unfold fdivD at h
  split at h
  · obtain ⟨hr, h⟩ := ite_done h
    exact ⟨_, _, rfl, rfl, hr, _, fun _ _ => .int, h⟩
  · exact h.elim
theorem s_mod : S2 K mg modD (rI (fun _ j => 0 < j) fun i j => .int (i % j)) := s_int fun W σ μ G F st x y P h => by
  unfold modD at h
  split at h
  · obtain ⟨hr, h⟩ := ite_done h
    exact ⟨_, _, rfl, rfl, hr, _, fun _ _ => .int, h⟩
  · exact h.elim
theorem s_pow : S2 K mg powD (rI CPow fun i j => .int (i ^ j.toNat)) := s_int fun W σ μ G F st x y P h => by
  unfold powD at h
  split at h
  · obtain ⟨hr, h⟩ := ite_done h
    exact ⟨_, _, rfl, rfl, hr, _, fun _ _ => .int, h⟩
  · exact h.elim
theorem s_shl : S2 K mg shlD (rI CPow fun i j => .int (i * 2 ^ j.toNat)) := s_int fun W σ μ G F st x y P h => by
  unfold shlD at h
  split at h
  · obtain ⟨hr, h⟩ := ite_done h
    exact ⟨_, _, rfl, rfl, hr, _, fun _ _ => .int, h⟩
  · exact h.elim
theorem s_shr : S2 K mg shrD (rI (fun _ j => 0 ≤ j) fun i j => .int (i / 2 ^ j.toNat)) := s_int fun W σ μ G F st x y P h => by
  unfold shrD at h
  split at h
  · obtain ⟨hr, h⟩ := ite_done h
    exact ⟨_, _, rfl, rfl, hr, _, fun _ _ => .int, h⟩
  · exact h.elim
theorem s_and : S2 K mg andD (rI0 fun i j => .int (Builtin.bitAnd i j)) := s_int0 fun W σ μ G F st x y P h => by
  unfold andD at h
  split at h
  · exact ⟨_, _, rfl, rfl, _, fun _ _ => .int, h⟩
  · exact h.elim
theorem s_le : S2 K mg leD (rI0 fun i j => .bl (decide (i ≤ j))) := s_int0 fun W σ μ G F st x y P h => by
  unfold leD at h
  split at h
  · exact ⟨_, _, rfl, rfl, _, fun _ _ => .bl, h⟩
  · exact h.elim
theorem s_gt : S2 K mg gtD (rI0 fun i j => .bl (decide (j < i))) := s_int0 fun W σ μ G F st x y P h => by
  unfold gtD at h
  split at h
  · exact ⟨_, _, rfl, rfl, _, fun _ _ => .bl, h⟩
  · exact h.elim
theorem s_ge : S2 K mg geD (rI0 fun i j => .bl (decide (j ≤ i))) := s_int0 fun W σ μ G F st x y P h => by
  unfold geD at h
  split at h
  · exact ⟨_, _, rfl, rfl, _, fun _ _ => .bl, h⟩
  · exact h.elim
abbrev rLtA : R2 := fun x y H Q => (rI0 fun i j => .bl (decide (i < j))) x y H Q ∨ (∃ i j, x = .str i ∧ y = .str j ∧ Q (.bl (decide (i.cps.toList < j.cps.toList))) H)
theorem or_lt : OpR X (compareOp .Lt) rLtA := op_lt.or op_lt_str
theorem s_lt : S2 K mg ltD rLtA := by
  intro W σ μ G F st H x y v w Q k rx ry h
  unfold ltD at h
  split at h
  · rw [rep_int rx, rep_int ry]
    exact .inl ⟨_, _, rfl, rfl, fin_here k h .bl⟩
  · rw [rep_str rx, rep_str ry]
    exact .inr ⟨_, _, rfl, rfl, fin_here k h .bl⟩
  · exact h.elim
abbrev rEqA (K : PySem.W.Frag) : R2 := fun x y H Q => rEq x y H Q ∨ rEqD K x y H Q
abbrev rNeA (K : PySem.W.Frag) : R2 := fun x y H Q => rNe x y H Q ∨ rNeD K x y H Q
theorem or_eq (hu : X.A.units + 64 < cLine) : OpR X (compareOp .Eq) (rEqA X.K) := op_eq.or (op_eqD hu)
theorem or_ne (hu : X.A.units + 64 < cLine) : OpR X (compareOp .NotEq) (rNeA X.K) := op_ne.or (op_neD hu)
theorem eqB_dp {μ : List Addr} {G F : Hp} {st : Store} {H : Hp} {x y : D} {v w : V} {b : Bool} (k : Kn K mg μ G F st H) (rx : Rep K μ G x v) (ry : Rep K μ G y w) (h : eqB st x y = some b) :
    (scal v w = true ∧ decide (v = w) = b) ∨ ∃ d e, Dp K H v d ∧ Dp K H w e ∧ SeqAt.shaped d = true ∧ SeqAt.shaped e = true ∧ PyData.eqv d e = b := by
  unfold eqB at h
  split at h
  · rw [rep_non rx, rep_non ry]
    injection h with h
    subst h
    exact .inl ⟨rfl, rfl⟩
  · rw [rep_int rx, rep_int ry]
    injection h with h
    subst h
    exact .inl ⟨rfl, by simp⟩
  · rw [rep_bl rx, rep_bl ry]
    injection h with h
    subst h
    exact .inl ⟨rfl, by simp⟩
  · rw [rep_str rx, rep_str ry]
    injection h with h
    subst h
    exact .inl ⟨rfl, by simp⟩
  · split at h
    · rename_i hc
      rw [Bool.and_eq_true] at hc
      injection h with h
      subst h
      exact .inr ⟨_, _, res_dp k rx hc.1, res_dp k ry hc.2, okd_shaped hc.1, okd_shaped hc.2, rfl⟩
    · cases h
theorem s_eq : S2 K mg eqD (rEqA K) := by
  intro W σ μ G F st H x y v w Q k rx ry h
  unfold eqD at h
  split at h
  · rename_i b e
    have q : Q (.bl b) H := fin_here k h .bl
    rcases eqB_dp k rx ry e with ⟨h1, h2⟩ | ⟨d, e, h1, h2, h3, h4, h5⟩
    · exact .inl ⟨h1, by rw [h2]; exact q⟩
    · exact .inr ⟨d, e, h1, h2, h3, h4, by rw [h5]; exact q⟩
  · exact h.elim
theorem s_ne : S2 K mg neD (rNeA K) := by
  intro W σ μ G F st H x y v w Q k rx ry h
  unfold neD at h
  split at h
  · rename_i b e
    have q : Q (.bl !b) H := fin_here k h .bl
    rcases eqB_dp k rx ry e with ⟨h1, h2⟩ | ⟨d, e, h1, h2, h3, h4, h5⟩
    · exact .inl ⟨h1, by rw [h2]; exact q⟩
    · exact .inr ⟨d, e, h1, h2, h3, h4, by rw [h5]; exact q⟩
  · exact h.elim
abbrev rIsA : R2 := fun x y H Q => (∃ a b, x = .bl a ∧ y = .bl b ∧ Q (.bl (decide (a = b))) H) ∨ (y = .non ∧ Q (.bl (decide (x = .non))) H)
abbrev rIsnotA : R2 := fun x y H Q => (∃ a b, x = .bl a ∧ y = .bl b ∧ Q (.bl (!decide (a = b))) H) ∨ (y = .non ∧ Q (.bl (!decide (x = .non))) H)
theorem or_is : OpR X (compareOp .Is) rIsA := op_is_bl.or op_isN
theorem or_isnot : OpR X (compareOp .IsNot) rIsnotA := op_isnot_bl.or op_notN
theorem rep_isnon {μ : List Addr} {G : Hp} {x : D} {v : V} (r : Rep K μ G x v) : decide (v = .non) = isNon x := by
  cases x with
  | non => rw [rep_non r]; rfl
  | bl b => rw [rep_bl r]; rfl
  | int b => rw [rep_int r]; rfl
  | str b => rw [rep_str r]; rfl
  | tup b => obtain ⟨a, vs, rfl, _⟩ := rep_tup r; rfl
  | lst b => obtain ⟨a, vs, rfl, _⟩ := rep_lst r; rfl
  | frz b => obtain ⟨a, vs, rfl, _⟩ := rep_frz r; rfl
  | loc b => obtain ⟨a, rfl, _⟩ := rep_loc r; rfl
  | exn _ _ _ => obtain ⟨vs, rfl, _⟩ := rep_exn r; rfl
theorem s_is : S2 K mg isD rIsA := by
  intro W σ μ G F st H x y v w Q k rx ry h
  unfold isD at h
  split at h
  · rw [rep_bl rx, rep_bl ry]
    exact .inl ⟨_, _, rfl, rfl, fin_here k h .bl⟩
  · refine .inr ⟨rep_non ry, ?_⟩
    rw [rep_isnon rx]
    exact fin_here k h .bl
  · exact h.elim
theorem s_isnot : S2 K mg isnotD rIsnotA := by
  intro W σ μ G F st H x y v w Q k rx ry h
  unfold isnotD at h
  split at h
  · rw [rep_bl rx, rep_bl ry]
    exact .inl ⟨_, _, rfl, rfl, fin_here k h .bl⟩
  · refine .inr ⟨rep_non ry, ?_⟩
    rw [rep_isnon rx]
    exact fin_here k h .bl
  · exact h.elim

/-! ### in, subscripts, truth, slices -/
/-- x in a list or tuple of data of any depth -/
def rInA (K : PySem.W.Frag) (neg : Bool) : R2 := fun x y H Q => ∃ d ds, Dp K H x d ∧ (Dp K H y (.list ds) ∨ Dp K H y (.tuple ds)) ∧ SeqAt.shaped d = true ∧ SeqAt.shaped (.list ds) = true ∧ Q (.bl (if neg then !ds.any fun z => PyData.eqv z d else ds.any fun z => PyData.eqv z d)) H
theorem op_inA (hu : X.A.units + 65 < cLine) : OpR X (compareOp .In) (rInA X.K false) := by
  intro pins s σ H x y v u Q I rx ry h
  obtain ⟨d, ds, hd, he, sd, se, q⟩ := h
  obtain ⟨as, r1⟩ := Dp.reads I d x v hd rx
  rcases he with he | he
  · obtain ⟨bs, r2⟩ := Dp.reads I (.list ds) y u he ry
    exact SeqAt.in_list_reads r2 r1 (SeqAt.canLay_of_shaped se) (SeqAt.canLay_of_shaped sd) (room_in_shaped sd hu) ⟨.bl _, H, I, rfl, q⟩
  · obtain ⟨bs, r2⟩ := Dp.reads I (.tuple ds) y u he ry
    exact SeqAt.in_tuple_reads r2 r1 (SeqAt.canLay_of_shaped (show SeqAt.shaped (.tuple ds) = true from se)) (SeqAt.canLay_of_shaped sd) (room_in_shaped sd hu) ⟨.bl _, H, I, rfl, q⟩
theorem op_notInA (hu : X.A.units + 65 < cLine) : OpR X (compareOp .NotIn) (rInA X.K true) := by
  intro pins s σ H x y v u Q I rx ry h
  obtain ⟨d, ds, hd, he, sd, se, q⟩ := h
  obtain ⟨as, r1⟩ := Dp.reads I d x v hd rx
  rcases he with he | he
  · obtain ⟨bs, r2⟩ := Dp.reads I (.list ds) y u he ry
    exact SeqAt.notIn_list_reads r2 r1 (SeqAt.canLay_of_shaped se) (SeqAt.canLay_of_shaped sd) (room_in_shaped sd hu) ⟨.bl _, H, I, rfl, q⟩
  · obtain ⟨bs, r2⟩ := Dp.reads I (.tuple ds) y u he ry
    exact SeqAt.notIn_tuple_reads r2 r1 (SeqAt.canLay_of_shaped (show SeqAt.shaped (.tuple ds) = true from se)) (SeqAt.canLay_of_shaped sd) (room_in_shaped sd hu) ⟨.bl _, H, I, rfl, q⟩
def rSgn (neg : Bool) : R2 := fun x y H Q => ∃ (c : Nat) (z : Str), x = .str ⟨#[c]⟩ ∧ y = .str z ∧ Q (.bl (if neg then !decide (c ∈ z.cps.toList) else decide (c ∈ z.cps.toList))) H
abbrev rInB (K : PySem.W.Frag) (neg : Bool) : R2 := fun x y H Q => rSgn neg x y H Q ∨ (rIn K neg x y H Q ∨ rInA K neg x y H Q)
theorem or_in (hu : X.A.units + 65 < cLine) : OpR X (compareOp .In) (rInB X.K false) := OpR.or (r := rSgn false) op_in_sign (op_in_seq.or (op_inA hu))
theorem or_nin (hu : X.A.units + 65 < cLine) : OpR X (compareOp .NotIn) (rInB X.K true) := OpR.or (r := rSgn true) op_notIn_sign (op_notIn_seq.or (op_notInA hu))
theorem flat_rep {μ : List Addr} {G : Hp} {x : D} {v : V} (r : Rep K μ G x v) (f : flatD x = true) : flatV v = true := by
  cases x with
  | non => rw [rep_non r]; rfl
  | bl b => rw [rep_bl r]; rfl
  | int b => rw [rep_int r]; rfl
  | str b => rw [rep_str r]; rfl
  | _ => cases f
theorem flats_rep {μ : List Addr} {G : Hp} : ∀ {xs : List D} {vs : List V}, Reps K μ G xs vs → xs.all flatD = true → vs.all flatV = true
  | [], vs, r, _ => by rw [reps_nil r]; rfl
  | x :: xs, vs, r, f => by
    obtain ⟨v, t, rfl, hv, ht⟩ := reps_cons r
    rw [List.all_cons, Bool.and_eq_true] at f
    rw [List.all_cons, flat_rep hv f.1, flats_rep ht f.2]
    rfl
theorem eqV_rep {μ : List Addr} {G : Hp} {x y : D} {v w : V} (rx : Rep K μ G x v) (ry : Rep K μ G y w) (fx : flatD x = true) (fy : flatD y = true) : eqV v w = eqvD x y := by
  cases x <;> cases y <;> first
    | exact absurd fx Bool.false_ne_true
    | exact absurd fy Bool.false_ne_true
    | (simp only [Rep] at rx ry; subst rx; subst ry; simp [eqV, eqvD, pd, PyData.eqv])
theorem any_rep {μ : List Addr} {G : Hp} {x : D} {v : V} (rx : Rep K μ G x v) (fx : flatD x = true) : ∀ {ys : List D} {ws : List V}, Reps K μ G ys ws → ys.all flatD = true → inV v ws = ys.any fun z => eqvD z x
  | [], ws, r, _ => by rw [reps_nil r]; rfl
  | y :: ys, ws, r, f => by
    obtain ⟨w, t, rfl, hw, ht⟩ := reps_cons r
    rw [List.all_cons, Bool.and_eq_true] at f
    have ih := any_rep rx fx ht f.2
    unfold inV at ih ⊢
    rw [List.any_cons, List.any_cons, ih, eqV_rep hw rx f.1 fx]
theorem any_pds {x : D} : ∀ ys : List D, ((pds ys).any fun z => PyData.eqv z (pd x)) = ys.any fun z => eqvD z x
  | [] => rfl
  | y :: ys => by rw [pds, List.any_cons, List.any_cons, any_pds ys]; rfl
theorem reps_dps {μ : List Addr} {G H : Hp} (e : Ex G H) (n : Nat) : ∀ (ds : List D) (vs : List V), ds.all (okd n) = true → Reps K μ G ds vs → DpAll K H vs (pds ds)
  | [], vs, _, r => by rw [reps_nil r]; exact .nil
  | d :: ds, vs, h, r => by
    obtain ⟨v, t, rfl, hv, ht⟩ := reps_cons r
    rw [List.all_cons, Bool.and_eq_true] at h
    exact .cons (rep_dp e n d v h.1 hv) (reps_dps e n ds t h.2 ht)
theorem inB_rep {neg : Bool} {μ : List Addr} {G F : Hp} {st : Store} {H : Hp} {x y : D} {v w : V} {b : Bool} {Q : VK} (k : Kn K mg μ G F st H) (rx : Rep K μ G x v) (ry : Rep K μ G y w) (h : inB st x y = some b)
    (q : Q (.bl (if neg then !b else b)) H) : rInB K neg v w H Q := by
  have main : ∀ ds, seqOf st y = some ds → (if flatD x && ds.all flatD then some (ds.any fun z => eqvD z x) else if okd 60 x && ds.all (okd 59) then some (ds.any fun z => eqvD z x) else none) = some b → rInB K neg v w H Q := by
    intro ds e h
    obtain ⟨a, vs, rfl, hs, rs⟩ := seqOf_rep k ry e
    split at h
    · rename_i hc
      rw [Bool.and_eq_true] at hc
      injection h with h
      refine .inr (.inl ⟨a, vs, rfl, hs, flat_rep rx hc.1, flats_rep rs hc.2, ?_⟩)
      rw [any_rep rx hc.1 rs hc.2, h]
      exact q
    · split at h
      · rename_i hc
        rw [Bool.and_eq_true] at hc
        injection h with h
        refine .inr (.inr ⟨pd x, pds ds, rep_dp k.ex 60 _ _ hc.1 rx, ?_, okd_shaped hc.1, okd_shaped (d := .lst ds) (by simpa [okd] using hc.2), ?_⟩)
        · rcases hs with hs | hs
          · exact .inl (.lst hs (reps_dps k.ex 59 ds vs hc.2 rs))
          · exact .inr (.tup hs (reps_dps k.ex 59 ds vs hc.2 rs))
        · rw [any_pds, h]
          exact q
      · cases h
  unfold inB at h
  split at h
  · split at h
    · rename_i s e
      injection h with h
      subst h
      rw [rep_str rx, rep_str ry]
      refine .inl ⟨s, _, ?_, rfl, q⟩
      rename_i c _ _
      have : c = ⟨#[s]⟩ := by
        cases c with
        | mk cps =>
          have e' : cps.toList = [s] := e
          have : cps = #[s] := by
            apply Array.toList_inj.mp
            exact e'
          rw [this]
      rw [this]
    · cases h
  · split at h
    · rename_i e
      exact main _ e h
    · cases h
theorem s_in : S2 K mg inD (rInB K false) := by
  intro W σ μ G F st H x y v w Q k rx ry h
  unfold inD at h
  split at h
  · rename_i b e
    exact inB_rep (neg := false) k rx ry e (fin_here k h .bl)
  · exact h.elim
theorem s_nin : S2 K mg ninD (rInB K true) := by
  intro W σ μ G F st H x y v w Q k rx ry h
  unfold ninD at h
  split at h
  · rename_i b e
    exact inB_rep (neg := true) k rx ry e (fin_here k h .bl)
  · exact h.elim
theorem atI_rep {μ : List Addr} {G : Hp} {ds : List D} {vs : List V} {i : Int} {d : D} (r : Reps K μ G ds vs) (h : atI ds i = some d) : ∃ v, atI vs i = some v ∧ Rep K μ G d v := by
  unfold atI at h ⊢
  rw [r.length]
  cases e : ixN ds.length i with
  | none => rw [e] at h; cases h
  | some j =>
    rw [e] at h
    exact r.get h
theorem s_ix : S2 K mg ixD (rIx K) := by
  intro W σ μ G F st H x y v w Q k rx ry h
  unfold ixD at h
  split at h
  · obtain ⟨hr, h⟩ := ite_done h
    split at h
    · rename_i c e
      rw [rep_str rx, rep_int ry]
      exact .inr (.inr ⟨_, _, c, rfl, rfl, room_line hr, e, fin_here k h .str⟩)
    · exact h.elim
  · split at h
    · rename_i ds e
      split at h
      · rename_i d e2
        obtain ⟨a, vs, rfl, hs, rs⟩ := seqOf_rep k rx e
        obtain ⟨z, e3, rz⟩ := atI_rep rs e2
        rw [rep_int ry]
        have q := fin_here k h rz
        rcases hs with hs | hs
        · exact .inl ⟨a, vs, _, z, rfl, rfl, hs, e3, q⟩
        · exact .inr (.inl ⟨a, vs, _, z, rfl, rfl, hs, e3, q⟩)
      · exact h.elim
    · exact h.elim
  · exact h.elim
theorem s_neg : S1 K mg negD (rU fun i => .int (-i)) := by
  intro W σ μ G F st H x v Q k rx h
  unfold negD at h
  split at h
  · rw [rep_int rx]
    exact ⟨_, rfl, fin_here k h .int⟩
  · exact h.elim
theorem isEmpty_reps {μ : List Addr} {G : Hp} {ds : List D} {vs : List V} (r : Reps K μ G ds vs) : vs.isEmpty = ds.isEmpty := by
  have := r.length
  cases ds <;> cases vs <;> simp_all
theorem truth_rep {μ : List Addr} {G F : Hp} {st : Store} {H : Hp} {x : D} {v : V} {b : Bool} (k : Kn K mg μ G F st H) (r : Rep K μ G x v) (h : truthB st x = some b) : TruV K v H b := by
  cases x with
  | non => rw [rep_non r]; injection h with h; exact h.symm
  | bl c => rw [rep_bl r]; injection h with h; exact h.symm
  | int c => rw [rep_int r]; injection h with h; exact h.symm
  | str z =>
    rw [rep_str r]
    by_cases hr : room z.length
    · have h' : some ((z.length : Int) != 0) = some b := by
        rw [← h]
        simp only [truthB, if_pos hr]
      injection h' with h'
      exact ⟨room_line hr, h'.symm⟩
    · have h' : none = some b := by
        rw [← h]
        simp only [truthB, if_neg hr]
      cases h'
  | tup ds =>
    obtain ⟨a, vs, rfl, hs, rs⟩ := rep_tup r
    injection h with h
    exact .inr (.inl ⟨vs, k.ex.sqt hs, by rw [isEmpty_reps rs]; exact h.symm⟩)
  | lst ds =>
    obtain ⟨a, vs, rfl, hs, rs⟩ := rep_lst r
    injection h with h
    exact .inl ⟨vs, .of (k.ex _ _ hs), by rw [isEmpty_reps rs]; exact h.symm⟩
  | frz ds =>
    obtain ⟨a, vs, rfl, hs, rs⟩ := rep_frz r
    injection h with h
    exact .inl ⟨vs, k.ex.sql hs, by rw [isEmpty_reps rs]; exact h.symm⟩
  | exn _ _ _ => simp only [truthB] at h; cases h
  | loc n =>
    obtain ⟨a, rfl, ha⟩ := rep_loc r
    simp only [truthB] at h
    split at h
    · rename_i ds e
      obtain ⟨a', o, h1, _, _, h4, vs, rfl, q⟩ := k.cell n _ (cell_some e)
      rw [ha] at h1
      cases h1
      injection h with h
      exact .inl ⟨vs, .of h4, by rw [isEmpty_reps q]; exact h.symm⟩
    · rename_i kvs e
      obtain ⟨a', o, h1, _, _, h4, ps, rfl, q⟩ := k.cell n _ (cell_some e)
      rw [ha] at h1
      cases h1
      injection h with h
      refine .inr (.inr ⟨ps, h4, ?_⟩)
      cases kvs with
      | nil =>
        have : ps = [] := q
        rw [this]
        exact h.symm
      | cons p r =>
        obtain ⟨k, d⟩ := p
        obtain ⟨_, s, rfl, _⟩ := q
        exact h.symm
    · cases h
theorem Reps.cut {μ : List Addr} {G : Hp} {ds : List D} {vs : List V} (r : Reps K μ G ds vs) (lo hi : Option Int) : Reps K μ G (cutD ds lo hi) (cutV vs lo hi) := by
  unfold cutD cutV
  rw [r.length]
  exact (r.drop _).take _
end
end Dn
namespace Dn
open PySem PySem.Spec PyProof.Rows L2

abbrev ME (X : Cx) (W : WX) (e : Expr) (m : EM) : Prop := PE X e (tE X.K X.mg W m)
abbrev MT (X : Cx) (W : WX) (e : Expr) (m : EM) : Prop := PT X e (tT X.K X.mg W m)
abbrev MW (X : Cx) (W : WX) (e : Expr) (m : EM) : Prop := PW X e (tT X.K X.mg W m)
abbrev MA (X : Cx) (W : WX) (es : List Expr) (m : EMs) : Prop := PA X es (tA X.K X.mg W m)

/-! ### terms -/
def getV (vs : Vars) (i : Nat) : Option D := (vs[i]?).join
def eV (i : Nat) : EM := fun vs st => match getV vs i with
  | some d => .ok d st
  | none => .bad
def eC (d : D) : EM := fun _ st => .ok d st
def e1 (f : D → Store → Re D) (a : EM) : EM := fun vs st => (a vs st).bind fun x st => f x st
def e2 (f : D → D → Store → Re D) (a b : EM) : EM := fun vs st => (a vs st).bind fun x st => (b vs st).bind fun y st => f x y st
def onB (d : D) (t f : Re D) : Re D := match d with
  | .bl true => t
  | .bl false => f
  | _ => .bad
def eAnd (a b : EM) : EM := fun vs st => (a vs st).bind fun x st => onB x (b vs st) (.ok (.bl false) st)
def eOr (a b : EM) : EM := fun vs st => (a vs st).bind fun x st => onB x (.ok (.bl true) st) (b vs st)
def eNot (a : EM) : EM := fun vs st => (a vs st).bind fun x st => onB x (.ok (.bl false) st) (.ok (.bl true) st)
def eIf (c a b : EM) : EM := fun vs st => (c vs st).bind fun x st => onB x (a vs st) (b vs st)
def eTru (a : EM) : EM := fun vs st => (a vs st).bind fun x st => match truthB st x with
  | some b => .ok (.bl b) st
  | none => .bad
def aNil : EMs := fun _ st => .ok [] st
def aCons (a : EM) (r : EMs) : EMs := fun vs st => (a vs st).bind fun x st => (r vs st).bind fun xs st => .ok (x :: xs) st
def eTup (as : EMs) : EM := fun vs st => (as vs st).bind fun xs st => if room xs.length then .ok (.tup xs) st else .bad
def eLst (b : Bool) (as : EMs) : EM := fun vs st => (as vs st).bind fun xs st => if room xs.length then mkNew b xs st else .bad
def eN (f : List D → Store → Re D) (as : EMs) : EM := fun vs st => (as vs st).bind fun xs st => f xs st
def eChain (f g : D → D → Store → Re D) (a b c : EM) : EM := fun vs st => (a vs st).bind fun x st => (b vs st).bind fun y st => (f x y st).bind fun z st => onB z ((c vs st).bind fun w st => g y w st) (.ok (.bl false) st)
def oNone : Vars → Store → Re (Option Int) := fun _ st => .ok none st
def oSome (a : EM) : Vars → Store → Re (Option Int) := fun vs st => (a vs st).bind fun x st => match x with
  | .int i => .ok (some i) st
  | _ => .bad
def eSl (b : Bool) (a : EM) (lo hi : Vars → Store → Re (Option Int)) : EM := fun vs st => (a vs st).bind fun x st => (lo vs st).bind fun l st => (hi vs st).bind fun h st => sliceD b x l h st
/-- a def as a function -/
abbrev FnD := List D → Store → Re D

section
variable {K : PySem.W.Frag} {mg : Str → Option Value} {W : WX} {σ : L2.St} {μ : List Addr} {G F : Hp} {H : Hp} {Q : VK}
end

/-! ### the rules -/
section
variable {X : Cx} {W : WX} {e a b c : Expr} {es : List Expr} {ma mb mc : EM} {ms : EMs} {pos : Pos}
theorem m_var (i : Nat) {x : Str} (hN : X.N[i]? = some x := by rfl) (hv : Vis X.env.scope x := by first | exact Or.inl rfl | exact Or.inr (Or.inl rfl) | exact Or.inr (Or.inr rfl)) (hd : (x == ("__debug__" : Str)) = false := by decide)
    (hcd : (x == ("__classdict__" : Str)) = false := by decide) : ME X W (.Name x pos) (eV i) := (pe_var hN hv hd hcd).of fun σ H Q h => by
  obtain ⟨vs, st, μ, G, F, re, k, h⟩ := h
  unfold eV getV at h
  cases hv : vs[i]? with
  | none => rw [hv] at h; exact h.elim
  | some o =>
    cases o with
    | none => rw [hv] at h; exact h.elim
    | some d =>
      rw [hv] at h
      obtain ⟨v, e, r⟩ := re.get i d hv
      exact ⟨v, e, fin_here k h r⟩
theorem const_of {d : D} {v : V} (h : PE X e (tC v)) (r : ∀ μ G, Rep X.K μ G d v) : ME X W e (eC d) := h.of fun σ H Q h => by
  obtain ⟨vs, st, μ, G, F, re, k, h⟩ := h
  exact fin_here k h (r μ G)
theorem m_int {i : Int} {j : Nat} : ME X W (.Constant (.int i) j pos) (eC (.int i)) := const_of pe_int fun _ _ => .int
theorem m_bl {i : Bool} {j : Nat} : ME X W (.Constant (.bool i) j pos) (eC (.bl i)) := const_of pe_bl fun _ _ => .bl
theorem m_non {j : Nat} : ME X W (.Constant .none j pos) (eC .non) := const_of pe_non fun _ _ => .non
theorem m_str {i : Str} {j : Nat} : ME X W (.Constant (.str i) j pos) (eC (.str i)) := const_of pe_str fun _ _ => .str
/-- a module's constant -/
structure Cst (K : PySem.W.Frag) (mg : Str → Option Value) (x : Str) (d : D) : Prop where
  ex : ∃ u v, mg x = some u ∧ RelV v u ∧ ∀ μ G, Rep K μ G d v
theorem m_glob {x : Str} {d : D} (c : Cst X.K X.mg x d) (hg : Gl X x := by rfl) (hd : (x == ("__debug__" : Str)) = false := by decide) : ME X W (.Name x pos) (eC d) := by
  obtain ⟨u, v, h1, h2, h3⟩ := c.ex
  exact const_of (pe_glob hg h1 h2 hd) h3
/-- two operands in a row -/
theorem two_of {r : R2} {f : D → D → Store → Re D} (hs : S2 X.K X.mg f r) (ha : ME X W a ma) (hb : ME X W b mb) (σ : L2.St) (H : Hp) (Q : VK) (h : tE X.K X.mg W (e2 f ma mb) σ H Q) :
    tOp r (tE X.K X.mg W ma) (tE X.K X.mg W mb) σ H Q := by
  obtain ⟨vs, st, μ, G, F, re, k, h⟩ := h
  refine ⟨vs, st, μ, G, F, re, k, (Done.bind h).mono fun μ1 G1 x st1 H1 f1 k1 h1 v rv => ?_⟩
  refine ⟨vs, st1, μ1, G1, F, re.fut f1, k1, (Done.bind h1).mono fun μ2 G2 y st2 H2 f2 k2 h2 w rw' => ?_⟩
  exact hs W σ μ2 G2 F st2 H2 x y v w Q k2 (rv.fut f2) rw' h2
theorem tT_tE {m : EM} {σ : L2.St} {H : Hp} {Q : Bool → Hp → Prop} (h : tT X.K X.mg W m σ H Q) : tE X.K X.mg W m σ H fun x H' => ∃ k, x = .bl k ∧ Q k H' := by
  obtain ⟨vs, st, μ, G, F, re, k, h⟩ := h
  refine ⟨vs, st, μ, G, F, re, k, h.mono fun μ1 G1 x st1 H1 f1 k1 h1 v rv => ?_⟩
  obtain ⟨b, rfl, q⟩ := h1
  exact ⟨b, rep_bl rv, q⟩
theorem m_op {op : Operator} {r : R2} {f : D → D → Store → Re D} (ho : OpR X (binaryOp op) r) (hs : S2 X.K X.mg f r) (ha : ME X W a ma) (hb : ME X W b mb) : ME X W (.BinOp a op b pos) (e2 f ma mb) := (pe_op ho ha hb).of (two_of hs ha hb)
theorem m_un {op : UnaryOp} {r : V → Hp → VK → Prop} {f : D → Store → Re D} (ho : UnR X (unaryOp op) r) (hs : S1 X.K X.mg f r) (ha : ME X W a ma) : ME X W (.UnaryOp op a pos) (e1 f ma) := (pe_un ho ha).of fun σ H Q h => by
  obtain ⟨vs, st, μ, G, F, re, k, h⟩ := h
  exact ⟨vs, st, μ, G, F, re, k, (Done.bind h).mono fun μ1 G1 x st1 H1 f1 k1 h1 v rv => hs W σ μ1 G1 F st1 H1 x v Q k1 rv h1⟩
theorem m_cmp {op : CmpOp} {r : R2} {f : D → D → Store → Re D} (ho : OpR X (compareOp op) r) (hs : S2 X.K X.mg f r) (ha : ME X W a ma) (hb : ME X W b mb) (hm : behindInMarks op b = false := by first | exact nomark _ | rfl) : ME X W (.Compare a [op] [b] pos) (e2 f ma mb) :=
  (pe_cmpR ho ha hb hm).of (two_of hs ha hb)
theorem t_cmp {op : CmpOp} {r : R2} {f : D → D → Store → Re D} (ho : OpR X (compareOp op) r) (hs : S2 X.K X.mg f r) (ha : ME X W a ma) (hb : ME X W b mb) (hm : behindInMarks op b = false := by first | exact nomark _ | rfl) : MT X W (.Compare a [op] [b] pos) (e2 f ma mb) :=
  (pt_cmpR ho ha hb hm).of fun σ H Q h => two_of hs ha hb σ H _ (tT_tE h)
theorem onB_done {α : Type} {d : D} {r s : Re D} {σ : L2.St} {μ : List Addr} {G F : Hp} {P : List Addr → Hp → D → Store → Hp → Prop} (h : Done X.K X.mg W σ μ G F (onB d r s) P) :
    ∃ k, d = .bl k ∧ Done X.K X.mg W σ μ G F (if k = true then r else s) P := by
  cases d with
  | bl k =>
    refine ⟨k, rfl, ?_⟩
    cases k <;> exact h
  | _ => exact h.elim
theorem chain_of {r r' : R2} {f g : D → D → Store → Re D} (hs : S2 X.K X.mg f r) (hs' : S2 X.K X.mg g r') (ha : ME X W a ma) (hb : ME X W b mb) (hc : ME X W c mc) (σ : L2.St) (H : Hp) (Q : VK) (h : tE X.K X.mg W (eChain f g ma mb mc) σ H Q) :
    tChain r r' (tE X.K X.mg W ma) (tE X.K X.mg W mb) (tE X.K X.mg W mc) σ H Q := by
  obtain ⟨vs, st, μ, G, F, re, k, h⟩ := h
  refine ⟨vs, st, μ, G, F, re, k, (Done.bind h).mono fun μ1 G1 x st1 H1 f1 k1 h1 v rv => ?_⟩
  refine ⟨vs, st1, μ1, G1, F, re.fut f1, k1, (Done.bind h1).mono fun μ2 G2 y st2 H2 f2 k2 h2 w rw' => ?_⟩
  refine hs W σ μ2 G2 F st2 H2 x y v w _ k2 (rv.fut f2) rw' ((Done.bind h2).mono fun μ3 G3 z st3 H3 f3 k3 h3 z' rz => ?_)
  obtain ⟨kk, rfl, h3⟩ := onB_done (α := Unit) h3
  refine ⟨kk, rep_bl rz, ?_⟩
  cases kk with
  | true =>
    rw [if_pos rfl]
    have h3' : Done X.K X.mg W σ μ3 G3 F ((mc vs st3).bind fun w st => g y w st) (Fin X.K Q) := h3
    refine ⟨vs, st3, μ3, G3, F, ((re.fut f1).fut f2).fut f3, k3, (Done.bind h3').mono fun μ4 G4 u st4 H4 f4 k4 h4 u' ru => ?_⟩
    exact hs' W σ μ4 G4 F st4 H4 y u w u' Q k4 ((rw'.fut f3).fut f4) ru h4
  | false =>
    rw [if_neg Bool.false_ne_true]
    exact fin_here k3 h3 .bl
theorem m_chain {op op' : CmpOp} {r r' : R2} {f g : D → D → Store → Re D} (ho : OpR X (compareOp op) r) (hs : S2 X.K X.mg f r) (ho' : OpR X (compareOp op') r') (hs' : S2 X.K X.mg g r') (ha : ME X W a ma) (hb : ME X W b mb) (hc : ME X W c mc)
    (hm : lastMarks [op, op'] [b, c] = false := by with_unfolding_all rfl) : ME X W (.Compare a [op, op'] [b, c] pos) (eChain f g ma mb mc) := (pe_chain ho ho' ha hb hc hm).of (chain_of hs hs' ha hb hc)
theorem t_chain {op op' : CmpOp} {r r' : R2} {f g : D → D → Store → Re D} (ho : OpR X (compareOp op) r) (hs : S2 X.K X.mg f r) (ho' : OpR X (compareOp op') r') (hs' : S2 X.K X.mg g r') (ha : ME X W a ma) (hb : ME X W b mb) (hc : ME X W c mc)
    (hm : lastMarks [op, op'] [b, c] = false := by with_unfolding_all rfl) : MT X W (.Compare a [op, op'] [b, c] pos) (eChain f g ma mb mc) := (pt_chain ho ho' ha hb hc hm).of fun σ H Q h => chain_of hs hs' ha hb hc σ H _ (tT_tE h)

/-! and, or, not, if: as tests, as values -/
variable {mt mu : EM} {rest : List Expr}
theorem w_and1 (ha : MT X W a mt) : MW X W (.BoolOp .And [a] pos) mt := pw_and1 ha
theorem w_or1 (ha : MT X W a mt) : MW X W (.BoolOp .Or [a] pos) mt := pw_or1 ha
theorem w_and (ha : MT X W a mt) (hb : MW X W (.BoolOp .And (b :: rest) pos) mu) : MW X W (.BoolOp .And (a :: b :: rest) pos) (eAnd mt mu) := (pw_and ha hb).of fun σ H Q h => by
  obtain ⟨vs, st, μ, G, F, re, k, h⟩ := h
  refine ⟨vs, st, μ, G, F, re, k, (Done.bind h).mono fun μ1 G1 x st1 H1 f1 k1 h1 => ?_⟩
  obtain ⟨kk, rfl, h1⟩ := onB_done (α := Unit) h1
  refine ⟨kk, rfl, ?_⟩
  cases kk with
  | true => exact ⟨vs, st1, μ1, G1, F, re.fut f1, k1, h1⟩
  | false =>
    obtain ⟨b, e, q⟩ := Done.here k1 h1
    cases e
    exact q
theorem w_or (ha : MT X W a mt) (hb : MW X W (.BoolOp .Or (b :: rest) pos) mu) : MW X W (.BoolOp .Or (a :: b :: rest) pos) (eOr mt mu) := (pw_or ha hb).of fun σ H Q h => by
  obtain ⟨vs, st, μ, G, F, re, k, h⟩ := h
  refine ⟨vs, st, μ, G, F, re, k, (Done.bind h).mono fun μ1 G1 x st1 H1 f1 k1 h1 => ?_⟩
  obtain ⟨kk, rfl, h1⟩ := onB_done (α := Unit) h1
  refine ⟨kk, rfl, ?_⟩
  cases kk with
  | false => exact ⟨vs, st1, μ1, G1, F, re.fut f1, k1, h1⟩
  | true =>
    obtain ⟨b, e, q⟩ := Done.here k1 h1
    cases e
    exact q
theorem t_w (h : MW X W e mt) : MT X W e mt := h.pt
theorem t_not (ha : MT X W a mt) : MT X W (.UnaryOp .Not a pos) (eNot mt) := (pt_not ha).of fun σ H Q h => by
  obtain ⟨vs, st, μ, G, F, re, k, h⟩ := h
  refine ⟨vs, st, μ, G, F, re, k, (Done.bind h).mono fun μ1 G1 x st1 H1 f1 k1 h1 => ?_⟩
  obtain ⟨kk, rfl, h1⟩ := onB_done (α := Unit) h1
  refine ⟨kk, rfl, ?_⟩
  cases kk with
  | false =>
    obtain ⟨b, e, q⟩ := Done.here k1 h1
    cases e
    exact q
  | true =>
    obtain ⟨b, e, q⟩ := Done.here k1 h1
    cases e
    exact q
theorem t_val (h : ME X W e mt) (he : ∀ whole, isTrue e X.env whole = (do let v ← whole; standAt e.pos; holding [v] (truthy v)) := by intro _; rfl) : MT X W e mt := (pt_val h he).of fun σ H Q h => tT_tE h
theorem t_tru (h : ME X W e mt) (he : ∀ whole, isTrue e X.env whole = (do let v ← whole; standAt e.pos; holding [v] (truthy v)) := by intro _; rfl) : MT X W e (eTru mt) := (pt_truth h he).of fun σ H Q h => by
  obtain ⟨vs, st, μ, G, F, re, k, h⟩ := h
  refine ⟨vs, st, μ, G, F, re, k, (Done.bind h).mono fun μ1 G1 x st1 H1 f1 k1 h1 v rv => ?_⟩
  split at h1
  · rename_i b e
    obtain ⟨b', e', q⟩ := Done.here k1 h1
    cases e'
    exact ⟨b, truth_rep k1 rv e, q⟩
  · exact h1.elim
theorem m_one {op : BoolOp} (h : ME X W a mt) : ME X W (.BoolOp op [a] pos) mt := pe_one h
theorem m_and (ha : ME X W a mt) (hb : ME X W (.BoolOp .And (b :: rest) pos) mu) : ME X W (.BoolOp .And (a :: b :: rest) pos) (eAnd mt mu) := (pe_and ha hb).of fun σ H Q h => by
  obtain ⟨vs, st, μ, G, F, re, k, h⟩ := h
  refine ⟨vs, st, μ, G, F, re, k, (Done.bind h).mono fun μ1 G1 x st1 H1 f1 k1 h1 v rv => ?_⟩
  obtain ⟨kk, rfl, h1⟩ := onB_done (α := Unit) h1
  refine ⟨kk, rep_bl rv, ?_⟩
  cases kk with
  | true => exact ⟨vs, st1, μ1, G1, F, re.fut f1, k1, h1⟩
  | false => exact fin_here k1 h1 .bl
theorem m_or (ha : ME X W a mt) (hb : ME X W (.BoolOp .Or (b :: rest) pos) mu) : ME X W (.BoolOp .Or (a :: b :: rest) pos) (eOr mt mu) := (pe_or ha hb).of fun σ H Q h => by
  obtain ⟨vs, st, μ, G, F, re, k, h⟩ := h
  refine ⟨vs, st, μ, G, F, re, k, (Done.bind h).mono fun μ1 G1 x st1 H1 f1 k1 h1 v rv => ?_⟩
  obtain ⟨kk, rfl, h1⟩ := onB_done (α := Unit) h1
  refine ⟨kk, rep_bl rv, ?_⟩
  cases kk with
  | false => exact ⟨vs, st1, μ1, G1, F, re.fut f1, k1, h1⟩
  | true => exact fin_here k1 h1 .bl
theorem m_not (ha : ME X W a mt) : ME X W (.UnaryOp .Not a pos) (eNot mt) := (pe_not ha).of fun σ H Q h => by
  obtain ⟨vs, st, μ, G, F, re, k, h⟩ := h
  refine ⟨vs, st, μ, G, F, re, k, (Done.bind h).mono fun μ1 G1 x st1 H1 f1 k1 h1 v rv => ?_⟩
  obtain ⟨kk, rfl, h1⟩ := onB_done (α := Unit) h1
  refine ⟨kk, rep_bl rv, ?_⟩
  cases kk with
  | false => exact fin_here k1 h1 .bl
  | true => exact fin_here k1 h1 .bl
theorem m_if (hc : MT X W c mt) (ha : ME X W a ma) (hb : ME X W b mb) : ME X W (.IfExp c a b pos) (eIf mt ma mb) := (pe_ifExp hc ha hb).of fun σ H Q h => by
  obtain ⟨vs, st, μ, G, F, re, k, h⟩ := h
  refine ⟨vs, st, μ, G, F, re, k, (Done.bind h).mono fun μ1 G1 x st1 H1 f1 k1 h1 => ?_⟩
  obtain ⟨kk, rfl, h1⟩ := onB_done (α := Unit) h1
  refine ⟨kk, rfl, ?_⟩
  cases kk with
  | true => exact ⟨vs, st1, μ1, G1, F, re.fut f1, k1, h1⟩
  | false => exact ⟨vs, st1, μ1, G1, F, re.fut f1, k1, h1⟩

/-! displays, subscripts, slices -/
theorem ma_nil : MA X W [] aNil := pa_nil.of fun σ H Q h => by
  obtain ⟨vs, st, μ, G, F, re, k, h⟩ := h
  exact Done.here k h [] .nil
theorem ma_cons (ha : ME X W e ma) (hr : MA X W es ms) (hs : starEach (e :: es) X.env = (false, eval e X.env) :: starEach es X.env := by rfl) : MA X W (e :: es) (aCons ma ms) := (pa_cons ha hr hs).of fun σ H Q h => by
  obtain ⟨vs, st, μ, G, F, re, k, h⟩ := h
  refine ⟨vs, st, μ, G, F, re, k, (Done.bind h).mono fun μ1 G1 x st1 H1 f1 k1 h1 v rv => ?_⟩
  refine ⟨vs, st1, μ1, G1, F, re.fut f1, k1, (Done.bind h1).mono fun μ2 G2 xs st2 H2 f2 k2 h2 ws rws => ?_⟩
  exact Done.here k2 h2 _ (.cons (rv.fut f2) rws)
theorem m_tup {j : Nat} (h : MA X W es ms) : ME X W (.Tuple es j pos) (eTup ms) := (pe_tup h).of fun σ H Q h => by
  obtain ⟨vs, st, μ, G, F, re, k, h⟩ := h
  refine ⟨vs, st, μ, G, F, re, k, (Done.bind h).mono fun μ1 G1 xs st1 H1 f1 k1 h1 ws rws => ?_⟩
  obtain ⟨hr, h1⟩ := ite_done h1
  exact ⟨by rw [rws.length]; exact room_line hr, new_tup k1 rws h1⟩
theorem m_lst (n : Bool) (h : MA X W es ms) : ME X W (.List es pos) (eLst n ms) := (pe_lst h).of fun σ H Q h => by
  obtain ⟨vs, st, μ, G, F, re, k, h⟩ := h
  refine ⟨vs, st, μ, G, F, re, k, (Done.bind h).mono fun μ1 G1 xs st1 H1 f1 k1 h1 ws rws => ?_⟩
  obtain ⟨hr, h1⟩ := ite_done h1
  exact ⟨by rw [rws.length]; exact room_line hr, new_list k1 rws h1⟩
theorem m_ix (ha : ME X W a ma) (hb : ME X W b mb) (hs : PlainIx b := by exact fun _ _ => rfl) : ME X W (.Subscript a b pos) (e2 ixD ma mb) := (pe_ix ix_seq ha hb hs).of (two_of s_ix ha hb)
abbrev MO (X : Cx) (W : WX) (e : Option Expr) (m : Vars → Store → Re (Option Int)) : Prop := PO X e fun σ H Q => ∃ vs st μ G F, RepE X.K μ G vs σ ∧ Kn X.K X.mg μ G F st H ∧ Done X.K X.mg W σ μ G F (m vs st) fun _ _ o _ H' => Q o H'
theorem _root_.L2.PO.of {o : Option Expr} {t t' : TO} (h : PO X o t) (k : ∀ σ H Q, t' σ H Q → t σ H Q) : PO X o t' := ⟨fun pins s σ H Q I q => h.run pins s σ H Q I (k σ H Q q)⟩
theorem mo_none : MO X W none oNone := po_none.of fun σ H Q h => by
  obtain ⟨vs, st, μ, G, F, re, k, h⟩ := h
  exact Done.here k h
theorem mo_some (ha : ME X W a ma) : MO X W (some a) (oSome ma) := (po_some ha).of fun σ H Q h => by
  obtain ⟨vs, st, μ, G, F, re, k, h⟩ := h
  refine ⟨vs, st, μ, G, F, re, k, (Done.bind h).mono fun μ1 G1 x st1 H1 f1 k1 h1 v rv => ?_⟩
  split at h1
  · exact ⟨_, rep_int rv, Done.here k1 h1⟩
  · exact h1.elim
abbrev rSlB (K : PySem.W.Frag) : V → Option Int → Option Int → Hp → VK → Prop := fun x lo hi H Q => rSlA K x lo hi H Q ∨ rSlL K x lo hi H Q
theorem cut_all {ds : List D} {lo hi : Option Int} (h : HT.sIx ds.length 0 lo = 0 ∧ HT.sIx ds.length ds.length hi = ds.length) : cutD ds lo hi = ds := by
  unfold cutD
  rw [h.1, h.2, List.drop_zero, Nat.sub_zero, List.take_length]
theorem m_sl {lo hi : Option Expr} {ml mh : Vars → Store → Re (Option Int)} {p2 : Pos} (n : Bool) (ha : ME X W a ma) (hl : MO X W lo ml) (hu : MO X W hi mh) : ME X W (.Subscript a (.Slice lo hi none p2) pos) (eSl n ma ml mh) :=
  (pe_slice (sl_tupA.or sl_list) ha hl hu).of fun σ H Q h => by
    obtain ⟨vs, st, μ, G, F, re, k, h⟩ := h
    refine ⟨vs, st, μ, G, F, re, k, (Done.bind h).mono fun μ1 G1 x st1 H1 f1 k1 h1 v rv => ?_⟩
    refine ⟨vs, st1, μ1, G1, F, re.fut f1, k1, (Done.bind h1).mono fun μ2 G2 l st2 H2 f2 k2 h2 => ?_⟩
    refine ⟨vs, st2, μ2, G2, F, (re.fut f1).fut f2, k2, (Done.bind h2).mono fun μ3 G3 u st3 H3 f3 k3 h3 => ?_⟩
    have rv' := (rv.fut f2).fut f3
    unfold sliceD at h3
    split at h3
    · obtain ⟨p, ws, rfl, hs, rs⟩ := rep_tup rv'
      refine .inl ⟨p, ws, rfl, k3.ex.sqt hs, fun hw => ?_, fun hw => new_tup k3 (rs.cut l u) h3⟩
      rw [rs.length] at hw
      rw [cut_all hw] at h3
      exact fin_here k3 h3 rv'
    · exact h3.elim
    · split at h3
      · rename_i ds e
        obtain ⟨p, ws, rfl, hs, rs⟩ := lstOf_rep k3 rv' e
        exact .inr ⟨p, ws, rfl, .of hs, new_list k3 (rs.cut l u) h3⟩
      · exact h3.elim

/-! calls of what is built in -/
variable {x : Str} {p : Pos} {f : List D → Store → Re D} {r : List V → Hp → VK → Prop} {id T : String}
theorem n_of (hs : SN X.K X.mg f r) (ha : MA X W es ms) (σ : L2.St) (H : Hp) (Q : VK) (h : tE X.K X.mg W (eN f ms) σ H Q) : tCB r (tA X.K X.mg W ms) σ H Q := by
  obtain ⟨vs, st, μ, G, F, re, k, h⟩ := h
  exact ⟨vs, st, μ, G, F, re, k, (Done.bind h).mono fun μ1 G1 xs st1 H1 f1 k1 h1 ws rws => hs W σ μ1 G1 F st1 H1 xs ws Q k1 rws h1⟩
theorem m_bi (hc : CallR X (.builtin id) r) (hs : SN X.K X.mg f r) (hm : X.mg x = none) (hv : bootBuiltins x = some (.builtin id)) (ha : MA X W (e :: es) ms) (hg : Gl X x := by rfl) (hn : x ≠ "__name__" := by decide) (hdb : (x == ("__debug__" : Str)) = false := by decide)
    (he : starEach (e :: es) X.env = (false, eval e X.env) :: starEach es X.env := by rfl) (hpl : (backTo pos (starEach es X.env)).any (·.1) = false := by rfl) : ME X W (.Call (.Name x p) (e :: es) [] pos) (eN f ms) :=
  (pe_callB hc hg hm hv ha hn hdb he hpl).of (n_of hs ha)
theorem m_ty (hc : CallR X (.type T) r) (hs : SN X.K X.mg f r) (hm : X.mg x = none) (hv : bootBuiltins x = some (.type T)) (ha : MA X W (e :: es) ms) (hg : Gl X x := by rfl) (hn : x ≠ "__name__" := by decide) (hdb : (x == ("__debug__" : Str)) = false := by decide)
    (he : starEach (e :: es) X.env = (false, eval e X.env) :: starEach es X.env := by rfl) (hpl : (backTo pos (starEach es X.env)).any (·.1) = false := by rfl) : ME X W (.Call (.Name x p) (e :: es) [] pos) (eN f ms) :=
  (pe_callTy hc hg hm hv ha hn hdb he hpl).of (n_of hs ha)

/-! calls of defs -/
/-- what a def promises by its function -/
def spD (K : PySem.W.Frag) (mg : Str → Option Value) (n : Nat) (m : FnD) : Sp := fun vs H Q E => vs.length = n ∧ ∃ ds st μ G F, Reps K μ G ds vs ∧ Kn K mg μ G F st H ∧ Done K mg (fun cls d _ H' => E cls d H') [] μ G F (m ds st) (Fin K Q)
abbrev FnM (P : Program) (w : World) (K : PySem.W.Frag) (mg : Str → Option Value) (base : Heap) (k : Nat) (f : Addr) (fd : FuncData) (ps : List Str) (m : FnD) : Prop := FnOk P w K mg base (L2.CX P w) k f fd ps (spD K mg ps.length m)
theorem done_wish {K : PySem.W.Frag} {mg : Str → Option Value} {W W' : WX} {σ σ' : L2.St} {μ : List Addr} {G F : Hp} {r : Re D} {P : List Addr → Hp → D → Store → Hp → Prop} (h : Done K mg W σ μ G F r P) (hw : ∀ cls d H, W cls d σ H → W' cls d σ' H) : Done K mg W' σ' μ G F r P := by
  cases r with
  | bad => exact h
  | ok a st => exact h
  | exc e st => exact fun μ' G' H' cls dd f k x => hw _ _ _ (h μ' G' H' cls dd f k x)
/-- how many arguments -/
inductive ALen : EMs → Nat → Prop
  | nil : ALen aNil 0
  | cons {a : EM} {r : EMs} {n : Nat} : ALen r n → ALen (aCons a r) (n + 1)
theorem ALen.len {ms : EMs} {n : Nat} (h : ALen ms n) : ∀ {vs : Vars} {st : Store} {ds : List D} {st' : Store}, ms vs st = .ok ds st' → ds.length = n := by
  induction h with
  | nil =>
    intro vs st ds st' e
    injection e with e1 _
    subst e1
    rfl
  | @cons a r n _ ih =>
    intro vs st ds st' e
    have e' : ((a vs st).bind fun x st => (r vs st).bind fun xs st => .ok (x :: xs) st) = .ok ds st' := e
    cases h1 : a vs st with
    | bad => rw [h1] at e'; cases e'
    | exc ex s1 => rw [h1] at e'; cases e'
    | ok d s1 =>
      rw [h1] at e'
      have e2 : ((r vs s1).bind fun xs st => .ok (d :: xs) st) = .ok ds st' := e'
      cases h2 : r vs s1 with
      | bad => rw [h2] at e2; cases e2
      | exc ex s2 => rw [h2] at e2; cases e2
      | ok d2 s2 =>
        rw [h2] at e2
        injection e2 with e3 _
        subst e3
        rw [List.length_cons, ih h2]
variable {k : Nat} {fa : Addr} {fd : FuncData} {ps : List Str} {m : FnD}
theorem m_call (Fk : FnM X.prog X.w X.K X.mg X.base k fa fd ps m) (hr : Room k X.A) (hm : X.mg x = some (.ref fa)) (hk : PySem.W.keepIn X.K (.ref fa) = true) (hb : Binds X.K fd ps []) (tk : Takes X W)
    (ha : MA X W (e :: es) ms) (hms : ALen ms ps.length := by repeat constructor) (hg : Gl X x := by rfl) (hdb : (x == ("__debug__" : Str)) = false := by decide) (he : starEach (e :: es) X.env = (false, eval e X.env) :: starEach es X.env := by rfl)
    (hpl : (backTo pos (starEach es X.env)).any (·.1) = false := by rfl) : ME X W (.Call (.Name x p) (e :: es) [] pos) (eN m ms) := by
  refine (pe_callSD Fk hr hg hm hk hb .nil (fun σ => passAt tk σ) ha hdb he hpl).of fun σ H Q h => ?_
  obtain ⟨vs, st, μ, G, F, re, kn, h⟩ := h
  unfold eN at h
  cases hd : ms vs st with
  | bad => rw [hd] at h; exact h.elim
  | exc ex st1 =>
    rw [hd] at h
    exact ⟨vs, st, μ, G, F, re, kn, by rw [hd]; exact h⟩
  | ok ds st1 =>
    rw [hd] at h
    refine ⟨vs, st, μ, G, F, re, kn, ?_⟩
    rw [hd]
    intro μ1 G1 H1 f1 k1 ws rws
    refine ⟨by rw [List.append_nil, rws.length, hms.len hd], ds, st1, μ1, G1, F, by rw [List.append_nil]; exact rws, k1, ?_⟩
    exact done_wish (Done.fut f1 h) fun cls d H hw => hw
end
end Dn
namespace Dn
open PySem PySem.Spec PyProof.Rows L2

/-! ### what a statement does -/
inductive Rs where
  | bad
  | nx (vs : Vars) (st : Store)
  | ret (d : D) (st : Store)
  | brk (vs : Vars) (st : Store)
  | ct (vs : Vars) (st : Store)
  | exc (e : Exn) (vs : Vars) (st : Store)
abbrev SM := Vars → Store → Rs
/-- an expression's answer, then a statement's -/
def Re.thn {α : Type} (r : Re α) (vs : Vars) (k : α → Store → Rs) (_ : Lk k := Unit.unit) : Rs := match r with
  | .bad => .bad
  | .ok a st => k a st
  | .exc e st => .exc e vs st
def onS (d : D) (t f : Rs) : Rs := match d with
  | .bl true => t
  | .bl false => f
  | _ => .bad
def sNil : SM := fun vs st => .nx vs st
def Rs.seq (r : Rs) (b : SM) (_ : Lk b := Unit.unit) : Rs := match r with
  | .nx vs st => b vs st
  | r => r
def sSeq (a b : SM) : SM := fun vs st => (a vs st).seq b
def sExpr (m : EM) : SM := fun vs st => (m vs st).thn vs fun _ st => .nx vs st
def sRet (m : EM) : SM := fun vs st => (m vs st).thn vs fun d st => .ret d st
def sRetN : SM := fun _ st => .ret .non st
def sBrk : SM := fun vs st => .brk vs st
def sCt : SM := fun vs st => .ct vs st
def sIf (c : EM) (a b : SM) : SM := fun vs st => (c vs st).thn vs fun x st => onS x (a vs st) (b vs st)
/-- targets -/
abbrev TM := D → Vars → Option Vars
def gN (i : Nat) : TM := fun d vs => some (vs.set i (some d))
def gAll : List TM → List D → Vars → Option Vars
  | [], [], vs => some vs
  | t :: ts, d :: ds, vs => (t d vs).bind fun vs => gAll ts ds vs
  | _, _, _ => none
def gT (ts : List TM) : TM := fun d vs => match d with
  | .tup ds => gAll ts ds vs
  | _ => none
def sAsg (g : TM) (m : EM) : SM := fun vs st => (m vs st).thn vs fun d st => match g d vs with
  | some vs => .nx vs st
  | none => .bad
def sAug (i : Nat) (f : D → D → Store → Re D) (m : EM) : SM := fun vs st => match getV vs i with
  | some x => (m vs st).thn vs fun y st => (f x y st).thn vs fun z st => .nx (vs.set i (some z)) st
  | none => .bad
/-- names forgotten -/
def drp (l : List Nat) (vs : Vars) : Vars := l.foldl (fun vs i => vs.set i none) vs

section
variable (K : PySem.W.Frag) (mg : Str → Option Value) (W : WX)
def DoneS (μ : List Addr) (G F : Hp) (r : Rs) (D : Ends) : Prop := match r with
  | .bad => False
  | .nx vs st => ∀ μ' G' H' σ', Fut μ G μ' G' → Kn K mg μ' G' F st H' → RepE K μ' G' vs σ' → D.nx σ' H'
  | .brk vs st => ∀ μ' G' H' σ', Fut μ G μ' G' → Kn K mg μ' G' F st H' → RepE K μ' G' vs σ' → D.bk σ' H'
  | .ct vs st => ∀ μ' G' H' σ', Fut μ G μ' G' → Kn K mg μ' G' F st H' → RepE K μ' G' vs σ' → D.ct σ' H'
  | .ret d st => ∀ μ' G' H' v, Fut μ G μ' G' → Kn K mg μ' G' F st H' → Rep K μ' G' d v → D.rt v H'
  | .exc e vs st => ∀ μ' G' H' σ' cls dd, Fut μ G μ' G' → Kn K mg μ' G' F st H' → RepE K μ' G' vs σ' → RepX K mg μ' G' e cls dd → W cls dd σ' H'
def tS (m : SM) : TS := fun D σ H => ∃ vs st μ G F, RepE K μ G vs σ ∧ Kn K mg μ G F st H ∧ DoneS K mg W μ G F (m vs st) D
/-- σ' is σ but at some slots -/
def But (sl : List Nat) (σ σ' : L2.St) : Prop := σ'.length = σ.length ∧ ∀ j, j ∉ sl → σ'[j]? = σ[j]?
def gM (sl : List Nat) (t : TM) : TG := fun v σ H Q => ∃ d vs vs' μ G, Rep K μ G d v ∧ Ex G H ∧ RepE K μ G vs σ ∧ t d vs = some vs' ∧ ∀ σ', RepE K μ G vs' σ' → But sl σ σ' → Q σ' H
def gsM (sl : List Nat) (ts : List TM) : TGs := fun ws σ H Q => ∃ ds vs vs' μ G, Reps K μ G ds ws ∧ Ex G H ∧ RepE K μ G vs σ ∧ gAll ts ds vs = some vs' ∧ ∀ σ', RepE K μ G vs' σ' → But sl σ σ' → Q σ' H
end
abbrev MS (X : Cx) (W : WX) (s : Stmt) (m : SM) : Prop := PS X s (tS X.K X.mg W m)
abbrev MSs (X : Cx) (W : WX) (s : List Stmt) (m : SM) : Prop := PSs X s (tS X.K X.mg W m)
abbrev MG (X : Cx) (e : Expr) (sl : List Nat) (t : TM) : Prop := PG X e (gM X.K sl t)
abbrev MGs (X : Cx) (es : List Expr) (sl : List Nat) (ts : List TM) : Prop := PGs X es (gsM X.K sl ts)
theorem But.refl (sl : List Nat) (σ : L2.St) : But sl σ σ := ⟨rfl, fun _ _ => rfl⟩
theorem But.trans {sl sl' : List Nat} {σ σ1 σ2 : L2.St} (a : But sl σ σ1) (b : But sl' σ1 σ2) : But (sl ++ sl') σ σ2 :=
  ⟨b.1.trans a.1, fun j h => (b.2 j fun z => h (List.mem_append_right _ z)).trans (a.2 j fun z => h (List.mem_append_left _ z))⟩

section
variable {K : PySem.W.Frag} {mg : Str → Option Value} {W : WX} {μ μ' : List Addr} {G G' F : Hp}
theorem DoneS.fut {r : Rs} {D : Ends} (f : Fut μ G μ' G') (h : DoneS K mg W μ G F r D) : DoneS K mg W μ' G' F r D := by
  cases r with
  | bad => exact h
  | nx vs st => exact fun a b c d e => h a b c d (f.trans e)
  | brk vs st => exact fun a b c d e => h a b c d (f.trans e)
  | ct vs st => exact fun a b c d e => h a b c d (f.trans e)
  | ret d st => exact fun a b c d e => h a b c d (f.trans e)
  | exc e vs st => exact fun a b c d e g i => h a b c d e g (f.trans i)
theorem DoneS.mono {r : Rs} {D D' : Ends} (h : DoneS K mg W μ G F r D) (h1 : ∀ σ H, D.nx σ H → D'.nx σ H) (h2 : ∀ v H, D.rt v H → D'.rt v H) (h3 : ∀ σ H, D.bk σ H → D'.bk σ H) (h4 : ∀ σ H, D.ct σ H → D'.ct σ H) : DoneS K mg W μ G F r D' := by
  cases r with
  | bad => exact h
  | nx vs st => exact fun a b c d e f g => h1 _ _ (h a b c d e f g)
  | brk vs st => exact fun a b c d e f g => h3 _ _ (h a b c d e f g)
  | ct vs st => exact fun a b c d e f g => h4 _ _ (h a b c d e f g)
  | ret d st => exact fun a b c d e f g => h2 _ _ (h a b c d e f g)
  | exc e vs st => exact h
/-- an expression ahead of a statement's answer -/
theorem DoneS.thn {α : Type} {r : Re α} {vs : Vars} {σ : L2.St} {k : α → Store → Rs} {D : Ends} (re : RepE K μ G vs σ) (h : DoneS K mg W μ G F (r.thn vs k) D) :
    Done K mg W σ μ G F r fun μ' G' a st _ => DoneS K mg W μ' G' F (k a st) D := by
  cases r with
  | bad => exact h
  | ok a st => exact fun μ' G' H' f kn => DoneS.fut f h
  | exc e st => exact fun μ' G' H' cls dd f kn x => h μ' G' H' σ cls dd f kn (re.fut f) x
theorem onS_done {d : D} {r s : Rs} {E : Ends} (h : DoneS K mg W μ G F (onS d r s) E) : ∃ k, d = .bl k ∧ DoneS K mg W μ G F (if k = true then r else s) E := by
  cases d with
  | bl k =>
    refine ⟨k, rfl, ?_⟩
    cases k <;> exact h
  | _ => exact h.elim
end
section
variable {X : Cx} {W : WX} {e a b c : Expr} {es : List Expr} {m ma mb mc : EM} {s : Stmt} {rest body orelse : List Stmt} {n n' : SM} {pos : Pos}
theorem ms_nil : MSs X W [] sNil := pss_nil.of fun D σ H h => by
  obtain ⟨vs, st, μ, G, F, re, k, h⟩ := h
  exact h μ G H σ (.refl μ G) k re
theorem ms_cons (h1 : MS X W s n) (h2 : MSs X W rest n') : MSs X W (s :: rest) (sSeq n n') := (pss_cons h1 h2).of fun D σ H h => by
  obtain ⟨vs, st, μ, G, F, re, k, h⟩ := h
  refine ⟨vs, st, μ, G, F, re, k, ?_⟩
  unfold sSeq at h
  cases hr : n vs st with
  | nx vs1 st1 =>
    rw [hr] at h
    exact fun μ1 G1 H1 σ1 f1 k1 re1 => ⟨vs1, st1, μ1, G1, F, re1, k1, DoneS.fut f1 h⟩
  | bad => rw [hr] at h; exact h
  | brk vs1 st1 => rw [hr] at h; exact h
  | ct vs1 st1 => rw [hr] at h; exact h
  | ret d st1 => rw [hr] at h; exact h
  | exc ex vs1 st1 => rw [hr] at h; exact h
theorem ms_one (h1 : MS X W s n) : MSs X W [s] n := pss_one h1
theorem st_pass : MS X W (.Pass pos) sNil := ps_pass.of fun D σ H h => by
  obtain ⟨vs, st, μ, G, F, re, k, h⟩ := h
  exact h μ G H σ (.refl μ G) k re
theorem st_brk : MS X W (.Break pos) sBrk := ps_break.of fun D σ H h => by
  obtain ⟨vs, st, μ, G, F, re, k, h⟩ := h
  exact h μ G H σ (.refl μ G) k re
theorem st_ct : MS X W (.Continue pos) sCt := ps_continue.of fun D σ H h => by
  obtain ⟨vs, st, μ, G, F, re, k, h⟩ := h
  exact h μ G H σ (.refl μ G) k re
theorem st_expr (he : ME X W e m) (hs : swapsWith e none pos.line X.env = pure false := by rfl) : MS X W (.Expr e pos) (sExpr m) := (ps_expr he hs).of fun D σ H h => by
  obtain ⟨vs, st, μ, G, F, re, k, h⟩ := h
  exact ⟨vs, st, μ, G, F, re, k, (DoneS.thn re h).mono fun μ1 G1 x st1 H1 f1 k1 h1 v rv => h1 μ1 G1 H1 σ (.refl _ _) k1 (re.fut f1)⟩
theorem st_ret (he : ME X W e m) : MS X W (.Return (some e) pos) (sRet m) := (ps_ret he).of fun D σ H h => by
  obtain ⟨vs, st, μ, G, F, re, k, h⟩ := h
  exact ⟨vs, st, μ, G, F, re, k, (DoneS.thn re h).mono fun μ1 G1 x st1 H1 f1 k1 h1 v rv => h1 μ1 G1 H1 v (.refl _ _) k1 rv⟩
theorem st_retN : MS X W (.Return none pos) sRetN := ps_retN.of fun D σ H h => by
  obtain ⟨vs, st, μ, G, F, re, k, h⟩ := h
  exact h μ G H .non (.refl _ _) k .non
theorem st_if (hc : MT X W c mc) (ha : MSs X W body n) (hb : MSs X W orelse n') : MS X W (.If c body orelse pos) (sIf mc n n') := (ps_if hc ha hb).of fun D σ H h => by
  obtain ⟨vs, st, μ, G, F, re, k, h⟩ := h
  refine ⟨vs, st, μ, G, F, re, k, (DoneS.thn re h).mono fun μ1 G1 x st1 H1 f1 k1 h1 => ?_⟩
  obtain ⟨kk, rfl, h1⟩ := onS_done h1
  refine ⟨kk, rfl, ?_⟩
  cases kk with
  | true => exact ⟨vs, st1, μ1, G1, F, re.fut f1, k1, h1⟩
  | false => exact ⟨vs, st1, μ1, G1, F, re.fut f1, k1, h1⟩
/-! targets -/
theorem PG_of {t t' : TG} (h : PG X e t) (k : ∀ v σ H Q, t' v σ H Q → t v σ H Q) : PG X e t' := ⟨fun pins s σ H v u Q I r q => h.run pins s σ H v u Q I r (k v σ H Q q)⟩
theorem PGs_of {t t' : TGs} (h : PGs X es t) (k : ∀ v σ H Q, t' v σ H Q → t v σ H Q) : PGs X es t' := ⟨fun pins s σ H v u Q I r q => h.run pins s σ H v u Q I r (k v σ H Q q)⟩
theorem g_name (i : Nat) {x : Str} (hN : X.N.Nodup) (hi : X.N[i]? = some x := by rfl) (hx : Loc X.env.scope x := by first | exact Or.inl rfl | exact Or.inr rfl) (hf : X.fn x = true ∨ X.env.scope.names.lookup x = some .local := by first | exact .inl rfl | exact .inr rfl | assumption) : MG X (.Name x pos) [i] (gN i) :=
  PG_of (pg_name hN hi hx hf) fun v σ H Q h => by
    obtain ⟨d, vs, vs', μ, G, r, ex, re, e, q⟩ := h
    injection e with e
    subst e
    refine q _ (re.set r i) ⟨List.length_set, fun j hj => ?_⟩
    exact List.getElem?_set_ne fun z => hj (by simp [z])
theorem g_nil : MGs X [] [] [] := PGs_of pgs_nil fun ws σ H Q h => by
  obtain ⟨ds, vs, vs', μ, G, r, ex, re, e, q⟩ := h
  cases ds with
  | nil =>
    injection e with e
    subst e
    exact ⟨reps_nil r, q σ re (.refl _ _)⟩
  | cons d ds => cases e
theorem g_cons {t : TM} {ts : List TM} {sl sl' : List Nat} (h1 : MG X e sl t) (h2 : MGs X es sl' ts) (hs : (assignEach (e :: es) X.env).map (·.2) = assign e X.env :: (assignEach es X.env).map (·.2) := by rfl) : MGs X (e :: es) (sl ++ sl') (t :: ts) :=
  PGs_of (pgs_cons h1 h2 hs) fun ws σ H Q h => by
    obtain ⟨ds, vs, vs', μ, G, r, ex, re, e, q⟩ := h
    cases ds with
    | nil => cases e
    | cons d ds =>
      obtain ⟨v, ws', rfl, rv, rws⟩ := reps_cons r
      have e' : (t d vs).bind (fun vs => gAll ts ds vs) = some vs' := e
      cases ht : t d vs with
      | none => rw [ht] at e'; cases e'
      | some vs1 =>
        rw [ht] at e'
        exact ⟨v, ws', rfl, d, vs, vs1, μ, G, rv, ex, re, ht, fun σ1 re1 b1 => ⟨ds, vs1, vs', μ, G, rws, ex, re1, e', fun σ2 re2 b2 => q σ2 re2 (b1.trans b2)⟩⟩
theorem gAll_len : ∀ {ts : List TM} {ds : List D} {vs vs' : Vars}, gAll ts ds vs = some vs' → ds.length = ts.length
  | [], [], _, _, _ => rfl
  | [], _ :: _, _, _, h => by cases h
  | _ :: _, [], _, _, h => by cases h
  | t :: ts, d :: ds, vs, vs', h => by
    have h' : (t d vs).bind (fun vs => gAll ts ds vs) = some vs' := h
    cases ht : t d vs with
    | none => rw [ht] at h'; cases h'
    | some vs1 =>
      rw [ht] at h'
      rw [List.length_cons, List.length_cons, gAll_len h']
theorem g_tup {ts : List TM} {sl : List Nat} {j : Nat} (h : MGs X es sl ts) (hc : X.calm = true := by rfl) (hn : (assignEach es X.env).length = ts.length := by rfl) (hst : (assignEach es X.env).findIdx? (·.1) = none := by rfl) : MG X (.Tuple es j pos) sl (gT ts) :=
  PG_of (pg_tup hc h hn hst) fun v σ H Q h => by
    obtain ⟨d, vs, vs', μ, G, r, ex, re, e, q⟩ := h
    cases d with
    | tup ds =>
      obtain ⟨p, ws, rfl, hs, rs⟩ := rep_tup r
      exact ⟨p, ws, rfl, ex.sqt hs, by rw [rs.length]; exact gAll_len e, ds, vs, vs', μ, G, rs, ex, re, e, q⟩
    | _ => cases e
theorem asg_of {te : EM} {t : TM} {sl : List Nat} {tg : Expr} (D : Ends) (σ : L2.St) (H : Hp) (h : tS X.K X.mg W (sAsg t te) D σ H) : tAsg (tE X.K X.mg W te) (gM X.K sl t) D σ H := by
  obtain ⟨vs, st, μ, G, F, re, k, h⟩ := h
  refine ⟨vs, st, μ, G, F, re, k, (DoneS.thn re h).mono fun μ1 G1 x st1 H1 f1 k1 h1 v rv => ?_⟩
  split at h1
  · rename_i vs' e
    exact ⟨x, vs, vs', μ1, G1, rv, k1.ex, re.fut f1, e, fun σ' re' _ => h1 μ1 G1 H1 σ' (.refl _ _) k1 re'⟩
  · exact h1.elim
theorem st_asg {tg : Expr} {t : TM} {sl : List Nat} (he : ME X W e m) (hg : MG X tg sl t) (hs : swapsWithSole [tg] e pos.line X.env = pure false := by rfl) (hw : swappedStores [tg] e X.env = pure none := by rfl) (h1 : (assignEach [tg] X.env).map (·.2) = [assign tg X.env] := by rfl) :
    MS X W (.Assign [tg] e pos) (sAsg t m) := (ps_asg he hg hs hw h1).of fun D σ H h => asg_of (tg := tg) D σ H h
theorem st_set (i : Nat) {x : Str} {pos' : Pos} (hN : X.N.Nodup) (he : ME X W e m) (hi : X.N[i]? = some x := by rfl) (hx : Loc X.env.scope x := by first | exact Or.inl rfl | exact Or.inr rfl) (hs : swapsWith e (some (.Name x pos')) pos.line X.env = pure false := by rfl) (hf : X.fn x = true ∨ X.env.scope.names.lookup x = some .local := by first | exact .inl rfl | exact .inr rfl | assumption) :
    MS X W (.Assign [.Name x pos'] e pos) (sAsg (gN i) m) := (ps_set hN hi hx he hs hf).of fun D σ H h => by
  obtain ⟨vs, st, μ, G, F, re, k, h⟩ := h
  exact ⟨vs, st, μ, G, F, re, k, (DoneS.thn re h).mono fun μ1 G1 x st1 H1 f1 k1 h1 v rv => h1 μ1 G1 H1 _ (.refl _ _) k1 ((re.fut f1).set rv i)⟩
theorem st_aug (i : Nat) {x : Str} {op : Operator} {r : R2} {f : D → D → Store → Re D} {pos' : Pos} (hN : X.N.Nodup) (ho : OpR X (inplaceOp op) r) (hsf : S2 X.K X.mg f r) (he : ME X W e m) (hi : X.N[i]? = some x := by rfl) (hx : Loc X.env.scope x := by first | exact Or.inl rfl | exact Or.inr rfl) (hf : X.fn x = true ∨ X.env.scope.names.lookup x = some .local := by first | exact .inl rfl | exact .inr rfl | assumption) :
    MS X W (.AugAssign (.Name x pos') op e pos) (sAug i f m) := (ps_aug (ti := r) hN hi hx he (fun pins s σ H x y v u Q I rx ry h => ho pins s σ H x y v u Q I rx ry h) hf).of fun D σ H h => by
  obtain ⟨vs, st, μ, G, F, re, k, h⟩ := h
  unfold sAug getV at h
  cases hv : vs[i]? with
  | none => rw [hv] at h; exact h.elim
  | some o =>
    cases o with
    | none => rw [hv] at h; exact h.elim
    | some d =>
      rw [hv] at h
      obtain ⟨v, e, rd⟩ := re.get i d hv
      refine ⟨v, e, vs, st, μ, G, F, re, k, (DoneS.thn re h).mono fun μ1 G1 y st1 H1 f1 k1 h1 w rw' => ?_⟩
      refine hsf W σ μ1 G1 F st1 H1 d y v w _ k1 (rd.fut f1) rw' ((DoneS.thn (re.fut f1) h1).mono fun μ2 G2 z st2 H2 f2 k2 h2 u ru => ?_)
      exact h2 μ2 G2 H2 _ (.refl _ _) k2 (((re.fut f1).fut f2).set ru i)

/-! ### while -/
def wGo (c : EM) (b : SM) : Nat → Vars → Store → Option Rs
  | 0, _, _ => none
  | n + 1, vs, st => match c vs st with
    | .bad => some .bad
    | .exc e st => some (.exc e vs st)
    | .ok d st => match d with
      | .bl true => match b vs st with
        | .nx vs st => wGo c b n vs st
        | .ct vs st => wGo c b n vs st
        | .brk vs st => some (.nx vs st)
        | r => some r
      | .bl false => some (.nx vs st)
      | _ => some .bad
theorem wGo_succ {c : EM} {b : SM} : ∀ {n : Nat} {vs : Vars} {st : Store} {r : Rs}, wGo c b n vs st = some r → wGo c b (n + 1) vs st = some r
  | 0, _, _, _, h => by cases h
  | n + 1, vs, st, r, h => by
    unfold wGo at h ⊢
    cases hc : c vs st with
    | bad => rw [hc] at h; exact h
    | exc e st1 => rw [hc] at h; exact h
    | ok d st1 =>
      rw [hc] at h
      cases d with
      | bl k =>
        cases k with
        | false => exact h
        | true =>
          cases hb : b vs st1 with
          | nx vs2 st2 =>
            simp only [hb] at h ⊢
            exact wGo_succ h
          | ct vs2 st2 =>
            simp only [hb] at h ⊢
            exact wGo_succ h
          | bad => simp only [hb] at h ⊢; exact h
          | ret d st2 => simp only [hb] at h ⊢; exact h
          | brk vs2 st2 => simp only [hb] at h ⊢; exact h
          | exc e vs2 st2 => simp only [hb] at h ⊢; exact h
      | _ => exact h
theorem wGo_le {c : EM} {b : SM} {n k : Nat} {vs : Vars} {st : Store} {r : Rs} (h : wGo c b n vs st = some r) : wGo c b (n + k) vs st = some r := by
  induction k with
  | zero => exact h
  | succ k ih => exact wGo_succ ih
theorem wGo_det {c : EM} {b : SM} {n k : Nat} {vs : Vars} {st : Store} {r r' : Rs} (h : wGo c b n vs st = some r) (h' : wGo c b k vs st = some r') : r = r' := by
  have h1 := wGo_le (k := k) h
  have h2 := wGo_le (k := n) h'
  rw [Nat.add_comm k n] at h2
  rw [h1] at h2
  exact Option.some.inj h2
open Classical in
noncomputable def sWhile (c : EM) (b : SM) : SM := fun vs st => if h : ∃ r n, wGo c b n vs st = some r then h.choose else .bad
theorem sWhile_eq {c : EM} {b : SM} {n : Nat} {vs : Vars} {st : Store} {r : Rs} (h : wGo c b n vs st = some r) : sWhile c b vs st = r := by
  unfold sWhile
  have h' : ∃ r n, wGo c b n vs st = some r := ⟨r, n, h⟩
  rw [dif_pos h']
  obtain ⟨k, hk⟩ := h'.choose_spec
  exact wGo_det hk h
theorem sWhile_some {c : EM} {b : SM} {vs : Vars} {st : Store} (h : sWhile c b vs st ≠ .bad) : ∃ n, wGo c b n vs st = some (sWhile c b vs st) := by
  by_cases h' : ∃ r n, wGo c b n vs st = some r
  · obtain ⟨r, n, e⟩ := h'
    exact ⟨n, by rw [sWhile_eq e]; exact e⟩
  · exfalso
    apply h
    unfold sWhile
    rw [dif_neg h']
/-- one turn -/
theorem sWhile_turn {c : EM} {b : SM} {vs vs1 : Vars} {st st1 st2 : Store} (hc : c vs st = .ok (.bl true) st1) (hb : b vs st1 = .nx vs1 st2) : sWhile c b vs st = sWhile c b vs1 st2 := by
  by_cases h' : ∃ r n, wGo c b n vs1 st2 = some r
  · obtain ⟨r, n, e⟩ := h'
    rw [sWhile_eq e]
    refine sWhile_eq (n := n + 1) ?_
    unfold wGo
    rw [hc]
    simp only [hb]
    exact e
  · have e1 : sWhile c b vs1 st2 = .bad := by
      unfold sWhile
      rw [dif_neg h']
    rw [e1]
    unfold sWhile
    rw [dif_neg]
    rintro ⟨r, n, e⟩
    cases n with
    | zero => cases e
    | succ n =>
      unfold wGo at e
      rw [hc] at e
      simp only [hb] at e
      exact h' ⟨r, n, e⟩
theorem sWhile_end {c : EM} {b : SM} {vs : Vars} {st st1 : Store} (hc : c vs st = .ok (.bl false) st1) : sWhile c b vs st = .nx vs st1 := by
  refine sWhile_eq (n := 1) ?_
  unfold wGo
  rw [hc]
theorem st_while (hp : PassesOwn (model X.prog X.w) X.A X.env X.xe) (hc : MT X W c mc) (hb : MSs X W body n) : MS X W (.While c body [] pos) (sWhile mc n) := (ps_while hp hc hb).of fun D σ H h => by
  obtain ⟨vs, st, μ, G, F, re, k, h⟩ := h
  have hne : sWhile mc n vs st ≠ .bad := fun e => by rw [e] at h; exact h
  obtain ⟨n0, e0⟩ := sWhile_some hne
  refine ⟨fun m σ H => ∃ vs st μ G F r, RepE X.K μ G vs σ ∧ Kn X.K X.mg μ G F st H ∧ wGo mc n m vs st = some r ∧ DoneS X.K X.mg W μ G F r D, ⟨n0, vs, st, μ, G, F, _, re, k, e0, h⟩, ?_⟩
  rintro m σ H ⟨vs, st, μ, G, F, r, re, k, e, h⟩
  cases m with
  | zero => cases e
  | succ m =>
    unfold wGo at e
    refine ⟨vs, st, μ, G, F, re, k, ?_⟩
    cases hc : mc vs st with
    | bad =>
      rw [hc] at e
      injection e with e
      subst e
      exact h
    | exc ex st1 =>
      rw [hc] at e
      injection e with e
      subst e
      exact fun μ' G' H' cls dd f kn x => h μ' G' H' σ cls dd f kn (re.fut f) x
    | ok d st1 =>
      rw [hc] at e
      intro μ1 G1 H1 f1 k1
      cases d with
      | bl kk =>
        refine ⟨kk, rfl, ?_⟩
        cases kk with
        | false =>
          injection e with e
          subst e
          rw [if_neg Bool.false_ne_true]
          exact h μ1 G1 H1 σ f1 k1 (re.fut f1)
        | true =>
          rw [if_pos rfl]
          refine ⟨fun σ' H' => ∃ vs st μ G F r, RepE X.K μ G vs σ' ∧ Kn X.K X.mg μ G F st H' ∧ wGo mc n m vs st = some r ∧ DoneS X.K X.mg W μ G F r D, fun σ' H' ⟨vs, st, μ, G, F, r, q⟩ => ⟨m, Nat.lt_succ_self m, vs, st, μ, G, F, r, q⟩, vs, st1, μ1, G1, F, re.fut f1, k1, ?_⟩
          have h1 := DoneS.fut f1 h
          cases hb : n vs st1 with
          | nx vs2 st2 =>
            simp only [hb] at e
            exact fun μ2 G2 H2 σ2 f2 k2 re2 => ⟨vs2, st2, μ2, G2, F, r, re2, k2, e, DoneS.fut f2 h1⟩
          | ct vs2 st2 =>
            simp only [hb] at e
            exact fun μ2 G2 H2 σ2 f2 k2 re2 => ⟨vs2, st2, μ2, G2, F, r, re2, k2, e, DoneS.fut f2 h1⟩
          | bad => simp only [hb] at e; injection e with e; subst e; exact h1
          | ret d st2 => simp only [hb] at e; injection e with e; subst e; exact h1
          | brk vs2 st2 => simp only [hb] at e; injection e with e; subst e; exact h1
          | exc ex vs2 st2 => simp only [hb] at e; injection e with e; subst e; exact h1
      | _ =>
        injection e with e
        subst e
        exact h.elim
end
end Dn
namespace Dn
open PySem PySem.Spec PyProof.Rows L2

/-! ### what is guarded for a while -/
section
variable {K : PySem.W.Frag} {mg : Str → Option Value} {μ : List Addr} {G F : Hp} {st : Store} {H : Hp} {p : Addr} {o o' : HO} {ob : Ob}
theorem Kn.guard (k : Kn K mg μ G F st H) (hp : H p = none) : Kn K mg μ G (upd F p o) st (upd H p o) := by
  have gp : G p = none := k.ex.free hp
  have fp : F p = none := k.fr.free hp
  have hm : ∀ a ∈ μ, a ≠ p := fun a ha z => k.there a ha (by rw [z]; exact hp)
  refine ⟨k.ex.mut gp, fun a u e => ?_, fun a u e => ?_, k.len, k.inj, fun n ob e => ?_, fun a ha => ?_, fun a ha => ?_⟩
  · by_cases h : a = p
    · subst h; rw [upd_same] at e ⊢; exact e
    · rw [upd_ne h] at e ⊢; exact k.fr a u e
  · by_cases h : a = p
    · subst h; exact gp
    · rw [upd_ne h] at e; exact k.sep a u e
  · obtain ⟨a, u, h1, h2, h3, h4, h5⟩ := k.cell n ob e
    have ha := hm a (List.mem_of_getElem? h1)
    exact ⟨a, u, h1, h2, by rw [upd_ne ha]; exact h3, by rw [upd_ne ha]; exact h4, h5⟩
  · rw [upd_ne (hm a ha)]; exact k.there a ha
  · rw [upd_ne (hm a ha)]; exact k.out a ha
theorem Kn.notin (k : Kn K mg μ G (upd F p o) st H) : ∀ a ∈ μ, a ≠ p := fun a ha z => by
  have := k.out a ha
  rw [z, upd_same] at this
  cases this
theorem Kn.gfree (k : Kn K mg μ G (upd F p o) st H) : G p = none := k.sep p o upd_same
theorem Kn.gat (k : Kn K mg μ G (upd F p o) st H) : H p = some o := k.fr p o upd_same
theorem Kn.reguard (k : Kn K mg μ G (upd F p o) st H) : Kn K mg μ G (upd F p o') st (upd H p o') := by
  have hm := k.notin
  refine ⟨k.ex.mut k.gfree, fun a u e => ?_, fun a u e => ?_, k.len, k.inj, fun n ob e => ?_, fun a ha => ?_, fun a ha => ?_⟩
  · by_cases h : a = p
    · subst h; rw [upd_same] at e ⊢; exact e
    · rw [upd_ne h] at e ⊢; exact k.fr a u (by rw [upd_ne h]; exact e)
  · by_cases h : a = p
    · subst h; exact k.gfree
    · rw [upd_ne h] at e; exact k.sep a u (by rw [upd_ne h]; exact e)
  · obtain ⟨a, u, h1, h2, h3, h4, h5⟩ := k.cell n ob e
    have ha := hm a (List.mem_of_getElem? h1)
    exact ⟨a, u, h1, h2, by rw [upd_ne ha] at h3 ⊢; exact h3, by rw [upd_ne ha]; exact h4, h5⟩
  · rw [upd_ne (hm a ha)]; exact k.there a ha
  · have := k.out a ha
    rw [upd_ne (hm a ha)] at this ⊢
    exact this
/-- F itself has nothing there -/
theorem Kn.unguard (k : Kn K mg μ G (upd F p o) st H) (hf : F p = none) : Kn K mg μ G F st H := by
  have hm := k.notin
  refine ⟨k.ex, fun a u e => k.fr a u (by rw [upd_ne (ne_of_none e hf)]; exact e), fun a u e => k.sep a u (by rw [upd_ne (ne_of_none e hf)]; exact e), k.len, k.inj, fun n ob e => ?_, k.there, fun a ha => ?_⟩
  · obtain ⟨a, u, h1, h2, h3, h4, h5⟩ := k.cell n ob e
    have ha := hm a (List.mem_of_getElem? h1)
    exact ⟨a, u, h1, h2, by rw [upd_ne ha] at h3; exact h3, h4, h5⟩
  · have := k.out a ha
    rw [upd_ne (hm a ha)] at this
    exact this
/-- what was guarded is known for ever -/
theorem Kn.release (k : Kn K mg μ G (upd F p o) st H) (hf : F p = none) : Kn K mg μ (upd G p o) F st H := by
  have k' := k.unguard hf
  have hm := k.notin
  have f : Fut μ G μ (upd G p o) := .know (.new k.gfree)
  refine ⟨fun a u e => ?_, k'.fr, fun a u e => ?_, k.len, k.inj, fun n ob e => ?_, k.there, k'.out⟩
  · by_cases h : a = p
    · subst h; rw [upd_same] at e; rw [← e]; exact k.gat
    · rw [upd_ne h] at e; exact k.ex a u e
  · have h : a ≠ p := ne_of_none e hf
    rw [upd_ne h]
    exact k'.sep a u e
  · obtain ⟨a, u, h1, h2, h3, h4, h5⟩ := k'.cell n ob e
    have ha := hm a (List.mem_of_getElem? h1)
    exact ⟨a, u, h1, by rw [upd_ne ha]; exact h2, h3, h4, h5.fut f⟩
/-- .. is a place of the store -/
theorem Kn.place (k : Kn K mg μ G (upd F p o) st H) (hf : F p = none) (r : RepO K mg μ G p ob o) : Kn K mg (μ ++ [p]) G F (st ++ [some ob]) H := by
  have k' := k.unguard hf
  have hm := k.notin
  have f : Fut μ G (μ ++ [p]) G := ⟨⟨[p], rfl⟩, .refl G⟩
  refine ⟨k'.ex, k'.fr, k'.sep, by simp [k.len], List.nodup_append.mpr ⟨k.inj, by simp, fun a ha b hb => ?_⟩, fun n ob' e => ?_, fun a ha => ?_, fun a ha => ?_⟩
  · have : b = p := by simpa using hb
    rw [this]
    exact hm a ha
  · by_cases hn : n < st.length
    · rw [List.getElem?_append_left hn] at e
      obtain ⟨a, u, h1, h2, h3, h4, h5⟩ := k'.cell n ob' e
      exact ⟨a, u, f.at h1, h2, h3, h4, h5.fut f⟩
    · have hn' : n = st.length := by
        have := (List.getElem?_eq_some_iff.mp e).1
        rw [List.length_append] at this
        simp at this
        omega
      subst hn'
      rw [List.getElem?_append_right (Nat.le_refl _), Nat.sub_self] at e
      have e' : ob = ob' := by simpa using e
      subst e'
      exact ⟨p, o, by rw [← k.len, List.getElem?_append_right (Nat.le_refl _), Nat.sub_self]; rfl, k.gfree, hf, k.gat, r.fut f⟩
  · rcases List.mem_append.mp ha with h1 | h1
    · exact k.there a h1
    · have : a = p := by simpa using h1
      rw [this, k.gat]
      intro z
      cases z
  · rcases List.mem_append.mp ha with h1 | h1
    · exact k'.out a h1
    · have : a = p := by simpa using h1
      rw [this]
      exact hf
end

/-! ### what is walked -/
/-- the items, and the place of the list that must stay as it is meanwhile -/
abbrev Its := List D × List (Nat × Ob)
def grdL (st : Store) : List (Nat × Ob) → Prop
  | [] => True
  | p :: r => cell st p.1 = some p.2 ∧ grdL st r
abbrev IM := Vars → Store → Re Its
abbrev grd (it : Its) (st : Store) : Prop := grdL st it.2
section
variable (K : PySem.W.Frag) (mg : Str → Option Value) (W : WX)
def Wk (μ : List Addr) (G : Hp) (J : It) (it : Its) : Prop := ∀ μ' G' F st H, Fut μ G μ' G' → Kn K mg μ' G' F st H → grd it st →
  J.stop it.1.length H ∧ ∀ (i : Nat) (d : D), it.1[i]? = some d → J.go i H ∧ ∀ x H', J.yld i H x H' → ∃ G'', Fut μ' G' μ' G'' ∧ Kn K mg μ' G'' F st H' ∧ Rep K μ' G'' d x
def tI (m : IM) : TI := fun σ H R => ∃ vs st μ G F, RepE K μ G vs σ ∧ Kn K mg μ G F st H ∧ Done K mg W σ μ G F (m vs st) fun μ' G' it st' H' => grd it st' ∧ ∀ J, Wk K mg μ' G' J it → R J H'
end
abbrev MI (X : Cx) (W : WX) (tg iter : Expr) (m : IM) : Prop := PI X tg iter (tI X.K X.mg W m)
theorem _root_.L2.PI.of {X : Cx} {tg iter : Expr} {t t' : TI} (h : PI X tg iter t) (k : ∀ σ H R, t' σ H R → t σ H R) : PI X tg iter t' := ⟨fun pins s σ H R I q => h.run pins s σ H R I (k σ H R q)⟩
section
variable {X : Cx} {W : WX} {tg l a b c : Expr} {tl : TE} {ml ma mb : EM} {ms : EMs} {pos p : Pos}
/-- a list or a tuple -/
def iSq (K : PySem.W.Frag) (tl : TE) : TI := fun σ H R => tl σ H fun x H1 => ∃ a, x = .ref a ∧ ((∃ xs, SqL K H1 a xs) ∧ R (Itl K a) H1 ∨ (∃ xs, SqT K H1 a xs) ∧ R (Itt K a) H1)
theorem pi_sq (hl : PE X l tl) : PI X tg l (iSq X.K tl) := by
  refine ⟨fun pins s σ H R I h => ?_⟩
  refine thn (hl.run pins s σ H _ I h) fun v s1 ⟨x, H1, I1, r1, q1⟩ => ?_
  obtain ⟨a, e, q⟩ := q1
  subst e
  cases r1
  rcases q with ⟨⟨xs, hq⟩, q⟩ | ⟨⟨xs, hq⟩, q⟩
  · obtain ⟨its, rv, p, hz⟩ := I1.list hq
    refine wpAny_pyIter_list p.isList ?_
    refine ⟨s1.heap.objs.size, [s1.heap.objs.size], _, _, H1, rfl, I1.kept (t' := s1.toks) fun b o e => Heap.get?_push_of_some _ e, turn_list a _, ⟨_, Heap.get?_push_size _ rfl, rfl, rfl⟩, fun b hb => ?_, q⟩
    have e : b = s1.heap.objs.size := by simpa using hb
    subst e
    exact I1.fpOk (Nat.le_refl _) (I1.hok.fresh (Nat.le_refl _))
  · obtain ⟨its, rv, p, hz⟩ := I1.tuple hq
    refine wpAny_pyIter_tuple (show s1.heap.IsTuple a its.toArray from p) ?_
    refine ⟨s1.heap.objs.size, [s1.heap.objs.size], _, _, H1, rfl, I1.kept (t' := s1.toks) fun b o e => Heap.get?_push_of_some _ e, turn_tuple a _, ⟨_, Heap.get?_push_size _ rfl, rfl, rfl⟩, fun b hb => ?_, q⟩
    have e : b = s1.heap.objs.size := by simpa using hb
    subst e
    exact I1.fpOk (Nat.le_refl _) (I1.hok.fresh (Nat.le_refl _))
/-- the items of a list or a tuple -/
def itsOf (st : Store) : D → Option Its
  | .tup ds => some (ds, [])
  | .lst ds => some (ds, [])
  | .frz ds => some (ds, [])
  | .loc n => match lstAt st n with
    | some ds => some (ds, [(n, .lst ds)])
    | none => none
  | _ => none
theorem lstAt_of {st : Store} {n : Nat} {ds : List D} (h : cell st n = some (.lst ds)) : lstAt st n = some ds := by
  unfold lstAt
  rw [h]
def iE (m : EM) : IM := fun vs st => (m vs st).bind fun x st => match itsOf st x with
  | some it => .ok it st
  | none => .bad
theorem i_sq (hl : ME X W l ml) : MI X W tg l (iE ml) := (pi_sq hl).of fun σ H R h => by
  obtain ⟨vs, st, μ, G, F, re, k, h⟩ := h
  refine ⟨vs, st, μ, G, F, re, k, (Done.bind h).mono fun μ1 G1 x st1 H1 f1 k1 h1 v rv => ?_⟩
  split at h1
  · rename_i it e
    obtain ⟨g, q⟩ := Done.here k1 h1
    cases x with
    | tup ds =>
      injection e with e
      subst e
      obtain ⟨a, vs', rfl, hs, rs⟩ := rep_tup rv
      refine ⟨a, rfl, .inr ⟨⟨vs', k1.ex.sqt hs⟩, q _ fun μ2 G2 F2 st2 H2 f2 k2 _ => ?_⟩⟩
      have hs2 : SqT X.K H2 a vs' := k2.ex.sqt (f2.ex.sqt hs)
      refine ⟨⟨vs', hs2, by rw [rs.length]; exact Nat.le_refl _⟩, fun i d hd => ?_⟩
      obtain ⟨w, hw, rw'⟩ := rs.get hd
      refine ⟨⟨vs', w, hs2, hw⟩, fun y H3 hy => ?_⟩
      obtain ⟨rfl, hy⟩ := hy
      have := hy vs' hs2
      rw [hw] at this
      cases this
      exact ⟨G2, .refl _ _, k2, rw'.fut f2⟩
    | lst ds =>
      injection e with e
      subst e
      obtain ⟨a, vs', rfl, hs, rs⟩ := rep_lst rv
      refine ⟨a, rfl, .inl ⟨⟨vs', .of (k1.ex _ _ hs)⟩, q _ fun μ2 G2 F2 st2 H2 f2 k2 _ => ?_⟩⟩
      have hs2 : SqL X.K H2 a vs' := .of (k2.ex _ _ (f2.ex _ _ hs))
      refine ⟨⟨vs', hs2, by rw [rs.length]; exact Nat.le_refl _⟩, fun i d hd => ?_⟩
      obtain ⟨w, hw, rw'⟩ := rs.get hd
      refine ⟨⟨vs', w, hs2, hw⟩, fun y H3 hy => ?_⟩
      obtain ⟨rfl, hy⟩ := hy
      have := hy vs' hs2
      rw [hw] at this
      cases this
      exact ⟨G2, .refl _ _, k2, rw'.fut f2⟩
    | frz ds =>
      injection e with e
      subst e
      obtain ⟨a, vs', rfl, hs, rs⟩ := rep_frz rv
      refine ⟨a, rfl, .inl ⟨⟨vs', k1.ex.sql hs⟩, q _ fun μ2 G2 F2 st2 H2 f2 k2 _ => ?_⟩⟩
      have hs2 : SqL X.K H2 a vs' := k2.ex.sql (f2.ex.sql hs)
      refine ⟨⟨vs', hs2, by rw [rs.length]; exact Nat.le_refl _⟩, fun i d hd => ?_⟩
      obtain ⟨w, hw, rw'⟩ := rs.get hd
      refine ⟨⟨vs', w, hs2, hw⟩, fun y H3 hy => ?_⟩
      obtain ⟨rfl, hy⟩ := hy
      have := hy vs' hs2
      rw [hw] at this
      cases this
      exact ⟨G2, .refl _ _, k2, rw'.fut f2⟩
    | loc n =>
      unfold itsOf at e
      cases hc : lstAt st1 n with
      | none => simp only [hc] at e; cases e
      | some ds =>
        simp only [hc] at e
        injection e with e
        subst e
        obtain ⟨a, rfl, ha⟩ := rep_loc rv
        obtain ⟨a', vs', e', hs, rs⟩ := lstOf_rep (ds := ds) k1 rv hc
        cases e'
        refine ⟨a, rfl, .inl ⟨⟨vs', .of hs⟩, q _ fun μ2 G2 F2 st2 H2 f2 k2 g2 => ?_⟩⟩
        obtain ⟨a2, vs2, e2, hs2, rs2⟩ := lstOf_rep (d := .loc n) (ds := ds) k2 (.loc (f2.at ha)) (lstAt_of g2.1)
        cases e2
        have hs2 : SqL X.K H2 a vs2 := .of hs2
        refine ⟨⟨vs2, hs2, by rw [rs2.length]; exact Nat.le_refl _⟩, fun i d hd => ?_⟩
        obtain ⟨w, hw, rw'⟩ := rs2.get hd
        refine ⟨⟨vs2, w, hs2, hw⟩, fun y H3 hy => ?_⟩
        obtain ⟨rfl, hy⟩ := hy
        have := hy vs2 hs2
        rw [hw] at this
        cases this
        exact ⟨G2, .refl _ _, k2, rw'⟩
    | _ => cases e
  · exact h1.elim
/-- lo, lo + 1, .. -/
def rng (lo : Int) (n : Nat) : List D := (List.range n).map fun (i : Nat) => D.int (lo + (i : Int))
theorem wk_rng {K : PySem.W.Frag} {mg : Str → Option Value} {μ : List Addr} {G : Hp} {lo : Int} {n : Nat} : Wk K mg μ G (Itr lo n) (rng lo n, []) := by
  intro μ2 G2 F2 st2 H2 f2 k2 _
  have hl : (rng lo n).length = n := by simp [rng]
  refine ⟨by rw [hl]; exact Nat.le_refl _, fun i d hd => ?_⟩
  have hi : i < n := by
    have := (List.getElem?_eq_some_iff.mp hd).1
    rw [hl] at this
    exact this
  refine ⟨hi, fun y H3 hy => ?_⟩
  obtain ⟨rfl, rfl⟩ := hy
  have e : d = .int (lo + i) := by
    unfold rng at hd
    rw [List.getElem?_map, List.getElem?_range hi] at hd
    exact (Option.some.inj hd).symm
  subst e
  exact ⟨G2, .refl _ _, k2, .int⟩
def fitR (i : Int) : Prop := -(2 ^ 62) ≤ i ∧ i < 2 ^ 62
instance (i : Int) : Decidable (fitR i) := by unfold fitR; infer_instance
def iR (ms : EMs) : IM := fun vs st => (ms vs st).bind fun xs st => match xs with
  | [.int j] => if fitR j then .ok (rng 0 j.toNat, []) st else .bad
  | [.int i, .int j] => if fitR i ∧ fitR j then .ok (rng i (j - i).toNat, []) st else .bad
  | _ => .bad
theorem reps_one {K : PySem.W.Frag} {μ : List Addr} {G : Hp} {d : D} {ws : List V} (h : Reps K μ G [d] ws) : ∃ v, ws = [v] ∧ Rep K μ G d v := by
  obtain ⟨v, r, rfl, hv, ht⟩ := reps_cons h
  rw [reps_nil ht]
  exact ⟨v, rfl, hv⟩
theorem reps_two {K : PySem.W.Frag} {μ : List Addr} {G : Hp} {d e : D} {ws : List V} (h : Reps K μ G [d, e] ws) : ∃ v w, ws = [v, w] ∧ Rep K μ G d v ∧ Rep K μ G e w := by
  obtain ⟨v, r, rfl, hv, ht⟩ := reps_cons h
  obtain ⟨w, rfl, hw⟩ := reps_one ht
  exact ⟨v, w, rfl, hv, hw⟩
theorem ite_done' {α : Type} {c : Prop} [Decidable c] {r : Re α} {K : PySem.W.Frag} {mg : Str → Option Value} {W : WX} {σ : L2.St} {μ : List Addr} {G F : Hp} {P : List Addr → Hp → α → Store → Hp → Prop} (h : Done K mg W σ μ G F (if c then r else .bad) P) : c ∧ Done K mg W σ μ G F r P := by
  by_cases hc : c
  · rw [if_pos hc] at h; exact ⟨hc, h⟩
  · rw [if_neg hc] at h; exact h.elim
theorem i_rng1 (hm : X.mg "range" = none) (ha : MA X W [a] ms) (hms : ALen ms 1 := by repeat constructor) (hg : Gl X "range" := by rfl) (hs : starEach [a] X.env = [(false, eval a X.env)] := by rfl) : MI X W tg (.Call (.Name "range" p) [a] [] pos) (iR ms) :=
  (pi_range1 hg hm ha hs).of fun σ H R h => by
    obtain ⟨vs, st, μ, G, F, re, k, h⟩ := h
    unfold iR at h
    cases hd : ms vs st with
    | bad => rw [hd] at h; exact h.elim
    | exc ex st1 => rw [hd] at h; exact ⟨vs, st, μ, G, F, re, k, by rw [hd]; exact h⟩
    | ok ds st1 =>
      rw [hd] at h
      refine ⟨vs, st, μ, G, F, re, k, ?_⟩
      rw [hd]
      intro μ1 G1 H1 f1 k1 ws rws
      have hl := hms.len hd
      have h1 := Done.fut f1 h
      obtain ⟨d, rfl⟩ : ∃ d, ds = [d] := by
        match ds, hl with
        | [d], _ => exact ⟨d, rfl⟩
      obtain ⟨v, rfl, rv⟩ := reps_one rws
      cases d with
      | int j =>
        obtain ⟨hc, h1⟩ := ite_done' (α := Its) h1
        obtain ⟨_, q⟩ := Done.here k1 h1
        rw [rep_int rv]
        exact ⟨j, rfl, hc.1, hc.2, q _ wk_rng⟩
      | _ => exact h1.elim
theorem i_rng2 (hm : X.mg "range" = none) (ha : MA X W [a, b] ms) (hms : ALen ms 2 := by repeat constructor) (hg : Gl X "range" := by rfl) (hs : starEach [a, b] X.env = [(false, eval a X.env), (false, eval b X.env)] := by rfl) (hs2 : starEach [b] X.env = [(false, eval b X.env)] := by rfl) :
    MI X W tg (.Call (.Name "range" p) [a, b] [] pos) (iR ms) :=
  (pi_range2 hg hm ha hs hs2).of fun σ H R h => by
    obtain ⟨vs, st, μ, G, F, re, k, h⟩ := h
    unfold iR at h
    cases hd : ms vs st with
    | bad => rw [hd] at h; exact h.elim
    | exc ex st1 => rw [hd] at h; exact ⟨vs, st, μ, G, F, re, k, by rw [hd]; exact h⟩
    | ok ds st1 =>
      rw [hd] at h
      refine ⟨vs, st, μ, G, F, re, k, ?_⟩
      rw [hd]
      intro μ1 G1 H1 f1 k1 ws rws
      have hl := hms.len hd
      have h1 := Done.fut f1 h
      obtain ⟨d, e, rfl⟩ : ∃ d e, ds = [d, e] := by
        match ds, hl with
        | [d, e], _ => exact ⟨d, e, rfl⟩
      obtain ⟨v, w, rfl, rv, rw'⟩ := reps_two rws
      cases d with
      | int i =>
        cases e with
        | int j =>
          obtain ⟨⟨hc, hc'⟩, h1⟩ := ite_done' (α := Its) h1
          obtain ⟨_, q⟩ := Done.here k1 h1
          rw [rep_int rv, rep_int rw']
          exact ⟨i, j, rfl, ⟨hc.1, hc.2, hc'.1, hc'.2⟩, q _ wk_rng⟩
        | _ => exact h1.elim
      | _ => exact h1.elim
end

/-! ### for -/
open Classical in
noncomputable def forGo (g : TM) (b : SM) (fg : List Nat) (gd : Store → Prop) : List D → SM
  | [], vs, st => if gd st then .nx vs st else .bad
  | d :: ds, vs, st => if gd st then (match g d vs with
      | none => .bad
      | some vs1 => match b vs1 st with
        | .nx vs2 st2 => forGo g b fg gd ds (drp fg vs2) st2
        | .ct vs2 st2 => forGo g b fg gd ds (drp fg vs2) st2
        | .brk vs2 st2 => .nx (drp fg vs2) st2
        | r => r) else .bad
noncomputable def sFor (im : IM) (g : TM) (b : SM) (fg : List Nat) : SM := fun vs st => (im vs st).thn vs fun it st => forGo g b fg (grd it) it.1 (drp fg vs) st
theorem RepE.drp {K : PySem.W.Frag} {μ : List Addr} {G : Hp} {vs : Vars} {σ : L2.St} (h : RepE K μ G vs σ) : ∀ l : List Nat, RepE K μ G (drp l vs) σ
  | [] => h
  | i :: l => RepE.drp (h.drop i) l
section
variable {X : Cx} {W : WX} {tg iter : Expr} {body : List Stmt} {im : IM} {g : TM} {sl : List Nat} {b : SM} {pos : Pos}
theorem st_for (fg : List Nat) (hp : PassesOwn (model X.prog X.w) X.A X.env X.xe) (hi : MI X W tg iter im) (hg : MG X tg sl g) (hb : MSs X W body b) (hc : X.calm = true := by rfl)
    (hs : ∀ x, foldedSetIterable iter X.env x = pure x := by intro _; rfl) : MS X W (.For tg iter body [] pos) (sFor im g b fg) := (ps_for hp hc hi hg hb hs).of fun D σ H h => by
  obtain ⟨vs, st, μ, G, F, re, k, h⟩ := h
  refine ⟨vs, st, μ, G, F, re, k, (DoneS.thn re h).mono fun μ1 G1 it st1 H1 f1 k1 h1 => ?_⟩
  have h0 : grd it st1 := by
    cases e : it.1 with
    | nil =>
      rw [e] at h1
      unfold forGo at h1
      by_cases hq : grd it st1
      · exact hq
      · rw [if_neg hq] at h1; exact h1.elim
    | cons d ds =>
      rw [e] at h1
      unfold forGo at h1
      by_cases hq : grd it st1
      · exact hq
      · rw [if_neg hq] at h1; exact h1.elim
  refine ⟨h0, fun J hJ => ?_⟩
  refine ⟨fun i m σ H => m = it.1.length - i ∧ i ≤ it.1.length ∧ ∃ vs st μ' G', Fut μ1 G1 μ' G' ∧ RepE X.K μ' G' vs σ ∧ Kn X.K X.mg μ' G' F st H ∧ DoneS X.K X.mg W μ' G' F (forGo g b fg (grd it) (it.1.drop i) vs st) D,
    ⟨it.1.length, by simp, Nat.zero_le _, _, st1, μ1, G1, .refl _ _, (re.fut f1).drp fg, k1, h1⟩, ?_⟩
  rintro i m σ H ⟨rfl, hi, vs, st, μ2, G2, f2, re2, k2, h2⟩
  by_cases hlt : i < it.1.length
  · have hd : it.1.drop i = it.1[i] :: it.1.drop (i + 1) := List.drop_eq_getElem_cons hlt
    rw [hd] at h2
    unfold forGo at h2
    by_cases hq : grd it st
    · rw [if_pos hq] at h2
      obtain ⟨_, hgo⟩ := hJ μ2 G2 F st H f2 k2 hq
      obtain ⟨go, yl⟩ := hgo i _ (List.getElem?_eq_getElem hlt)
      refine .inr ⟨go, fun σ' H' => ∃ vs st μ' G', Fut μ1 G1 μ' G' ∧ RepE X.K μ' G' vs σ' ∧ Kn X.K X.mg μ' G' F st H' ∧ DoneS X.K X.mg W μ' G' F (forGo g b fg (grd it) (it.1.drop (i + 1)) vs st) D,
        fun σ' H' q => ⟨it.1.length - (i + 1), by omega, rfl, hlt, q⟩, fun x H' hy => ?_⟩
      obtain ⟨G3, f3, k3, r3⟩ := yl x H' hy
      cases hgd : g it.1[i] vs with
      | none => simp only [hgd] at h2; exact h2.elim
      | some vs1 =>
        simp only [hgd] at h2
        refine ⟨it.1[i], vs, vs1, μ2, G3, r3, k3.ex, re2.fut f3, hgd, fun σ4 re4 _ => ⟨vs1, st, μ2, G3, F, re4, k3, ?_⟩⟩
        have h3 := DoneS.fut f3 h2
        cases hb : b vs1 st with
        | nx vs5 st5 =>
          simp only [hb] at h3
          exact fun μ5 G5 H5 σ5 f5 k5 re5 => ⟨_, st5, μ5, G5, (f2.trans f3).trans f5, re5.drp fg, k5, DoneS.fut f5 h3⟩
        | ct vs5 st5 =>
          simp only [hb] at h3
          exact fun μ5 G5 H5 σ5 f5 k5 re5 => ⟨_, st5, μ5, G5, (f2.trans f3).trans f5, re5.drp fg, k5, DoneS.fut f5 h3⟩
        | brk vs5 st5 =>
          simp only [hb] at h3
          exact fun μ5 G5 H5 σ5 f5 k5 re5 => h3 μ5 G5 H5 σ5 f5 k5 (re5.drp fg)
        | bad => simp only [hb] at h3; exact h3
        | ret d st5 => simp only [hb] at h3; exact h3
        | exc e vs5 st5 => simp only [hb] at h3; exact h3
    · rw [if_neg hq] at h2; exact h2.elim
  · have e : i = it.1.length := by omega
    subst e
    rw [List.drop_length] at h2
    unfold forGo at h2
    by_cases hq : grd it st
    · rw [if_pos hq] at h2
      obtain ⟨hst, _⟩ := hJ μ2 G2 F st H f2 k2 hq
      exact .inl ⟨hst, h2 μ2 G2 H σ (.refl _ _) k2 re2⟩
    · rw [if_neg hq] at h2; exact h2.elim
end

/-! ### comprehensions -/
def Re.okk {α β : Type} (r : Re α) (k : α → Store → Re β) (_ : Lk k := Unit.unit) : Re β := match r with
  | .ok a st => k a st
  | _ => .bad
open Classical in
noncomputable def compGo (g : TM) (t e : EM) (gd : Store → Prop) (vs : Vars) : List D → Store → Re (List D)
  | [], st => if gd st then .ok [] st else .bad
  | d :: ds, st => if gd st then (match g d vs with
      | none => .bad
      | some vs1 => (t vs1 st).okk fun x st1 => match x with
        | .bl true => (e vs1 st1).okk fun y st2 => (compGo g t e gd vs ds st2).okk fun ys st3 => .ok (y :: ys) st3
        | .bl false => compGo g t e gd vs ds st1
        | _ => .bad) else .bad
noncomputable def eComp (n : Bool) (im : IM) (g : TM) (t e : EM) (own : List Nat) : EM := fun vs st => (im vs st).bind fun it st => if room it.1.length then (compGo g t e (grd it) (drp own vs) it.1 st).okk fun ys st => mkNew n ys st else .bad
abbrev W0 : WX := fun _ _ _ _ => False
abbrev MTs (X : Cx) (W : WX) (ifs : List Expr) (m : EM) : Prop := PTs X ifs (tT X.K X.mg W m)
section
variable {X : Cx} {W : WX} {c : Expr} {m : EM}
theorem ts_nil : MTs X W [] (eC (.bl true)) := ⟨fun pins s σ H Q I h => pts_nil.run pins s σ H Q I (by
  obtain ⟨vs, st, μ, G, F, re, k, h⟩ := h
  obtain ⟨b, e, q⟩ := Done.here k h
  cases e
  exact q)⟩
theorem ts_one (h : MT X W c m) : MTs X W [c] m := pts_one h
end
theorem wipe_get {σ : L2.St} : ∀ {l : List Nat} {j : Nat}, j ∉ l → (wipe σ l)[j]? = σ[j]?
  | [], _, _ => rfl
  | v :: l, j, h => by
    unfold wipe
    rw [List.getElem?_set_ne (fun z => h (by simp [z])), wipe_get (fun z => h (List.mem_cons_of_mem _ z))]
theorem wipe_at {σ : L2.St} : ∀ {l : List Nat} {j : Nat}, j ∈ l → (wipe σ l)[j]? = if j < σ.length then some none else none
  | v :: l, j, h => by
    unfold wipe
    by_cases e : v = j
    · subst e
      by_cases hl : v < σ.length
      · rw [List.getElem?_set_self (by rw [wipe_length]; exact hl), if_pos hl]
      · rw [List.getElem?_eq_none (by rw [List.length_set, wipe_length]; omega), if_neg hl]
    · rw [List.getElem?_set_ne e]
      exact wipe_at (by
        rcases List.mem_cons.mp h with z | z
        · exact absurd z.symm e
        · exact z)
theorem wipe_but {σ σ2 : L2.St} {l sl : List Nat} (h : But sl (wipe σ l) σ2) (hs : ∀ j ∈ sl, j ∈ l) : wipe σ2 l = wipe σ l := by
  have hl : σ2.length = σ.length := by rw [h.1, wipe_length]
  refine List.ext_getElem? fun j => ?_
  by_cases hj : j ∈ l
  · rw [wipe_at hj, wipe_at hj, hl]
  · rw [wipe_get hj, h.2 j fun z => hj (hs j z)]
theorem drp_get {vs : Vars} : ∀ {l : List Nat} {j : Nat} {d : D}, (drp l vs)[j]? = some (some d) → j ∉ l ∧ vs[j]? = some (some d)
  | [], _, _, h => ⟨by simp, h⟩
  | i :: l, j, d, h => by
    have h' : (drp l (vs.set i none))[j]? = some (some d) := h
    obtain ⟨h1, h2⟩ := drp_get h'
    by_cases e : i = j
    · subst e
      by_cases hl : i < vs.length
      · rw [List.getElem?_set_self hl] at h2; cases h2
      · rw [List.getElem?_eq_none (by simpa using hl)] at h2; cases h2
    · rw [List.getElem?_set_ne e] at h2
      exact ⟨by simp only [List.mem_cons, not_or]; exact ⟨fun z => e z.symm, h1⟩, h2⟩
theorem drp_length {vs : Vars} : ∀ {l : List Nat}, (drp l vs).length = vs.length
  | [] => rfl
  | i :: l => by
    have : (drp l (vs.set i none)).length = (vs.set i none).length := drp_length
    rw [List.length_set] at this
    exact this
theorem RepE.wipe {K : PySem.W.Frag} {μ : List Addr} {G : Hp} {vs : Vars} {σ : L2.St} (h : RepE K μ G vs σ) (l : List Nat) : RepE K μ G (Dn.drp l vs) (L2.wipe σ l) := by
  refine ⟨by rw [drp_length, wipe_length, h.len], fun i d e => ?_⟩
  obtain ⟨h1, h2⟩ := drp_get e
  rw [wipe_get h1]
  exact h.get i d h2
section
variable {X : Cx} {W : WX} {tg iter elt : Expr} {ifs : List Expr} {scope : Scope} {own : List (Str × Nat)} {im : IM} {g : TM} {sl : List Nat} {mt me : EM} {pos : Pos}
theorem comp_of (n : Bool) (hsl : ∀ j ∈ sl, j ∈ own.map (·.2)) (σ : L2.St) (H : Hp) (Q : VK) (h : tE X.K X.mg W (eComp n im g mt me (own.map (·.2))) σ H Q) :
    tLc (tI X.K X.mg W im) (gM X.K sl g) (tT X.K X.mg W0 mt) (tE X.K X.mg W0 me) (own.map (·.2)) σ H Q := by
  obtain ⟨vs, st, μ, G, F, re, k, h⟩ := h
  generalize hown : own.map (·.2) = ow at hsl h ⊢
  refine ⟨vs, st, μ, G, F, re, k, (Done.bind h).mono fun μ1 G1 it st1 H1 f1 k1 h1 => ?_⟩
  obtain ⟨hr, h1⟩ := ite_done h1
  have h0 : grd it st1 := by
    by_cases hq : grd it st1
    · exact hq
    · exfalso
      cases e : it.1 with
      | nil =>
        rw [e] at h1
        unfold compGo at h1
        rw [if_neg hq] at h1
        exact h1
      | cons d ds =>
        rw [e] at h1
        unfold compGo at h1
        rw [if_neg hq] at h1
        exact h1
  refine ⟨h0, fun J hJ D hD => ?_⟩
  have fD : F D = none := k1.fr.free hD
  refine ⟨fun i m H => m = it.1.length - i ∧ i ≤ it.1.length ∧ ∃ acc av st μ' G', Fut μ1 G1 μ' G' ∧ Kn X.K X.mg μ' G' (upd F D (.lst av)) st H ∧ Reps X.K μ' G' acc av ∧ acc.length ≤ i ∧
      Done X.K X.mg W σ μ' G' F ((compGo g mt me (grd it) (drp ow vs) (it.1.drop i) st).okk fun ys st => mkNew n (acc ++ ys) st) (Fin X.K Q),
    ⟨it.1.length, by simp, Nat.zero_le _, [], [], st1, μ1, G1, .refl _ _, k1.guard hD, .nil, Nat.le_refl _, h1⟩, ?_⟩
  rintro i m H2 ⟨rfl, hi, acc, av, st2, μ2, G2, f2, k2, ra, hla, h2⟩
  by_cases hlt : i < it.1.length
  · have hd : it.1.drop i = it.1[i] :: it.1.drop (i + 1) := List.drop_eq_getElem_cons hlt
    rw [hd] at h2
    unfold compGo at h2
    by_cases hq : grd it st2
    · rw [if_pos hq] at h2
      obtain ⟨_, hgo⟩ := hJ μ2 G2 _ st2 H2 f2 k2 hq
      obtain ⟨go, yl⟩ := hgo i _ (List.getElem?_eq_getElem hlt)
      refine .inr ⟨go, fun H => ∃ acc av st μ' G', Fut μ1 G1 μ' G' ∧ Kn X.K X.mg μ' G' (upd F D (.lst av)) st H ∧ Reps X.K μ' G' acc av ∧ acc.length ≤ i + 1 ∧
          Done X.K X.mg W σ μ' G' F ((compGo g mt me (grd it) (drp ow vs) (it.1.drop (i + 1)) st).okk fun ys st => mkNew n (acc ++ ys) st) (Fin X.K Q),
        fun H' q => ⟨it.1.length - (i + 1), by omega, rfl, hlt, q⟩, fun x H' hy => ?_⟩
      obtain ⟨G3, f3, k3, r3⟩ := yl x H' hy
      cases hgd : g it.1[i] (drp ow vs) with
      | none => simp only [hgd] at h2; exact h2.elim
      | some vs1 =>
        simp only [hgd] at h2
        have re3 : RepE X.K μ2 G3 (drp ow vs) (wipe σ ow) := ((re.fut ((f1.trans f2).trans f3))).wipe ow
        refine ⟨it.1[i], drp ow vs, vs1, μ2, G3, r3, k3.ex, re3, hgd, fun σ4 re4 b4 => ⟨wipe_but b4 hsl, vs1, st2, μ2, G3, _, re4, k3, ?_⟩⟩
        have h3 := Done.fut f3 h2
        cases hmt : mt vs1 st2 with
        | bad => rw [hmt] at h3; exact h3
        | exc e st4 => rw [hmt] at h3; exact h3.elim
        | ok z st4 =>
          rw [hmt] at h3
          intro μ4 G4 H4 f4 k4
          have f14 : Fut μ1 G1 μ4 G4 := (f2.trans f3).trans f4
          cases z with
          | bl kk =>
            refine ⟨kk, rfl, ?_⟩
            cases kk with
            | false =>
              rw [if_neg Bool.false_ne_true]
              exact ⟨acc, av, st4, μ4, G4, f14, k4, ra.fut (f3.trans f4), Nat.le_succ_of_le hla, Done.fut f4 h3⟩
            | true =>
              rw [if_pos rfl]
              refine ⟨vs1, st4, μ4, G4, _, re4.fut f4, k4, ?_⟩
              have h4 := Done.fut f4 h3
              cases hme : me vs1 st4 with
              | bad =>
                have h4' : Done X.K X.mg W σ μ4 G4 F (((me vs1 st4).okk fun y st2 => (compGo g mt me (grd it) (drp ow vs) (it.1.drop (i + 1)) st2).okk fun ys st3 => .ok (y :: ys) st3).okk fun ys st => mkNew n (acc ++ ys) st) (Fin X.K Q) := h4
                rw [hme] at h4'
                exact h4'
              | exc e st5 =>
                have h4' : Done X.K X.mg W σ μ4 G4 F (((me vs1 st4).okk fun y st2 => (compGo g mt me (grd it) (drp ow vs) (it.1.drop (i + 1)) st2).okk fun ys st3 => .ok (y :: ys) st3).okk fun ys st => mkNew n (acc ++ ys) st) (Fin X.K Q) := h4
                rw [hme] at h4'
                exact h4'.elim
              | ok y st5 =>
                have h4' : Done X.K X.mg W σ μ4 G4 F (((me vs1 st4).okk fun y st2 => (compGo g mt me (grd it) (drp ow vs) (it.1.drop (i + 1)) st2).okk fun ys st3 => .ok (y :: ys) st3).okk fun ys st => mkNew n (acc ++ ys) st) (Fin X.K Q) := h4
                rw [hme] at h4'
                intro μ5 G5 H5 f5 k5 yv ry
                refine ⟨av, k5.gat, ?_, acc ++ [y], av ++ [yv], st5, μ5, G5, f14.trans f5, k5.reguard, ((ra.fut (f3.trans f4)).fut f5).append (.cons ry .nil), by simp; omega, ?_⟩
                · rw [ra.length]
                  exact room_lt (Nat.le_trans (by omega) hr)
                · have h5 := Done.fut f5 h4'
                  cases hc : compGo g mt me (grd it) (drp ow vs) (it.1.drop (i + 1)) st5 with
                  | bad =>
                    have h5' : Done X.K X.mg W σ μ5 G5 F (((compGo g mt me (grd it) (drp ow vs) (it.1.drop (i + 1)) st5).okk fun ys st3 => .ok (y :: ys) st3).okk fun ys st => mkNew n (acc ++ ys) st) (Fin X.K Q) := h5
                    rw [hc] at h5'
                    exact h5'
                  | exc e st6 =>
                    have h5' : Done X.K X.mg W σ μ5 G5 F (((compGo g mt me (grd it) (drp ow vs) (it.1.drop (i + 1)) st5).okk fun ys st3 => .ok (y :: ys) st3).okk fun ys st => mkNew n (acc ++ ys) st) (Fin X.K Q) := h5
                    rw [hc] at h5'
                    exact h5'
                  | ok ys st6 =>
                    have h5' : Done X.K X.mg W σ μ5 G5 F (((compGo g mt me (grd it) (drp ow vs) (it.1.drop (i + 1)) st5).okk fun ys st3 => .ok (y :: ys) st3).okk fun ys st => mkNew n (acc ++ ys) st) (Fin X.K Q) := h5
                    rw [hc] at h5'
                    have h6 : Done X.K X.mg W σ μ5 G5 F (mkNew n (acc ++ y :: ys) st6) (Fin X.K Q) := h5'
                    show Done X.K X.mg W σ μ5 G5 F (mkNew n (acc ++ [y] ++ ys) st6) (Fin X.K Q)
                    rw [List.append_assoc]
                    exact h6
          | _ => exact h3.elim
    · rw [if_neg hq] at h2; exact h2.elim
  · have e : i = it.1.length := by omega
    subst e
    rw [List.drop_length] at h2
    unfold compGo at h2
    by_cases hq : grd it st2
    · rw [if_pos hq] at h2
      obtain ⟨hst, _⟩ := hJ μ2 G2 _ st2 H2 f2 k2 hq
      refine .inl ⟨hst, ?_⟩
      have h3 : Done X.K X.mg W σ μ2 G2 F (mkNew n (acc ++ []) st2) (Fin X.K Q) := h2
      rw [List.append_nil] at h3
      cases n with
      | true =>
        refine h3 (μ2 ++ [D]) G2 H2 ⟨⟨[D], rfl⟩, .refl G2⟩ (k2.place fD ⟨av, rfl, ra⟩) _ (.loc ?_)
        rw [← k2.len, List.getElem?_append_right (Nat.le_refl _), Nat.sub_self]
        rfl
      | false =>
        have f : Fut μ2 G2 μ2 (upd G2 D (.lst av)) := .know (.new k2.gfree)
        exact h3 μ2 _ H2 f (k2.release fD) _ (.lst upd_same (ra.fut f))
    · rw [if_neg hq] at h2; exact h2.elim
theorem m_comp (n : Bool) (own : List (Str × Nat)) (hN : X.N.Nodup) (hi : MI X W tg iter im) (ok : BlkOk X.N X.env.scope scope own)
    (hg : ∀ (s : Shared) (H : Hp) (C : Addr) (cl : List (Str × Addr)) (fp : List Addr), MG (X.blk s H scope (compEnvC scope cl C X.env) fp) tg sl g)
    (ht : ∀ (s : Shared) (H : Hp) (C : Addr) (cl : List (Str × Addr)) (fp : List Addr), MTs (X.blk s H scope (compEnvC scope cl C X.env) fp) W0 ifs mt)
    (he : ∀ (s : Shared) (H : Hp) (C : Addr) (cl : List (Str × Addr)) (fp : List Addr), ME (X.blk s H scope (compEnvC scope cl C X.env) fp) W0 elt me)
    (hsl : ∀ j ∈ sl, j ∈ own.map (·.2) := by decide) (hc : X.calm = true := by rfl) (hs : ∀ x, foldedSetIterable iter X.env x = pure x := by intro _; rfl) : ME X W (.ListComp elt [⟨tg, iter, ifs, 0⟩] scope pos) (eComp n im g mt me (own.map (·.2))) :=
  (pe_lc hc hN hi ok hg ht he hs).of (comp_of n hsl)
theorem st_setLc (n : Bool) (i : Nat) {y : Str} {py spos : Pos} (own : List (Str × Nat)) (hN : X.N.Nodup) (hi : MI X W tg iter im) (ok : BlkOk X.N X.env.scope scope own)
    (hg : ∀ (s : Shared) (H : Hp) (C : Addr) (cl : List (Str × Addr)) (fp : List Addr), MG (X.blk s H scope (compEnvC scope cl C X.env) fp) tg sl g)
    (ht : ∀ (s : Shared) (H : Hp) (C : Addr) (cl : List (Str × Addr)) (fp : List Addr), MTs (X.blk s H scope (compEnvC scope cl C X.env) fp) W0 ifs mt)
    (he : ∀ (s : Shared) (H : Hp) (C : Addr) (cl : List (Str × Addr)) (fp : List Addr), ME (X.blk s H scope (compEnvC scope cl C X.env) fp) W0 elt me)
    (hsw : swapsWith (.ListComp elt [⟨tg, iter, ifs, 0⟩] scope pos) (some (.Name y py)) spos.line X.env = pure true)
    (hy : X.N[i]? = some y := by rfl) (hyl : X.env.scope.names.lookup y = some .local := by rfl) (hsl : ∀ j ∈ sl, j ∈ own.map (·.2) := by decide) (hc : X.calm = true := by rfl) (hs : ∀ x, foldedSetIterable iter X.env x = pure x := by intro _; rfl) :
    MS X W (.Assign [.Name y py] (.ListComp elt [⟨tg, iter, ifs, 0⟩] scope pos) spos) (sAsg (gN i) (eComp n im g mt me (own.map (·.2)))) :=
  (ps_setLc hc hN hy hyl hsw hi ok hg ht he hs).of fun D σ H h => by
    obtain ⟨vs, st, μ, G, F, re, k, h⟩ := h
    refine comp_of n hsl σ H _ ⟨vs, st, μ, G, F, re, k, (DoneS.thn re h).mono fun μ1 G1 x st1 H1 f1 k1 h1 v rv => ?_⟩
    exact h1 μ1 G1 H1 _ (.refl _ _) k1 ((re.fut f1).set rv i)
end
end Dn
namespace Dn
open PySem PySem.Spec PyProof.Rows L2

/-! ### a def's end: its own places are left -/
mutual
/-- all places are below n -/
def locsLt (n : Nat) : D → Bool
  | .loc m => decide (m < n)
  | .tup ds => locsLts n ds
  | .lst ds => locsLts n ds
  | .frz ds => locsLts n ds
  | .exn _ _ ds => locsLts n ds
  | _ => true
def locsLts (n : Nat) : List D → Bool
  | [] => true
  | d :: ds => locsLt n d && locsLts n ds
end
def obLt (n : Nat) : Ob → Bool
  | .lst ds => locsLts n ds
  | .dct kvs => kvs.all fun p => locsLt n p.2
  | .dtt kvs => kvs.all fun p => locsLt n p.2
  | .ins _ fs => fs.all fun p => locsLt n p.2
/-- a value without the places from n0 on: its lists by value -/
def reify (n0 : Nat) (st : Store) : Nat → D → Option D
  | 0, d => if locsLt n0 d then some d else none
  | k + 1, d => if locsLt n0 d then some d else match d with
    | .loc m => match lstAt st m with
      | some ds => (ds.mapM (reify n0 st k)).map .lst
      | none => none
    | .tup ds => (ds.mapM (reify n0 st k)).map .tup
    | .lst ds => (ds.mapM (reify n0 st k)).map .lst
    | .frz _ => none
    | .exn _ _ _ => none
    | d => some d
def keepOk (st0 st : Store) : Prop := ∀ i, i < st0.length → st[i]? = st0[i]? ∨ ∃ o, st[i]? = some o ∧ ∀ ob, o = some ob → obLt st0.length ob = true
open Classical in
noncomputable def gcRet (st0 : Store) (d : D) (st : Store) : Re D := if keepOk st0 st then (match reify st0.length st 4 d with
  | some d => .ok d (st.take st0.length)
  | none => .bad) else .bad
open Classical in
noncomputable def gcExc (st0 : Store) (e : Exn) (st : Store) : Re D := if keepOk st0 st ∧ (e.fs.all fun p => locsLt st0.length p.2) = true then .exc e (st.take st0.length) else .bad
def vars (n : Nat) (ds : List D) : Vars := ds.map some ++ List.replicate (n - ds.length) none
noncomputable def fnD (n : Nat) (b : SM) : FnD := fun ds st => match b (vars n ds) st with
  | .ret d st' => gcRet st d st'
  | .nx _ st' => gcRet st .non st'
  | .exc e _ st' => gcExc st e st'
  | _ => .bad
/-- .. its places are kept -/
def fnK (n : Nat) (b : SM) : FnD := fun ds st => match b (vars n ds) st with
  | .ret d st' => .ok d st'
  | .nx _ st' => .ok .non st'
  | .exc e _ st' => .exc e st'
  | _ => .bad
section
variable {K : PySem.W.Frag} {mg : Str → Option Value} {μ μ0 : List Addr} {G G' F : Hp} {st : Store} {H : Hp}
mutual
theorem rep_lt : ∀ {d : D} {v : V}, Rep K μ G d v → locsLt μ.length d = true
  | .non, _, _ => rfl
  | .bl _, _, _ => rfl
  | .int _, _, _ => rfl
  | .str _, _, _ => rfl
  | .tup ds, v, h => by
    obtain ⟨_, _, _, _, r⟩ := rep_tup h
    exact reps_lt r
  | .lst ds, v, h => by
    obtain ⟨_, _, _, _, r⟩ := rep_lst h
    exact reps_lt r
  | .frz ds, v, h => by
    obtain ⟨_, _, _, _, r⟩ := rep_frz h
    exact reps_lt r
  | .exn _ _ _, v, h => by
    obtain ⟨_, _, _, r⟩ := rep_exn h
    exact reps_lt r
  | .loc n, v, h => by
    obtain ⟨a, _, e⟩ := rep_loc h
    exact decide_eq_true (List.getElem?_eq_some_iff.mp e).1
theorem reps_lt : ∀ {ds : List D} {vs : List V}, Reps K μ G ds vs → locsLts μ.length ds = true
  | [], _, _ => rfl
  | d :: ds, vs, h => by
    obtain ⟨v, r, _, h1, h2⟩ := reps_cons h
    have e1 := rep_lt h1
    have e2 := reps_lt h2
    show (locsLt μ.length d && locsLts μ.length ds) = true
    rw [e1, e2]
    rfl
end
mutual
theorem rep_cut (l : List Addr) : ∀ {d : D} {v : V}, locsLt μ0.length d = true → Rep K (μ0 ++ l) G d v → Rep K μ0 G d v
  | .non, _, _, h => by rw [rep_non h]; exact .non
  | .bl _, _, _, h => by rw [rep_bl h]; exact .bl
  | .int _, _, _, h => by rw [rep_int h]; exact .int
  | .str _, _, _, h => by rw [rep_str h]; exact .str
  | .tup ds, v, e, h => by
    obtain ⟨_, _, rfl, s, r⟩ := rep_tup h
    exact .tup s (reps_cut l e r)
  | .lst ds, v, e, h => by
    obtain ⟨_, _, rfl, s, r⟩ := rep_lst h
    exact .lst s (reps_cut l e r)
  | .frz ds, v, e, h => by
    obtain ⟨_, _, rfl, s, r⟩ := rep_frz h
    exact .frz s (reps_cut l e r)
  | .exn _ _ _, v, e, h => by
    obtain ⟨_, rfl, s, r⟩ := rep_exn h
    exact .exn s (reps_cut l e r)
  | .loc n, v, e, h => by
    obtain ⟨a, rfl, s⟩ := rep_loc h
    have hn : n < μ0.length := of_decide_eq_true e
    rw [List.getElem?_append_left hn] at s
    exact .loc s
theorem reps_cut (l : List Addr) : ∀ {ds : List D} {vs : List V}, locsLts μ0.length ds = true → Reps K (μ0 ++ l) G ds vs → Reps K μ0 G ds vs
  | [], vs, _, h => by rw [reps_nil h]; exact .nil
  | d :: ds, vs, e, h => by
    obtain ⟨v, r, rfl, h1, h2⟩ := reps_cons h
    have e' : (locsLt μ0.length d && locsLts μ0.length ds) = true := e
    rw [Bool.and_eq_true] at e'
    exact .cons (rep_cut l e'.1 h1) (reps_cut l e'.2 h2)
end
theorem repKV_lt {κ : Type} : ∀ {kvs : List (κ × D)} {ps : List (κ × V)}, RepKV K μ G kvs ps → (kvs.all fun p => locsLt μ.length p.2) = true
  | [], _, _ => rfl
  | (k, d) :: r, ps, h => by
    obtain ⟨v, s, _, hv, t⟩ := h
    rw [List.all_cons, rep_lt hv, repKV_lt t]
    rfl
theorem repKV_cut {κ : Type} (l : List Addr) : ∀ {kvs : List (κ × D)} {ps : List (κ × V)}, (kvs.all fun p => locsLt μ0.length p.2) = true → RepKV K (μ0 ++ l) G kvs ps → RepKV K μ0 G kvs ps
  | [], _, _, h => h
  | (k, d) :: r, ps, e, h => by
    obtain ⟨v, s, e1, hv, t⟩ := h
    rw [List.all_cons, Bool.and_eq_true] at e
    exact ⟨v, s, e1, rep_cut l e.1 hv, repKV_cut l e.2 t⟩
theorem repF_lt : ∀ {kvs : List (Str × D)} {ps : List (Str × V)}, RepF K μ G kvs ps → (kvs.all fun p => locsLt μ.length p.2) = true
  | [], _, _ => rfl
  | (k, d) :: r, ps, h => by
    obtain ⟨v, s, _, hv, t⟩ := h
    rw [List.all_cons, rep_lt hv, repF_lt t]
    rfl
theorem repF_cut (l : List Addr) : ∀ {kvs : List (Str × D)} {ps : List (Str × V)}, (kvs.all fun p => locsLt μ0.length p.2) = true → RepF K (μ0 ++ l) G kvs ps → RepF K μ0 G kvs ps
  | [], _, _, h => h
  | (k, d) :: r, ps, e, h => by
    obtain ⟨v, s, e1, hv, t⟩ := h
    rw [List.all_cons, Bool.and_eq_true] at e
    exact ⟨v, s, e1, rep_cut l e.1 hv, repF_cut l e.2 t⟩
theorem repNK_lt : ∀ {kvs : List (NestedKey × D)} {ps : NPs}, RepNK K μ G kvs ps → (kvs.all fun p => locsLt μ.length p.2) = true
  | [], _, _ => rfl
  | (k, d) :: r, ps, h => by
    obtain ⟨b, v, s, _, _, _, hv, t⟩ := h
    rw [List.all_cons, rep_lt hv, repNK_lt t]
    rfl
mutual
theorem dkN_lt (n : Nat) : ∀ k : NestedKey, locsLt n (dkN k) = true
  | .none => rfl
  | .num _ => rfl
  | .text _ => rfl
  | .tup ks => dksN_lt n ks
theorem dksN_lt (n : Nat) : ∀ ks : List NestedKey, locsLts n (dksN ks) = true
  | [] => rfl
  | k :: ks => by
    show (locsLt n (dkN k) && locsLts n (dksN ks)) = true
    rw [dkN_lt n k, dksN_lt n ks]
    rfl
end
theorem repNK_cut (l : List Addr) : ∀ {kvs : List (NestedKey × D)} {ps : NPs}, (kvs.all fun p => locsLt μ0.length p.2) = true → RepNK K (μ0 ++ l) G kvs ps → RepNK K μ0 G kvs ps
  | [], _, _, h => h
  | (k, d) :: r, ps, e, h => by
    obtain ⟨b, v, s, e1, hk, hb, hv, t⟩ := h
    rw [List.all_cons, Bool.and_eq_true] at e
    exact ⟨b, v, s, e1, hk, rep_cut l (dkN_lt _ k) hb, rep_cut l e.1 hv, repNK_cut l e.2 t⟩
theorem repO_lt {a : Addr} {ob : Ob} {o : HO} (h : RepO K mg μ G a ob o) : obLt μ.length ob = true := by
  cases ob with
  | lst ds => obtain ⟨vs, _, r⟩ := h; exact reps_lt r
  | dct kvs => obtain ⟨vs, _, r⟩ := h; exact repKV_lt r
  | dtt kvs => obtain ⟨vs, _, _, _, r⟩ := h; exact repNK_lt r
  | ins c fs => obtain ⟨C, dx, gs, _, _, r⟩ := h; exact repF_lt r
theorem repO_cut (l : List Addr) {a : Addr} {ob : Ob} {o : HO} (e : obLt μ0.length ob = true) (h : RepO K mg (μ0 ++ l) G a ob o) : RepO K mg μ0 G a ob o := by
  cases ob with
  | lst ds => obtain ⟨vs, e1, r⟩ := h; exact ⟨vs, e1, reps_cut l e r⟩
  | dct kvs => obtain ⟨vs, e1, r⟩ := h; exact ⟨vs, e1, repKV_cut l e r⟩
  | dtt kvs => obtain ⟨vs, e1, z, y, r⟩ := h; exact ⟨vs, e1, z, y, repNK_cut l e r⟩
  | ins c fs => obtain ⟨C, dx, gs, e1, e2, r⟩ := h; exact ⟨C, dx, gs, e1, e2, repF_cut l e r⟩
/-- the places from n0 on are left -/
theorem Kn.cut {l : List Addr} {st0 : Store} {G0 H0 : Hp} (k0 : Kn K mg μ0 G0 F st0 H0) (k : Kn K mg (μ0 ++ l) G F st H) (ok : keepOk st0 st) : Kn K mg μ0 G F (st.take st0.length) H := by
  have hl : st0.length ≤ st.length := by rw [← k.len, List.length_append, k0.len]; omega
  refine ⟨k.ex, k.fr, k.sep, by rw [List.length_take, k0.len]; omega, (List.nodup_append.mp k.inj).1, fun n ob e => ?_, fun a ha => k.there a (List.mem_append_left _ ha), fun a ha => k.out a (List.mem_append_left _ ha)⟩
  have hn : n < st0.length := by
    have := (List.getElem?_eq_some_iff.mp e).1
    rw [List.length_take] at this
    omega
  rw [List.getElem?_take_of_lt hn] at e
  obtain ⟨a, o, h1, h2, h3, h4, h5⟩ := k.cell n ob e
  rw [List.getElem?_append_left (by rw [k0.len]; exact hn)] at h1
  refine ⟨a, o, h1, h2, h3, h4, repO_cut l ?_ h5⟩
  rcases ok n hn with z | ⟨o', z1, z2⟩
  · rw [e] at z
    obtain ⟨_, _, _, _, _, _, g5⟩ := k0.cell n ob z.symm
    exact repO_lt g5
  · rw [e] at z1
    injection z1 with z1
    rw [k0.len]
    exact z2 ob z1.symm
/-- the lists at places that are left are known for ever -/
theorem reify_rep {n0 : Nat} {st : Store} {l : List Addr} {H : Hp} (hμ : μ0.length = n0) (cl : ∀ (n : Nat) (ds : List D), n0 ≤ n → lstAt st n = some ds → ∃ a vs, (μ0 ++ l)[n]? = some a ∧ G a = some (.lst vs) ∧ Reps K (μ0 ++ l) G ds vs) :
    ∀ (k : Nat) (d d' : D) (v : V), reify n0 st k d = some d' → Rep K (μ0 ++ l) G d v → Rep K μ0 G d' v := by
  have all : ∀ (f : D → Option D), (∀ (d d' : D) (v : V), f d = some d' → Rep K (μ0 ++ l) G d v → Rep K μ0 G d' v) → ∀ (ds ds' : List D) (vs : List V), ds.mapM f = some ds' → Reps K (μ0 ++ l) G ds vs → Reps K μ0 G ds' vs := by
    intro f ih ds
    induction ds with
    | nil =>
      intro ds' vs e r
      have : ds' = [] := by simpa using e.symm
      rw [this, reps_nil r]
      exact .nil
    | cons d ds ih2 =>
      intro ds' vs e r
      obtain ⟨v, t, rfl, hv, ht⟩ := reps_cons r
      rw [List.mapM_cons] at e
      cases e1 : f d with
      | none => rw [e1] at e; cases e
      | some d' =>
        rw [e1] at e
        cases e2 : ds.mapM f with
        | none => rw [e2] at e; cases e
        | some ds2 =>
          rw [e2] at e
          injection e with e
          subst e
          exact .cons (ih d d' v e1 hv) (ih2 ds2 t e2 ht)
  intro k
  induction k with
  | zero =>
    intro d d' v e r
    unfold reify at e
    split at e
    · rename_i hc
      injection e with e
      subst e
      exact rep_cut l (by rw [hμ]; exact hc) r
    · cases e
  | succ k ih =>
    intro d d' v e r
    unfold reify at e
    split at e
    · rename_i hc
      injection e with e
      subst e
      exact rep_cut l (by rw [hμ]; exact hc) r
    · rename_i hc
      cases d with
      | loc m =>
        cases hm : lstAt st m with
        | none => simp only [hm] at e; cases e
        | some ds =>
          simp only [hm] at e
          have hge : n0 ≤ m := by
            have : ¬ (decide (m < n0) = true) := hc
            simp at this
            exact this
          obtain ⟨a, vs, h1, h2, h3⟩ := cl m ds hge hm
          obtain ⟨a', rfl, h1'⟩ := rep_loc r
          rw [h1] at h1'
          cases h1'
          cases hq : ds.mapM (reify n0 st k) with
          | none => rw [hq] at e; cases e
          | some ds' =>
            rw [hq] at e
            injection e with e
            subst e
            exact .lst h2 (all _ ih ds ds' vs hq h3)
      | tup ds =>
        obtain ⟨a, vs, rfl, s, rs⟩ := rep_tup r
        have e' : (ds.mapM (reify n0 st k)).map D.tup = some d' := e
        cases hq : ds.mapM (reify n0 st k) with
        | none => rw [hq] at e'; cases e'
        | some ds' =>
          rw [hq] at e'
          injection e' with e'
          subst e'
          exact .tup s (all _ ih ds ds' vs hq rs)
      | lst ds =>
        obtain ⟨a, vs, rfl, s, rs⟩ := rep_lst r
        have e' : (ds.mapM (reify n0 st k)).map D.lst = some d' := e
        cases hq : ds.mapM (reify n0 st k) with
        | none => rw [hq] at e'; cases e'
        | some ds' =>
          rw [hq] at e'
          injection e' with e'
          subst e'
          exact .lst s (all _ ih ds ds' vs hq rs)
      | frz ds => cases e
      | exn _ _ _ => cases e
      | non => exact absurd rfl hc
      | bl _ => exact absurd rfl hc
      | int _ => exact absurd rfl hc
      | str _ => exact absurd rfl hc
end
open Classical in
/-- what is known, and the lists at the places from n0 on -/
noncomputable def knowL (G : Hp) (μ : List Addr) (st : Store) (n0 : Nat) (H : Hp) : Hp := fun a => match G a with
  | some o => some o
  | none => if ∃ (n : Nat) (ds : List D), n0 ≤ n ∧ μ[n]? = some a ∧ lstAt st n = some ds then H a else none
section
variable {K : PySem.W.Frag} {mg : Str → Option Value} {μ μ0 : List Addr} {G G0 F : Hp} {st st0 : Store} {H H0 : Hp}
theorem knowL_ex {n0 : Nat} : Ex G (knowL G μ st n0 H) := fun a o e => by
  unfold knowL
  rw [e]
theorem knowL_some {n0 : Nat} {a : Addr} {o : HO} (k : Kn K mg μ G F st H) (e : knowL G μ st n0 H a = some o) : H a = some o ∧ (G a = some o ∨ ∃ n, n0 ≤ n ∧ μ[n]? = some a) := by
  unfold knowL at e
  cases g : G a with
  | some u =>
    rw [g] at e
    have e' : u = o := by simpa using e
    subst e'
    exact ⟨k.ex a _ g, .inl rfl⟩
  | none =>
    simp only [g] at e
    by_cases hc : ∃ (n : Nat) (ds : List D), n0 ≤ n ∧ μ[n]? = some a ∧ lstAt st n = some ds
    · have e' : H a = some o := by rw [if_pos hc] at e; exact e
      obtain ⟨n, ds, h1, h2, _⟩ := hc
      exact ⟨e', .inr ⟨n, h1, h2⟩⟩
    · have e' : (none : Option HO) = some o := by rw [if_neg hc] at e; exact e
      cases e'
theorem Kn.left {l : List Addr} (k0 : Kn K mg μ0 G0 F st0 H0) (k : Kn K mg (μ0 ++ l) G F st H) (ok : keepOk st0 st) : Kn K mg μ0 (knowL G (μ0 ++ l) st st0.length H) F (st.take st0.length) H := by
  have c := k0.cut k ok
  have f : Fut μ0 G μ0 (knowL G (μ0 ++ l) st st0.length H) := .know knowL_ex
  refine ⟨fun a o e => (knowL_some k e).1, c.fr, fun a o e => ?_, c.len, c.inj, fun n ob e => ?_, c.there, c.out⟩
  · cases q : knowL G (μ0 ++ l) st st0.length H a with
    | none => rfl
    | some u =>
      rcases (knowL_some k q).2 with z | ⟨n, _, z⟩
      · rw [k.sep a o e] at z
        cases z
      · have := k.out a (List.mem_of_getElem? z)
        rw [e] at this
        cases this
  · obtain ⟨a, o, h1, h2, h3, h4, h5⟩ := c.cell n ob e
    refine ⟨a, o, h1, ?_, h3, h4, h5.fut f⟩
    cases q : knowL G (μ0 ++ l) st st0.length H a with
    | none => rfl
    | some u =>
      rcases (knowL_some k q).2 with z | ⟨m, hm, z⟩
      · rw [h2] at z
        cases z
      · have hn : n < μ0.length := (List.getElem?_eq_some_iff.mp h1).1
        have h1' : (μ0 ++ l)[n]? = some a := by rw [List.getElem?_append_left hn]; exact h1
        have e2 := L2.nd_ix k.inj h1' z
        rw [k0.len] at hn
        omega
theorem gc_done {W : WX} {σ : L2.St} {μ1 : List Addr} {G1 : Hp} {st1 : Store} {H1 : Hp} {d : D} {v : V} {Q : VK} (k0 : Kn K mg μ0 G0 F st0 H0) (f : Fut μ0 G0 μ1 G1) (k1 : Kn K mg μ1 G1 F st1 H1) (r : Rep K μ1 G1 d v)
    (h : Done K mg W σ μ0 G0 F (gcRet st0 d st1) (Fin K Q)) : Q v H1 := by
  obtain ⟨⟨l, rfl⟩, ex⟩ := f
  unfold gcRet at h
  by_cases ok : keepOk st0 st1
  · rw [if_pos ok] at h
    cases hq : reify st0.length st1 4 d with
    | none => rw [hq] at h; exact h.elim
    | some d' =>
      rw [hq] at h
      have kl := k0.left k1 ok
      have ex1 : Ex G1 (knowL G1 (μ0 ++ l) st1 st0.length H1) := knowL_ex
      refine h μ0 _ H1 (.know (ex.trans ex1)) kl v ?_
      refine reify_rep (l := l) (H := H1) k0.len (fun n ds hn hl => ?_) 4 d d' v hq (r.fut (.know ex1))
      obtain ⟨a, o, h1, h2, h3, h4, vs, rfl, h5⟩ := k1.cell n _ (cell_some (lstAt_cell hl))
      refine ⟨a, vs, h1, ?_, h5.fut (.know ex1)⟩
      unfold knowL
      rw [h2]
      have hc : ∃ (n : Nat) (ds : List D), st0.length ≤ n ∧ (μ0 ++ l)[n]? = some a ∧ lstAt st1 n = some ds := ⟨n, ds, hn, h1, hl⟩
      simp only [hc, if_true]
      exact h4
  · rw [if_neg ok] at h
    exact h.elim
theorem repX_cut {l : List Addr} {e : Exn} {cls : Value} {dd : Option Addr} (hl : (e.fs.all fun p => locsLt μ0.length p.2) = true) (h : RepX K mg (μ0 ++ l) G e cls dd) : RepX K mg μ0 G e cls dd := by
  obtain ⟨C, e1, e2, h⟩ := h
  refine ⟨C, e1, e2, ?_⟩
  cases dd with
  | none => exact h
  | some d =>
    obtain ⟨gs, g, r⟩ := h
    exact ⟨gs, g, repF_cut l hl r⟩
theorem gc_exc {W : WX} {σ : L2.St} {μ1 : List Addr} {G1 : Hp} {st1 : Store} {H1 : Hp} {e : Exn} {cls : Value} {dd : Option Addr} {P : List Addr → Hp → D → Store → Hp → Prop} (k0 : Kn K mg μ0 G0 F st0 H0) (f : Fut μ0 G0 μ1 G1) (k1 : Kn K mg μ1 G1 F st1 H1) (r : RepX K mg μ1 G1 e cls dd)
    (h : Done K mg W σ μ0 G0 F (gcExc st0 e st1) P) : W cls dd σ H1 := by
  obtain ⟨⟨l, rfl⟩, ex⟩ := f
  unfold gcExc at h
  by_cases ok : keepOk st0 st1 ∧ (e.fs.all fun p => locsLt st0.length p.2) = true
  · rw [if_pos ok] at h
    exact h μ0 G1 H1 cls dd (.know ex) (k0.cut k1 ok.1) (repX_cut (by rw [k0.len]; exact ok.2) r)
  · rw [if_neg ok] at h
    exact h.elim
theorem repE_start {N : List Str} {ds : List D} {vs : List V} (r : Reps K μ G ds vs) : RepE K μ G (vars N.length ds) (start N vs) := by
  have hl := r.length
  refine ⟨by simp [vars, L2.start, hl], fun i d e => ?_⟩
  unfold vars at e
  by_cases hi : i < ds.length
  · rw [List.getElem?_append_left (by simpa using hi), List.getElem?_map] at e
    cases hd : ds[i]? with
    | none => rw [hd] at e; cases e
    | some d' =>
      rw [hd] at e
      have : d' = d := by simpa using e
      subst this
      obtain ⟨v, hv, rv⟩ := r.get hd
      refine ⟨v, ?_, rv⟩
      unfold L2.start
      rw [List.getElem?_append_left (by rw [List.length_map, hl]; exact hi), List.getElem?_map, hv]
      rfl
  · rw [List.getElem?_append_right (by simpa using hi), List.getElem?_replicate] at e
    split at e <;> cases e
section
variable {P : Program} {w : World} {base : Heap} {x qual : Str} {s : Stmt} {fa : Addr} {fd : FuncData} {N ps : List Str} {k : Nat} {mb : SM}
theorem fn_D (Fk : Fun K x qual s fa fd) (S : FnScope N ps (defScope s))
    (hbody : ∀ (cdv : Value) (A : Around) (outer : List Env) (s' : Shared) (H : Hp) (E : XK), Room k (A.deeper (envOfC qual (defScope s) s'.heap.objs.size fa cdv)) →
      MSs (cxOf (L2.CX P w) P w K mg base N qual (defScope s) fa cdv A outer s' H E) (fun cls d _ H => E cls d H) (defBody s) mb) : FnM P w K mg base (k + 1) fa fd ps (fnD N.length mb) := by
  refine Fk.okX S (fun vs H Q E h => h.1) fun cdv A outer s' H vs Q E hr h => ⟨_, hbody cdv A outer s' H E hr, ?_⟩
  obtain ⟨_, ds, st, μ, G, F, rs, k0, h⟩ := h
  refine ⟨vars N.length ds, st, μ, G, F, repE_start rs, k0, ?_⟩
  unfold fnD at h
  cases hb : mb (vars N.length ds) st with
  | bad => rw [hb] at h; exact h
  | brk _ _ => rw [hb] at h; exact h.elim
  | ct _ _ => rw [hb] at h; exact h.elim
  | ret d st1 =>
    rw [hb] at h
    exact fun μ1 G1 H1 v f1 k1 r1 => gc_done k0 f1 k1 r1 h
  | nx vs1 st1 =>
    rw [hb] at h
    exact fun μ1 G1 H1 σ1 f1 k1 r1 => gc_done k0 f1 k1 .non h
  | exc e vs1 st1 =>
    rw [hb] at h
    exact fun μ1 G1 H1 σ1 cls dd f1 k1 r1 x1 => gc_exc k0 f1 k1 x1 h
theorem fn_K (Fk : Fun K x qual s fa fd) (S : FnScope N ps (defScope s))
    (hbody : ∀ (cdv : Value) (A : Around) (outer : List Env) (s' : Shared) (H : Hp) (E : XK), Room k (A.deeper (envOfC qual (defScope s) s'.heap.objs.size fa cdv)) →
      MSs (cxOf (L2.CX P w) P w K mg base N qual (defScope s) fa cdv A outer s' H E) (fun cls d _ H => E cls d H) (defBody s) mb) : FnM P w K mg base (k + 1) fa fd ps (fnK N.length mb) := by
  refine Fk.okX S (fun vs H Q E h => h.1) fun cdv A outer s' H vs Q E hr h => ⟨_, hbody cdv A outer s' H E hr, ?_⟩
  obtain ⟨_, ds, st, μ, G, F, rs, k0, h⟩ := h
  refine ⟨vars N.length ds, st, μ, G, F, repE_start rs, k0, ?_⟩
  unfold fnK at h
  cases hb : mb (vars N.length ds) st with
  | bad => rw [hb] at h; exact h
  | brk _ _ => rw [hb] at h; exact h.elim
  | ct _ _ => rw [hb] at h; exact h.elim
  | ret d st1 =>
    rw [hb] at h
    exact fun μ1 G1 H1 v f1 k1 r1 => h μ1 G1 H1 f1 k1 v r1
  | nx vs1 st1 =>
    rw [hb] at h
    exact fun μ1 G1 H1 σ1 f1 k1 r1 => h μ1 G1 H1 f1 k1 .non .non
  | exc e vs1 st1 =>
    rw [hb] at h
    exact fun μ1 G1 H1 σ1 cls dd f1 k1 r1 x1 => h μ1 G1 H1 cls dd f1 k1 x1
end
end
end Dn
namespace Dn
open PySem PySem.Spec PyProof.Rows L2

/-! ### built-in functions on data -/
def opt {α : Type} (o : Option α) (k : α → Re D) : Re D := match o with
  | some a => k a
  | none => .bad
def one (f : D → Store → Re D) (xs : List D) (st : Store) : Re D := match xs with
  | [x] => f x st
  | _ => .bad
def two (f : D → D → Store → Re D) (xs : List D) (st : Store) : Re D := match xs with
  | [x, y] => f x y st
  | _ => .bad
def lenB (st : Store) : D → Option Nat
  | .str z => if room z.length then some z.length else none
  | .tup ds => some ds.length
  | .lst ds => some ds.length
  | .frz ds => some ds.length
  | .loc n => match cell st n with
    | some (.lst ds) => some ds.length
    | some (.dct kvs) => some kvs.length
    | _ => none
  | _ => none
def lenD : List D → Store → Re D := one fun x st => opt (lenB st x) fun n => .ok (.int n) st
def tupleD : List D → Store → Re D := one fun x st => opt (seqOf st x) fun ds => .ok (.tup ds) st
def listD (b : Bool) : List D → Store → Re D := one fun x st => opt (seqOf st x) fun ds => mkNew b ds st
def absD : List D → Store → Re D := one fun x st => match x with
  | .int i => .ok (.int (if i < 0 then -i else i)) st
  | _ => .bad
def intD : List D → Store → Re D := one fun x st => match x with
  | .int i => .ok (.int i) st
  | .bl k => .ok (.int (if k then 1 else 0)) st
  | _ => .bad
def strD : List D → Store → Re D := one fun x st => match x with
  | .int i => if i.natAbs.log2 < 1920 then .ok (.str (toString i)) st else .bad
  | _ => .bad
/-- data that are ints -/
def intsOf : List D → Option (List Int)
  | [] => some []
  | .int i :: r => (intsOf r).map (i :: ·)
  | _ :: _ => none
def blsOf : List D → Option (List Bool)
  | [] => some []
  | .bl i :: r => (blsOf r).map (i :: ·)
  | _ :: _ => none
def maxI : List Int → Int
  | [] => 0
  | [i] => i
  | i :: r => max i (maxI r)
def minI : List Int → Int
  | [] => 0
  | [i] => i
  | i :: r => min i (minI r)
def max2 (x y : D) (st : Store) : Re D := match x, y with
  | .int i, .int j => .ok (.int (if j > i then j else i)) st
  | _, _ => .bad
def max1 (x : D) (st : Store) : Re D := opt ((lstOf st x).bind intsOf) fun ns => if ns.isEmpty then .bad else .ok (.int (maxI ns)) st
def maxD (xs : List D) (st : Store) : Re D := match xs with
  | [x, y] => max2 x y st
  | [x] => max1 x st
  | _ => .bad
def min2 (x y : D) (st : Store) : Re D := match x, y with
  | .int i, .int j => .ok (.int (if j < i then j else i)) st
  | _, _ => .bad
def min1 (x : D) (st : Store) : Re D := opt ((lstOf st x).bind intsOf) fun ns => if ns.isEmpty then .bad else .ok (.int (minI ns)) st
def minD (xs : List D) (st : Store) : Re D := match xs with
  | [x, y] => min2 x y st
  | [x] => min1 x st
  | _ => .bad
def sumD : List D → Store → Re D := one fun x st => opt ((lstOf st x).bind intsOf) fun ns => .ok (.int ns.sum) st
def allD : List D → Store → Re D := one fun x st => opt ((lstOf st x).bind blsOf) fun bs => .ok (.bl (bs.all id)) st
def anyD : List D → Store → Re D := one fun x st => opt ((lstOf st x).bind blsOf) fun bs => .ok (.bl (bs.any id)) st
theorem intsOf_map : ∀ {ds : List D} {ns : List Int}, intsOf ds = some ns → ds = ns.map D.int
  | [], ns, h => by injection h with h; subst h; rfl
  | d :: ds, ns, h => by
    cases d with
    | int i =>
      have h' : (intsOf ds).map (i :: ·) = some ns := h
      cases e : intsOf ds with
      | none => rw [e] at h'; cases h'
      | some r =>
        rw [e] at h'
        injection h' with h'
        subst h'
        rw [intsOf_map e]
        rfl
    | _ => cases h
theorem blsOf_map : ∀ {ds : List D} {ns : List Bool}, blsOf ds = some ns → ds = ns.map D.bl
  | [], ns, h => by injection h with h; subst h; rfl
  | d :: ds, ns, h => by
    cases d with
    | bl i =>
      have h' : (blsOf ds).map (i :: ·) = some ns := h
      cases e : blsOf ds with
      | none => rw [e] at h'; cases h'
      | some r =>
        rw [e] at h'
        injection h' with h'
        subst h'
        rw [blsOf_map e]
        rfl
    | _ => cases h
theorem maxI_is : ∀ {i : Int} {r : List Int}, maxI (i :: r) ∈ i :: r ∧ ∀ y ∈ i :: r, y ≤ maxI (i :: r)
  | i, [] => ⟨by simp [maxI], by simp [maxI]⟩
  | i, j :: r => by
    obtain ⟨h1, h2⟩ := maxI_is (i := j) (r := r)
    have e : maxI (i :: j :: r) = max i (maxI (j :: r)) := rfl
    rw [e]
    refine ⟨?_, fun y hy => ?_⟩
    · rcases Int.le_total i (maxI (j :: r)) with h | h
      · rw [Int.max_eq_right h]; exact List.mem_cons_of_mem _ h1
      · rw [Int.max_eq_left h]; exact List.mem_cons_self
    · rcases List.mem_cons.mp hy with z | z
      · rw [z]; exact Int.le_max_left _ _
      · exact Int.le_trans (h2 y z) (Int.le_max_right _ _)
theorem minI_is : ∀ {i : Int} {r : List Int}, minI (i :: r) ∈ i :: r ∧ ∀ y ∈ i :: r, minI (i :: r) ≤ y
  | i, [] => ⟨by simp [minI], by simp [minI]⟩
  | i, j :: r => by
    obtain ⟨h1, h2⟩ := minI_is (i := j) (r := r)
    have e : minI (i :: j :: r) = min i (minI (j :: r)) := rfl
    rw [e]
    refine ⟨?_, fun y hy => ?_⟩
    · rcases Int.le_total i (minI (j :: r)) with h | h
      · rw [Int.min_eq_left h]; exact List.mem_cons_self
      · rw [Int.min_eq_right h]; exact List.mem_cons_of_mem _ h1
    · rcases List.mem_cons.mp hy with z | z
      · rw [z]; exact Int.min_le_left _ _
      · exact Int.le_trans (Int.min_le_right _ _) (h2 y z)
section
variable {X : Cx} {K : PySem.W.Frag} {mg : Str → Option Value}
abbrev rLenA (K : PySem.W.Frag) : List V → Hp → VK → Prop := fun xs H Q => (∃ p ys, xs = [.ref p] ∧ (SqL K H p ys ∨ SqT K H p ys) ∧ Q (.int ys.length) H) ∨ ((∃ z, xs = [.str z] ∧ z.length ≤ sizeLine ∧ Q (.int z.length) H) ∨ (∃ a kvs, xs = [V.ref a] ∧ H a = some (.dK kvs) ∧ Q (.int kvs.length) H))
theorem or_len : CallR X (.builtin "len") (rLenA X.K) := call_len_seq.or (call_len_str.or call_lenD)
theorem repKV_length {μ : List Addr} {G : Hp} {κ : Type} : ∀ {kvs : List (κ × D)} {ps : List (κ × V)}, RepKV K μ G kvs ps → ps.length = kvs.length
  | [], ps, h => by
    have : ps = [] := h
    rw [this]
    rfl
  | (k, d) :: r, ps, h => by
    obtain ⟨v, s, rfl, _, t⟩ := h
    rw [List.length_cons, List.length_cons, repKV_length t]
theorem dct_rep {μ : List Addr} {G F : Hp} {st : Store} {H : Hp} {n : Nat} {v : V} {kvs : List (Key × D)} (k : Kn K mg μ G F st H) (r : Rep K μ G (.loc n) v) (e : cell st n = some (.dct kvs)) : ∃ a ps, v = .ref a ∧ μ[n]? = some a ∧ H a = some (.dK ps) ∧ RepKV K μ G kvs ps := by
  obtain ⟨a, rfl, ha⟩ := rep_loc r
  obtain ⟨a', o, h1, _, _, h4, ps, rfl, q⟩ := k.cell n _ (cell_some e)
  rw [ha] at h1
  cases h1
  exact ⟨a, ps, rfl, ha, h4, q⟩
theorem opt_done {α : Type} {o : Option α} {k : α → Re D} {W : WX} {σ : L2.St} {μ : List Addr} {G F : Hp} {P : List Addr → Hp → D → Store → Hp → Prop} (h : Done K mg W σ μ G F (opt o k) P) : ∃ a, o = some a ∧ Done K mg W σ μ G F (k a) P := by
  cases o with
  | none => exact h.elim
  | some a => exact ⟨a, rfl, h⟩
theorem sn_one {f : D → Store → Re D} {r : List V → Hp → VK → Prop} (hf : ∀ (W : WX) (σ : L2.St) (μ : List Addr) (G F : Hp) (st : Store) (H : Hp) (x : D) (v : V) (Q : VK), Kn K mg μ G F st H → Rep K μ G x v → Done K mg W σ μ G F (f x st) (Fin K Q) → r [v] H Q) : SN K mg (one f) r := by
  intro W σ μ G F st H xs vs Q k rs h
  match xs, rs, h with
  | [x], rs, h =>
    obtain ⟨v, rfl, rv⟩ := reps_one rs
    exact hf W σ μ G F st H x v Q k rv h
  | [], _, h => exact h.elim
  | _ :: _ :: _, _, h => exact h.elim
theorem sn_two {f : D → D → Store → Re D} {r : List V → Hp → VK → Prop} (hf : ∀ (W : WX) (σ : L2.St) (μ : List Addr) (G F : Hp) (st : Store) (H : Hp) (x y : D) (v w : V) (Q : VK), Kn K mg μ G F st H → Rep K μ G x v → Rep K μ G y w → Done K mg W σ μ G F (f x y st) (Fin K Q) → r [v, w] H Q) : SN K mg (two f) r := by
  intro W σ μ G F st H xs vs Q k rs h
  match xs, rs, h with
  | [x, y], rs, h =>
    obtain ⟨v, w, rfl, rv, rw'⟩ := reps_two rs
    exact hf W σ μ G F st H x y v w Q k rv rw' h
  | [], _, h => exact h.elim
  | [_], _, h => exact h.elim
  | _ :: _ :: _ :: _, _, h => exact h.elim
theorem s_len : SN K mg lenD (rLenA K) := sn_one fun W σ μ G F st H x v Q k rv h => by
  obtain ⟨n, e, h⟩ := opt_done h
  cases x with
  | str z =>
    rw [rep_str rv]
    simp only [lenB] at e
    split at e
    · rename_i hr
      injection e with e
      subst e
      exact .inr (.inl ⟨z, rfl, room_line hr, fin_here k h .int⟩)
    · cases e
  | tup ds =>
    obtain ⟨a, ws, rfl, hs, rw'⟩ := rep_tup rv
    injection e with e
    subst e
    refine .inl ⟨a, ws, rfl, .inr (k.ex.sqt hs), ?_⟩
    rw [rw'.length]
    exact fin_here k h .int
  | lst ds =>
    obtain ⟨a, ws, rfl, hs, rw'⟩ := rep_lst rv
    injection e with e
    subst e
    refine .inl ⟨a, ws, rfl, .inl (.of (k.ex _ _ hs)), ?_⟩
    rw [rw'.length]
    exact fin_here k h .int
  | frz ds =>
    obtain ⟨a, ws, rfl, hs, rw'⟩ := rep_frz rv
    injection e with e
    subst e
    refine .inl ⟨a, ws, rfl, .inl (k.ex.sql hs), ?_⟩
    rw [rw'.length]
    exact fin_here k h .int
  | loc m =>
    simp only [lenB] at e
    split at e
    · rename_i ds hc
      injection e with e
      subst e
      obtain ⟨a, ws, rfl, hs, rw'⟩ := lstOf_rep (ds := ds) k rv (by show lstAt st m = some ds; unfold lstAt; rw [hc])
      refine .inl ⟨a, ws, rfl, .inl (.of hs), ?_⟩
      rw [rw'.length]
      exact fin_here k h .int
    · rename_i kvs hc
      injection e with e
      subst e
      obtain ⟨a, ps, rfl, _, hs, rp⟩ := dct_rep k rv hc
      refine .inr (.inr ⟨a, ps, rfl, hs, ?_⟩)
      rw [repKV_length rp]
      exact fin_here k h .int
    · cases e
  | non => cases e
  | bl _ => cases e
  | int _ => cases e
  | exn _ _ _ => cases e
abbrev rTupA (K : PySem.W.Frag) : List V → Hp → VK → Prop := fun xs H Q => ∃ p ys, xs = [.ref p] ∧ ((SqL K H p ys ∧ ∀ l, H l = none → Q (.ref l) (upd H l (.tup ys))) ∨ (SqT K H p ys ∧ Q (.ref p) H))
theorem s_tuple : SN K mg tupleD (rTupA K) := sn_one fun W σ μ G F st H x v Q k rv h => by
  obtain ⟨ds, e, h'⟩ := opt_done h
  clear h
  cases x with
  | tup xs =>
    injection e with e
    subst e
    obtain ⟨a, ws, rfl, hs, rw'⟩ := rep_tup rv
    exact ⟨a, ws, rfl, .inr ⟨k.ex.sqt hs, fin_here k h' rv⟩⟩
  | lst xs =>
    obtain ⟨a, ws, rfl, hs, rw'⟩ := lstOf_rep (ds := ds) k rv e
    exact ⟨a, ws, rfl, .inl ⟨.of hs, new_tup k rw' h'⟩⟩
  | frz xs =>
    injection e with e
    subst e
    obtain ⟨a, ws, rfl, hs, rw'⟩ := rep_frz rv
    exact ⟨a, ws, rfl, .inl ⟨k.ex.sql hs, new_tup k rw' h'⟩⟩
  | loc n =>
    obtain ⟨a, ws, rfl, hs, rw'⟩ := lstOf_rep (ds := ds) k rv e
    exact ⟨a, ws, rfl, .inl ⟨.of hs, new_tup k rw' h'⟩⟩
  | non => cases e
  | exn _ _ _ => cases e
  | bl _ => cases e
  | int _ => cases e
  | str _ => cases e
abbrev rListA (K : PySem.W.Frag) : List V → Hp → VK → Prop := fun xs H Q => ∃ p ys, xs = [.ref p] ∧ (SqL K H p ys ∨ SqT K H p ys) ∧ ∀ l, H l = none → Q (.ref l) (upd H l (.lst ys))
theorem s_list (b : Bool) : SN K mg (listD b) (rListA K) := sn_one fun W σ μ G F st H x v Q k rv h => by
  obtain ⟨ds, e, h⟩ := opt_done h
  obtain ⟨a, ws, rfl, hs, rw'⟩ := seqOf_rep k rv e
  exact ⟨a, ws, rfl, hs, new_list k rw' h⟩
theorem s_abs : SN K mg absD (fun xs H Q => ∃ i, xs = [.int i] ∧ Q (.int (if i < 0 then -i else i)) H) := sn_one fun W σ μ G F st H x v Q k rv h => by
  cases x with
  | int i => rw [rep_int rv]; exact ⟨i, rfl, fin_here k h .int⟩
  | _ => exact h.elim
theorem s_intF : SN K mg intD (fun xs H Q => (∃ i, xs = [.int i] ∧ Q (.int i) H) ∨ ∃ k, xs = [.bl k] ∧ Q (.int (if k then 1 else 0)) H) := sn_one fun W σ μ G F st H x v Q k rv h => by
  cases x with
  | int i => rw [rep_int rv]; exact .inl ⟨i, rfl, fin_here k h .int⟩
  | bl i => rw [rep_bl rv]; exact .inr ⟨i, rfl, fin_here k h .int⟩
  | _ => exact h.elim
theorem s_strF : SN K mg strD (fun xs H Q => ∃ i : Int, xs = [.int i] ∧ i.natAbs.log2 < 1920 ∧ Q (.str (toString i)) H) := sn_one fun W σ μ G F st H x v Q k rv h => by
  cases x with
  | int i =>
    obtain ⟨hr, h⟩ := ite_done h
    rw [rep_int rv]
    exact ⟨i, rfl, hr, fin_here k h .str⟩
  | _ => exact h.elim
theorem lst_ints {μ : List Addr} {G F : Hp} {st : Store} {H : Hp} {x : D} {v : V} {ns : List Int} (k : Kn K mg μ G F st H) (rv : Rep K μ G x v) (e : (lstOf st x).bind intsOf = some ns) : ∃ a, v = .ref a ∧ SqL K H a (ns.map V.int) := by
  cases e1 : lstOf st x with
  | none => rw [e1] at e; cases e
  | some ds =>
    rw [e1] at e
    obtain ⟨a, ws, rfl, hs, rs⟩ := lstOf_rep k rv e1
    have e2 := intsOf_map e
    subst e2
    rw [reps_ints rs] at hs
    exact ⟨a, rfl, .of hs⟩
theorem lst_bls {μ : List Addr} {G F : Hp} {st : Store} {H : Hp} {x : D} {v : V} {ns : List Bool} (k : Kn K mg μ G F st H) (rv : Rep K μ G x v) (e : (lstOf st x).bind blsOf = some ns) : ∃ a, v = .ref a ∧ SqL K H a (ns.map V.bl) := by
  cases e1 : lstOf st x with
  | none => rw [e1] at e; cases e
  | some ds =>
    rw [e1] at e
    obtain ⟨a, ws, rfl, hs, rs⟩ := lstOf_rep k rv e1
    have e2 := blsOf_map e
    subst e2
    rw [reps_bls rs] at hs
    exact ⟨a, rfl, .of hs⟩
theorem s_sum : SN K mg sumD (rSum K) := sn_one fun W σ μ G F st H x v Q k rv h => by
  obtain ⟨ns, e, h⟩ := opt_done h
  obtain ⟨a, rfl, hs⟩ := lst_ints k rv e
  exact ⟨a, ns, rfl, hs, fin_here k h .int⟩
theorem s_all : SN K mg allD (rAll K) := sn_one fun W σ μ G F st H x v Q k rv h => by
  obtain ⟨ns, e, h⟩ := opt_done h
  obtain ⟨a, rfl, hs⟩ := lst_bls k rv e
  exact ⟨a, ns, rfl, hs, fin_here k h .bl⟩
theorem s_any : SN K mg anyD (rAny K) := sn_one fun W σ μ G F st H x v Q k rv h => by
  obtain ⟨ns, e, h⟩ := opt_done h
  obtain ⟨a, rfl, hs⟩ := lst_bls k rv e
  exact ⟨a, ns, rfl, hs, fin_here k h .bl⟩
abbrev rMaxA (K : PySem.W.Frag) : List V → Hp → VK → Prop := fun xs H Q => (∃ i j, xs = [.int i, .int j] ∧ Q (.int (if j > i then j else i)) H) ∨ rMax K xs H Q
abbrev rMinA (K : PySem.W.Frag) : List V → Hp → VK → Prop := fun xs H Q => (∃ i j, xs = [.int i, .int j] ∧ Q (.int (if j < i then j else i)) H) ∨ rMin K xs H Q
theorem or_max (hc : X.calm = true) : CallR X (.builtin "max") (rMaxA X.K) := (call_max2 hc).or (cr_max hc)
theorem or_min (hc : X.calm = true) : CallR X (.builtin "min") (rMinA X.K) := (call_min2 hc).or (cr_min hc)
theorem max_uniq {ns : List Int} {m : Int} (hm : m ∈ ns) (h : ∀ y ∈ ns, y ≤ m) : m = maxI ns := by
  cases ns with
  | nil => cases hm
  | cons i r =>
    obtain ⟨h1, h2⟩ := maxI_is (i := i) (r := r)
    exact Int.le_antisymm (h2 m hm) (h _ h1)
theorem min_uniq {ns : List Int} {m : Int} (hm : m ∈ ns) (h : ∀ y ∈ ns, m ≤ y) : m = minI ns := by
  cases ns with
  | nil => cases hm
  | cons i r =>
    obtain ⟨h1, h2⟩ := minI_is (i := i) (r := r)
    exact Int.le_antisymm (h _ h1) (h2 m hm)
theorem s_max : SN K mg maxD (rMaxA K) := by
  intro W σ μ G F st H xs vs Q k rs h
  match xs, rs, h with
  | [x, y], rs, h =>
    obtain ⟨v, w, rfl, rv, rw'⟩ := reps_two rs
    have h : Done K mg W σ μ G F (max2 x y st) (Fin K Q) := h
    unfold max2 at h
    split at h
    · rw [rep_int rv, rep_int rw']
      exact .inl ⟨_, _, rfl, fin_here k h .int⟩
    · exact h.elim
  | [x], rs, h =>
    obtain ⟨v, rfl, rv⟩ := reps_one rs
    obtain ⟨ns, e, h⟩ := opt_done (show Done K mg W σ μ G F (opt ((lstOf st x).bind intsOf) fun ns => if ns.isEmpty then .bad else .ok (.int (maxI ns)) st) (Fin K Q) from h)
    obtain ⟨a, rfl, hs⟩ := lst_ints k rv e
    by_cases hn : ns.isEmpty = true
    · rw [if_pos hn] at h; exact h.elim
    · rw [if_neg hn] at h
      refine .inr ⟨a, ns, rfl, hs, ?_, fun m hm hle => ?_⟩
      · cases ns with
        | nil => exact absurd rfl hn
        | cons _ _ => exact Nat.succ_pos _
      · rw [max_uniq hm hle]
        exact fin_here k h .int
  | [], _, h => exact h.elim
  | _ :: _ :: _ :: _, _, h => exact h.elim
theorem s_min : SN K mg minD (rMinA K) := by
  intro W σ μ G F st H xs vs Q k rs h
  match xs, rs, h with
  | [x, y], rs, h =>
    obtain ⟨v, w, rfl, rv, rw'⟩ := reps_two rs
    have h : Done K mg W σ μ G F (min2 x y st) (Fin K Q) := h
    unfold min2 at h
    split at h
    · rw [rep_int rv, rep_int rw']
      exact .inl ⟨_, _, rfl, fin_here k h .int⟩
    · exact h.elim
  | [x], rs, h =>
    obtain ⟨v, rfl, rv⟩ := reps_one rs
    obtain ⟨ns, e, h⟩ := opt_done (show Done K mg W σ μ G F (opt ((lstOf st x).bind intsOf) fun ns => if ns.isEmpty then .bad else .ok (.int (minI ns)) st) (Fin K Q) from h)
    obtain ⟨a, rfl, hs⟩ := lst_ints k rv e
    by_cases hn : ns.isEmpty = true
    · rw [if_pos hn] at h; exact h.elim
    · rw [if_neg hn] at h
      refine .inr ⟨a, ns, rfl, hs, ?_, fun m hm hle => ?_⟩
      · cases ns with
        | nil => exact absurd rfl hn
        | cons _ _ => exact Nat.succ_pos _
      · rw [min_uniq hm hle]
        exact fin_here k h .int
  | [], _, h => exact h.elim
  | _ :: _ :: _ :: _, _, h => exact h.elim

/-! ### methods of lists -/
/-- o.m(..): the type's name, then what the method does -/
def tyD (T : String) (st : Store) (x : D) : Bool := match x with
  | .str _ => T == "str"
  | .lst _ => T == "list"
  | .loc n => T == "list" && (lstAt st n).isSome
  | _ => false
def eM (T : String) (f : D → List D → Store → Re D) (o : EM) (as : EMs) : EM := fun vs st => (o vs st).bind fun x st => if tyD T st x = true then (as vs st).bind fun xs st => f x xs st else .bad
def SM2 (K : PySem.W.Frag) (mg : Str → Option Value) (f : D → List D → Store → Re D) (r : V → List V → Hp → VK → Prop) : Prop := ∀ (W : WX) (σ : L2.St) (μ : List Addr) (G F : Hp) (st : Store) (H : Hp) (x : D) (v : V) (xs : List D) (vs : List V) (Q : VK), Kn K mg μ G F st H → Rep K μ G x v → Reps K μ G xs vs →
  Done K mg W σ μ G F (f x xs st) (Fin K Q) → r v vs H Q
theorem tyD_rep {μ : List Addr} {G F : Hp} {st : Store} {H : Hp} {x : D} {v : V} {T : String} (k : Kn K mg μ G F st H) (rv : Rep K μ G x v) (e : tyD T st x = true) : tyV K T v H := by
  cases x with
  | str z => rw [rep_str rv]; exact beq_iff_eq.mp e
  | lst ds =>
    obtain ⟨a, ws, rfl, hs, _⟩ := rep_lst rv
    exact .inl ⟨beq_iff_eq.mp e, ws, .of (k.ex _ _ hs)⟩
  | loc n =>
    have e' : (T == "list" && (lstAt st n).isSome) = true := e
    rw [Bool.and_eq_true] at e'
    cases hl : lstAt st n with
    | none => rw [hl] at e'; exact absurd e'.2 Bool.false_ne_true
    | some ds =>
      obtain ⟨a, ws, rfl, hs, _⟩ := lstOf_rep (ds := ds) k rv hl
      exact .inl ⟨beq_iff_eq.mp e'.1, ws, .of hs⟩
  | non => exact absurd e Bool.false_ne_true
  | exn _ _ _ => exact absurd e Bool.false_ne_true
  | bl _ => exact absurd e Bool.false_ne_true
  | int _ => exact absurd e Bool.false_ne_true
  | frz _ => exact absurd e Bool.false_ne_true
  | tup _ => exact absurd e Bool.false_ne_true
section
variable {W : WX} {o e : Expr} {es : List Expr} {mo : EM} {ms : EMs} {name : Str} {apos cpos : Pos} {T id : String} {f : D → List D → Store → Re D} {r : V → List V → Hp → VK → Prop}
theorem meth_of {t : TA} (hs : SM2 X.K X.mg f r) (ho : ME X W o mo) (ha : MA X W es ms) (σ : L2.St) (H : Hp) (Q : VK) (h : tE X.K X.mg W (eM T f mo ms) σ H Q) : tBM X.K T r (tE X.K X.mg W mo) (tA X.K X.mg W ms) σ H Q := by
  obtain ⟨vs, st, μ, G, F, re, k, h⟩ := h
  refine ⟨vs, st, μ, G, F, re, k, (Done.bind h).mono fun μ1 G1 x st1 H1 f1 k1 h1 v rv => ?_⟩
  obtain ⟨ht, h1⟩ := ite_done h1
  refine ⟨tyD_rep k1 rv ht, vs, st1, μ1, G1, F, re.fut f1, k1, (Done.bind h1).mono fun μ2 G2 xs st2 H2 f2 k2 h2 ws rws => ?_⟩
  exact hs W σ μ2 G2 F st2 H2 x v xs ws Q k2 (rv.fut f2) rws h2
theorem m_meth (pa : PlainAttrs T) (slot : Slot T name id) (hty : typeOf (.builtin id) = pure (.type "method_descriptor")) (hm : MtR X id r) (hs : SM2 X.K X.mg f r) (ho : ME X W o mo) (ha : MA X W (e :: es) ms)
    (hbase : attributeBase o name X.env (eval o X.env) = eval o X.env := by rfl)
    (hfew : ((backTo cpos (starEach (e :: es) X.env)).all (fun x => !x.1) && (backToKw cpos (keywordEach [] X.env)).all (fun x => x.1.isSome)
      && decide ((e :: es).length + ([] : List Keyword).length + (if ([] : List Keyword).isEmpty then 0 else 1) < 30)) = true := by rfl)
    (hline : (apos.endLine == cpos.line) = true := by rfl) (hst : starEach (e :: es) X.env = (false, eval e X.env) :: starEach es X.env := by rfl) (hplain : (backTo cpos (starEach es X.env)).any (·.1) = false := by rfl) :
    ME X W (.Call (.Attribute o name apos) (e :: es) [] cpos) (eM T f mo ms) := (pe_bm pa slot hty hm ho ha hbase hfew hline hst hplain).of (meth_of (t := tA X.K X.mg W ms) hs ho ha)
theorem m_meth0 (pa : PlainAttrs T) (slot : Slot T name id) (hty : typeOf (.builtin id) = pure (.type "method_descriptor")) (hm : MtR X id r) (hs : SM2 X.K X.mg f r) (ho : ME X W o mo)
    (hbase : attributeBase o name X.env (eval o X.env) = eval o X.env := by rfl) (hline : (apos.endLine == cpos.line) = true := by rfl) : ME X W (.Call (.Attribute o name apos) [] [] cpos) (eM T f mo aNil) := (pe_bm0 pa slot hty hm ho hbase hline).of fun σ H Q h => by
  obtain ⟨vs, st, μ, G, F, re, k, h⟩ := h
  refine ⟨vs, st, μ, G, F, re, k, (Done.bind h).mono fun μ1 G1 x st1 H1 f1 k1 h1 v rv => ?_⟩
  obtain ⟨ht, h1⟩ := ite_done h1
  refine ⟨tyD_rep k1 rv ht, ?_⟩
  exact hs W σ μ1 G1 F st1 H1 x v [] [] Q k1 rv .nil h1
end
def appendD (x : D) (xs : List D) (st : Store) : Re D := match x, xs with
  | .loc n, [y] => opt (lstAt st n) fun ds => if room (ds.length + 1) then .ok .non (st.set n (some (.lst (ds ++ [y])))) else .bad
  | _, _ => .bad
theorem s_append : SM2 K mg appendD rAppend := by
  intro W σ μ G F st H x v xs vs Q k rv rs h
  unfold appendD at h
  split at h
  · rename_i n y
    obtain ⟨ds, e, h⟩ := opt_done h
    obtain ⟨hr, h⟩ := ite_done h
    obtain ⟨w, rfl, rw'⟩ := reps_one rs
    obtain ⟨a, rfl, ha⟩ := rep_loc rv
    obtain ⟨a', ws, e', hs, rws⟩ := lstOf_rep (ds := ds) k rv e
    cases e'
    refine ⟨a, ws, w, rfl, rfl, hs, by rw [rws.length]; exact room_lt (by omega), ?_⟩
    exact h μ G _ (.refl _ _) (k.write (cell_some (lstAt_cell e)) ha ⟨_, rfl, rws.append (.cons rw' .nil)⟩) _ .non
  · exact h.elim
def extendD (x : D) (xs : List D) (st : Store) : Re D := match x, xs with
  | .loc n, [y] => opt (lstAt st n) fun ds => opt (lstOf st y) fun es => if room (ds.length + es.length) then .ok .non (st.set n (some (.lst (ds ++ es)))) else .bad
  | _, _ => .bad
theorem s_extend : SM2 K mg extendD rExtend := by
  intro W σ μ G F st H x v xs vs Q k rv rs h
  unfold extendD at h
  split at h
  · rename_i n y
    obtain ⟨ds, e, h⟩ := opt_done h
    obtain ⟨es, e2, h⟩ := opt_done h
    obtain ⟨hr, h⟩ := ite_done h
    obtain ⟨w, rfl, rw'⟩ := reps_one rs
    obtain ⟨a, rfl, ha⟩ := rep_loc rv
    obtain ⟨a', ws, e', hs, rws⟩ := lstOf_rep (ds := ds) k rv e
    cases e'
    obtain ⟨b, zs, rfl, hb, rzs⟩ := lstOf_rep k rw' e2
    refine ⟨a, b, ws, zs, rfl, rfl, hs, hb, by rw [rws.length, rzs.length]; exact room_line hr, ?_⟩
    exact h μ G _ (.refl _ _) (k.write (cell_some (lstAt_cell e)) ha ⟨_, rfl, rws.append rzs⟩) _ .non
  · exact h.elim
def popD (x : D) (xs : List D) (st : Store) : Re D := match x, xs with
  | .loc n, [] => opt (lstAt st n) fun ds => opt ds[ds.length - 1]? fun y => .ok y (st.set n (some (.lst ds.dropLast)))
  | .loc n, [.int i] => opt (lstAt st n) fun ds => opt (ixN ds.length i) fun j => opt ds[j]? fun y => if ds.length ≤ 1000000 then .ok y (st.set n (some (.lst (ds.eraseIdx j)))) else .bad
  | _, _ => .bad
abbrev rPopA : V → List V → Hp → VK → Prop := fun x xs H Q => rPop x xs H Q ∨ rPopAt x xs H Q
theorem or_pop : MtR X "list.pop" rPopA := MtR.or (r := rPop) (r' := rPopAt) mt_pop mt_popAt
theorem s_pop : SM2 K mg popD rPopA := by
  intro W σ μ G F st H x v xs vs Q k rv rs h
  unfold popD at h
  split at h
  · rename_i n
    obtain ⟨ds, e, h⟩ := opt_done h
    obtain ⟨y, e2, h⟩ := opt_done h
    rw [reps_nil rs]
    obtain ⟨a, rfl, ha⟩ := rep_loc rv
    obtain ⟨a', ws, e', hs, rws⟩ := lstOf_rep (ds := ds) k rv e
    cases e'
    obtain ⟨w, hw, rw'⟩ := rws.get e2
    refine .inl ⟨a, ws, w, rfl, rfl, hs, by rw [rws.length]; exact hw, ?_⟩
    exact h μ G _ (.refl _ _) (k.write (cell_some (lstAt_cell e)) ha ⟨_, rfl, rws.dropLast⟩) _ rw'
  · rename_i n i
    obtain ⟨ds, e, h⟩ := opt_done h
    obtain ⟨j, e1, h⟩ := opt_done h
    obtain ⟨y, e2, h⟩ := opt_done h
    obtain ⟨hr, h⟩ := ite_done h
    obtain ⟨w, rfl, rw'⟩ := reps_one rs
    rw [rep_int rw']
    obtain ⟨a, rfl, ha⟩ := rep_loc rv
    obtain ⟨a', ws, e', hs, rws⟩ := lstOf_rep (ds := ds) k rv e
    cases e'
    obtain ⟨z, hz, rz⟩ := rws.get e2
    obtain ⟨g1, g2, g3, g4⟩ := ixN_seq e1
    refine .inr ⟨a, ws, i, j, z, rfl, rfl, hs, by omega, by omega, by rw [rws.length]; exact g1, hz, ?_⟩
    exact h μ G _ (.refl _ _) (k.write (cell_some (lstAt_cell e)) ha ⟨_, rfl, rws.eraseIdx j⟩) _ rz
  · exact h.elim

/-! ### a[i] = v -/
/-- what a store to o[i] does -/
abbrev SD := D → D → D → Store → Option Store
def setD : SD := fun o i v st => match o, i with
  | .loc n, .int k => (lstAt st n).bind fun ds => (ixN ds.length k).bind fun j => some (st.set n (some (.lst (ds.set j v))))
  | _, _ => none
def sSub (f : SD) (o i m : EM) : SM := fun vs st => (m vs st).thn vs fun v st => (o vs st).thn vs fun x st => (i vs st).thn vs fun y st => match f x y v st with
  | some st => .nx vs st
  | none => .bad
def SSet (K : PySem.W.Frag) (mg : Str → Option Value) (f : SD) (r : TSet) : Prop := ∀ (μ : List Addr) (G F : Hp) (st st' : Store) (H : Hp) (x y z : D) (v w u : V) (Q : Hp → Prop), Kn K mg μ G F st H → Rep K μ G x v → Rep K μ G y w → Rep K μ G z u → f x y z st = some st' →
  (∀ H', Kn K mg μ G F st' H' → Q H') → r v w u H Q
theorem s_setL : SSet K mg setD rSetL := by
  intro μ G F st st' H x y z v w u Q k rx ry rz e q
  unfold setD at e
  split at e
  · rename_i n i
    cases e1 : lstAt st n with
    | none => rw [e1] at e; cases e
    | some ds =>
      rw [e1] at e
      have e' : ((ixN ds.length i).bind fun j => some (st.set n (some (.lst (ds.set j z))))) = some st' := e
      cases e2 : ixN ds.length i with
      | none => rw [e2] at e'; cases e'
      | some j =>
        rw [e2] at e'
        injection e' with e3
        subst e3
        obtain ⟨a, rfl, ha⟩ := rep_loc rx
        obtain ⟨a', ws, ea, hs, rws⟩ := lstOf_rep (ds := ds) k rx e1
        cases ea
        rw [rep_int ry]
        refine ⟨a, ws, i, j, rfl, rfl, hs, by rw [rws.length]; exact e2, q _ (k.write (cell_some (lstAt_cell e1)) ha ⟨_, rfl, rws.set rz j⟩)⟩
  · cases e
section
variable {W : WX} {o i value : Expr} {mo mi mv : EM} {f : SD} {r : TSet} {tpos pos : Pos}
theorem sub_of (hs : SSet X.K X.mg f r) (D : Ends) (σ : L2.St) (H : Hp) (h : tS X.K X.mg W (sSub f mo mi mv) D σ H) : tAsg (tE X.K X.mg W mv) (gSub (tE X.K X.mg W mo) (tE X.K X.mg W mi) r) D σ H := by
  obtain ⟨vs, st, μ, G, F, re, k, h⟩ := h
  refine ⟨vs, st, μ, G, F, re, k, (DoneS.thn re h).mono fun μ1 G1 z st1 H1 f1 k1 h1 u ru => ?_⟩
  refine ⟨vs, st1, μ1, G1, F, re.fut f1, k1, (DoneS.thn (re.fut f1) h1).mono fun μ2 G2 x st2 H2 f2 k2 h2 v rv => ?_⟩
  refine ⟨vs, st2, μ2, G2, F, (re.fut f1).fut f2, k2, (DoneS.thn ((re.fut f1).fut f2) h2).mono fun μ3 G3 y st3 H3 f3 k3 h3 w rw' => ?_⟩
  split at h3
  · rename_i st4 e
    exact hs μ3 G3 F st3 st4 H3 x y z v w u _ k3 (rv.fut f3) rw' ((ru.fut f2).fut f3) e fun H' k4 => h3 μ3 G3 H' σ (.refl _ _) k4 (((re.fut f1).fut f2).fut f3)
  · exact h3.elim
theorem st_sub (hp : PSet X r) (hs : SSet X.K X.mg f r) (ho : ME X W o mo) (hi : ME X W i mi) (hv : ME X W value mv)
    (ha : ∀ v, assign (.Subscript o i tpos) X.env v = (do
      let ov ← holding [v] (eval o X.env)
      let iv ← holding [v, ov] (eval i X.env)
      standAt tpos
      holding [v, ov, iv] (setItem ov iv v)
      release [v, ov, iv] []) := by intro _; rfl)
    (h1 : swapsWithSole [.Subscript o i tpos] value pos.line X.env = pure false := by rfl) (hw : swappedStores [.Subscript o i tpos] value X.env = pure none := by rfl) (h2 : (assignEach [.Subscript o i tpos] X.env).map (·.2) = [assign (.Subscript o i tpos) X.env] := by rfl) :
    MS X W (.Assign [.Subscript o i tpos] value pos) (sSub f mo mi mv) := (ps_asg hv (pg_sub ho hi hp ha) h1 hw h2).of (sub_of hs)
end
end
end Dn
namespace Dn
open PySem PySem.Spec PyProof.Rows L2

/-! ### enumerate of a tuple -/
set_option maxHeartbeats 1000000 in
theorem meets_enum1 {v : Value} {o : Obj} {H : Heap → Prop} (B : Begins v o H) :
    Meets (Builtin.«enumerate.__new__» ⟨[.type "enumerate", v], []⟩) (fun _ R s => H s.heap ∧
      R (.ok (.ret (.ref (s.heap.push o).objs.size))) { s with heap := (s.heap.push o).push { cls := .type "enumerate", data := .fields #[.none, .bool false, .ref s.heap.objs.size, rawInt 0, .none, .none] } }) :=
  .of_wp fun prog w A R s h => by
    obtain ⟨hp, g, d, tk, os⟩ := s; obtain ⟨h1, h⟩ := h
    have hsub := sub_enumerate
    have q1 : ∀ {A' : Around} {E : Value → Shared → Prop} {Q : Value → Shared → Prop}, Q (.ref hp.objs.size) ⟨hp.push o, g, d, tk, os⟩ → wpAny (model prog w) A' (pyIter v) Q E ⟨hp, g, d, tk, os⟩ :=
      fun q => B.iter prog w _ _ ⟨hp, g, d, tk, os⟩ _ h1 q
    wp_walk using q1
    refine wpAny_stack_any fun st => wpAny_pure ?_
    split
    · rename_i c _ _ _ _ _
      cases (c == Value.type "enumerate")
      · wp_walk using q1
        exact ⟨_, rfl, h⟩
      · wp_walk using q1
        exact ⟨_, rfl, h⟩
    · wp_walk using q1
      exact ⟨_, rfl, h⟩
theorem call_enum1 {prog : Program} {w : World} {A : Around} {E : Value → Shared → Prop} {s : Shared} {v : Value} {o : Obj} {H : Heap → Prop} {Q : Value → Shared → Prop} (B : Begins v o H) (h1 : H s.heap)
    (h : ∀ h', IsEnum h' (s.heap.objs.size + 1) s.heap.objs.size 0 .none → h'.get? s.heap.objs.size = some o → h'.objs.size = s.heap.objs.size + 2 →
      (∀ b o, s.heap.get? b = some o → h'.get? b = some o) → Q (.ref (s.heap.objs.size + 1)) { s with heap := h' }) :
    wpAny (model prog w) A (call (.type "enumerate") [v]) Q E s := by
  refine callType_new F.called_enumerate (by decide) (F.typeCall_enumerate_1 _) (F.newCall_enumerate_1 _) (fun obj => F.args_object_init_2 obj _) F.entry_enumerate_new (meets_enum1 B) ⟨h1, ?_⟩
  have hz : (s.heap.push o).objs.size = s.heap.objs.size + 1 := Heap.size_push ..
  show _ ∧ _
  rw [hz]
  have he : IsEnum ((s.heap.push o).push { cls := .type "enumerate", data := .fields #[.none, .bool false, .ref s.heap.objs.size, rawInt 0, .none, .none] }) (s.heap.objs.size + 1) s.heap.objs.size 0 .none := by
    have := Heap.get?_push_size (s.heap.push o) (o := { cls := .type "enumerate", data := .fields #[.none, .bool false, .ref s.heap.objs.size, rawInt 0, .none, .none] }) rfl
    rw [hz] at this; exact this
  refine ⟨⟨_, he, rfl⟩, h _ he (Heap.get?_push_of_some _ (Heap.get?_push_size _ B.free)) (by rw [Heap.size_push, hz]) fun b o x => Heap.get?_push_of_some _ (Heap.get?_push_of_some _ x)⟩
/-- the tuple at a, each item in a new pair -/
def IteT (K : PySem.W.Frag) (a : Addr) : It :=
  ⟨fun i H => ∃ (xs : List V) (x : V), SqT K H a xs ∧ xs[i]? = some x, fun i H v H' => ∃ T x, v = .ref T ∧ H T = none ∧ H' = upd H T (.tup [.int (i : Nat), x]) ∧ ∀ xs, SqT K H a xs → xs[i]? = some x, fun i H => ∃ xs : List V, SqT K H a xs ∧ xs.length = i⟩
theorem turn_enumT {P : Program} {w : World} {K : PySem.W.Frag} {elts : List Expr} {kk : Nat} {tpos : Pos} (a e it : Addr) :
    Turn P w K (.Tuple elts kk tpos) (IteT K a) [e, it] e (fun i h => (∃ old, IsEnum h e it ((i : Nat) : Int) old) ∧ h.IsTupleIter it a i ∧ e ≠ it ∧ a ≠ it ∧ a ≠ e) where
  mem := by simp
  obj := fun i h st b hb => by
    obtain ⟨⟨old, he⟩, ⟨o, ho, hc, hd⟩, _⟩ := st
    have e' : b = e ∨ b = it := by simpa using hb
    rcases e' with z | z
    · rw [z]; exact ⟨_, he, fun v q => nomatch q⟩
    · rw [z]; exact ⟨o, ho, fun v q => by rw [hd] at q; cases q⟩
  keep := fun i h h' st k => let ⟨⟨old, he⟩, hi, hne⟩ := st; ⟨⟨old, k e (by simp) _ he⟩, hi.at fun o q => k it (by simp) o q, hne⟩
  item := by
    intro X hP hw hK hc i pins s σ H E I hf st hg
    subst hP hw hK
    obtain ⟨⟨old, he⟩, hit, hne, hai, hae⟩ := st
    obtain ⟨xs, x, hq, hx⟩ := hg
    obtain ⟨its, rv, p, hz⟩ := I.tuple hq
    have p : s.heap.IsTuple a its.toArray := p
    obtain ⟨u, hu, ru⟩ := rv.get hx
    have hel : e < s.heap.objs.size := Heap.lt_size he
    have hil : it < s.heap.objs.size := by obtain ⟨_, q, _⟩ := hit; exact Heap.lt_size q
    have hlt : i < its.toArray.size := by simpa using (List.getElem?_eq_some_iff.mp hu).1
    refine wpAny_pyNext_enum_itemD (Draws.tuple (prog := X.prog) (w := X.w) (A := X.A.in1) (by show X.A.handled = none; exact I.ok.hd hc) it a hai its.toArray) he ⟨hit, p⟩ hlt hne (by simp; exact ⟨hne, fun z => hae z.symm⟩) fun x' h' tk hPx ho hs' hT hsz hk => ?_
    have ex' : u = x' := by
      have h1 : its.toArray[i]? = some u := by simpa using hu
      rw [h1] at hPx
      exact Option.some.inj hPx
    subst ex'
    refine ⟨_, rfl, wpAny_letOwnedTupleGo_enum (s := { s with heap := h', toks := tk + 1 }) ho fun h'' he' sb => ?_⟩
    have hT2 : h''.get? s.heap.objs.size = some { cls := .type "tuple", data := .seq #[.int i tk, u] } := (sb.2 _ (Nat.ne_of_gt hel)).trans hT
    have new : ObjOk X.prog X.w (upd H s.heap.objs.size (.tup [.int (i : Nat), x])) h'' s.heap.objs.size (.tup [.int (i : Nat), x]) :=
      ⟨by show 2 ≤ sizeLine; decide, [.int i tk, u], .cons ⟨_, rfl⟩ (.cons ru .nil), ⟨_, hT2, rfl, _, rfl⟩⟩
    have I1 : Inv X pins σ (upd H s.heap.objs.size (.tup [.int (i : Nat), x])) { s with heap := h'', toks := tk + 1 } :=
      I.turnedNew (ch := [e, it]) (fun b ob hb q => (sb.2 b (fun z => hb (by simp [z]))).trans (hk b ob (fun z => hb (by simp [z])) (fun z => hb (by simp [z])) q)) hf (Nat.le_refl _) new
    refine ⟨.ref s.heap.objs.size, _, I1, rfl, ⟨_, x, rfl, I.hok.fresh (Nat.le_refl _), rfl, fun ys hy => by rw [I.tuple_inj hy hq]; exact hx⟩, ⟨⟨u, ?_⟩, hs'.1.at fun o q => (sb.2 it (Ne.symm hne)).trans q, hne, hai, hae⟩, fun b hb => ?_⟩
    · have e1 : ((i + 1 : Nat) : Int) = (i : Int) + 1 := by omega
      rw [e1]; exact he'
    · have hb' : b < s.heap.objs.size := by
        have e' : b = e ∨ b = it := by simpa using hb
        rcases e' with z | z
        · rw [z]; exact hel
        · rw [z]; exact hil
      rw [upd_ne (Nat.ne_of_lt hb')]
      exact (hf b hb).1
  done := by
    intro X hP hw hK hc i pins s σ H E I hf st hg
    subst hP hw hK
    obtain ⟨⟨old, he⟩, hit, hne, hai, hae⟩ := st
    obtain ⟨xs, hq, hx⟩ := hg
    obtain ⟨its, rv, p, hz⟩ := I.tuple hq
    have p : s.heap.IsTuple a its.toArray := p
    obtain ⟨f0, f1, f2, f3, f4, f5⟩ := hf it (by simp)
    have hl := rv.length
    have e : i = its.toArray.size := by simp; omega
    subst e
    exact wpAny_pyNext_enum_endD (Draws.tuple (prog := X.prog) (w := X.w) (A := X.A.in1) (by show X.A.handled = none; exact I.ok.hd hc) it a hai its.toArray) he ⟨hit, p⟩ fun h' eb => ⟨rfl, I.turned (t' := s.toks) (fun b o hb q => eb b o hb q) f0 f1 f3 f4 f5⟩
  self := fun A i s Q E st h => let ⟨⟨_, he⟩, _⟩ := st; wpAny_pyIter_enum he h
def iEnT (K : PySem.W.Frag) (ta : TA) : TI := fun σ H R => ta σ H fun vs H1 => ∃ a, vs = [.ref a] ∧ ((∃ xs, SqL K H1 a xs) ∧ R (Ite K a) H1 ∨ (∃ xs, SqT K H1 a xs) ∧ R (IteT K a) H1)
theorem pi_en {X : Cx} {e : Expr} {ta : TA} {p pos tpos : Pos} {elts : List Expr} {kk : Nat} (hg : Gl X "enumerate") (hm : X.mg "enumerate" = none) (ha : PA X [e] ta) (hs : starEach [e] X.env = [(false, eval e X.env)] := by rfl) :
    PI X (.Tuple elts kk tpos) (.Call (.Name "enumerate" p) [e] [] pos) (iEnT X.K ta) := by
  refine ⟨fun pins s σ H R I h => ?_⟩
  refine Call_ (ld_blt I hg hm boot_enumerate (PyProof.Rows.callWith_type1 (thn (ha.run pos pins s σ H _ I h) fun us s1 ⟨vs, H1, I1, r1, q1⟩ => ?_) hs rfl))
  obtain ⟨a, ex, q⟩ := q1
  subst ex
  cases r1 with
  | cons r rr =>
    cases rr
    cases r
    rcases q with ⟨⟨xs, hq⟩, q⟩ | ⟨⟨xs, hq⟩, q⟩
    · obtain ⟨its, rv, p', hz⟩ := I1.list hq
      refine call_enumerate_list p'.isList fun h' he hit hsz hk => wpAny_pyIter_enum he ?_
      have I2 : Inv X pins σ H1 { s1 with heap := h' } := I1.kept (t' := s1.toks) hk
      refine ⟨s1.heap.objs.size + 1, [s1.heap.objs.size + 1, s1.heap.objs.size], _, _, H1, rfl, I2, turn_enum a (s1.heap.objs.size + 1) s1.heap.objs.size, ⟨⟨.none, he⟩, hit, Nat.succ_ne_self _⟩, fun b hb => ?_, q⟩
      have e' : b = s1.heap.objs.size + 1 ∨ b = s1.heap.objs.size := by simpa using hb
      have hle : s1.heap.objs.size ≤ b := by
        rcases e' with z | z
        · rw [z]; exact Nat.le_add_right _ _
        · rw [z]; exact Nat.le_refl _
      exact I1.fpOk hle (I1.hok.fresh hle)
    · obtain ⟨its, rv, p', hz⟩ := I1.tuple hq
      have p2 : s1.heap.IsTuple a its.toArray := p'
      refine call_enum1 (begins_tuple a its.toArray) p2 fun h' he hit hsz hk => wpAny_pyIter_enum he ?_
      have I2 : Inv X pins σ H1 { s1 with heap := h' } := I1.kept (t' := s1.toks) hk
      have hla : a < s1.heap.objs.size := by obtain ⟨_, q, _⟩ := p2; exact Heap.lt_size q
      refine ⟨s1.heap.objs.size + 1, [s1.heap.objs.size + 1, s1.heap.objs.size], _, _, H1, rfl, I2, turn_enumT a (s1.heap.objs.size + 1) s1.heap.objs.size, ⟨⟨.none, he⟩, ⟨_, hit, rfl, rfl⟩, Nat.succ_ne_self _, Nat.ne_of_lt hla, Nat.ne_of_lt (Nat.lt_succ_of_lt hla)⟩, fun b hb => ?_, q⟩
      have e' : b = s1.heap.objs.size + 1 ∨ b = s1.heap.objs.size := by simpa using hb
      have hle : s1.heap.objs.size ≤ b := by
        rcases e' with z | z
        · rw [z]; exact Nat.le_add_right _ _
        · rw [z]; exact Nat.le_refl _
      exact I1.fpOk hle (I1.hok.fresh hle)
/-- the pairs of an enumeration -/
def enumP (ds : List D) : List D := ds.zipIdx.map fun p => D.tup [.int p.2, p.1]
theorem enumP_get {ds : List D} {i : Nat} {d : D} (h : (enumP ds)[i]? = some d) : ∃ x, ds[i]? = some x ∧ d = .tup [.int i, x] := by
  unfold enumP at h
  rw [List.getElem?_map, List.getElem?_zipIdx] at h
  cases e : ds[i]? with
  | none => rw [e] at h; cases h
  | some x =>
    rw [e] at h
    refine ⟨x, rfl, ?_⟩
    simpa using h.symm
theorem enumP_length {ds : List D} : (enumP ds).length = ds.length := by simp [enumP]
/-- items of a list or a tuple that stay while it is walked -/
theorem its_at {K : PySem.W.Frag} {mg : Str → Option Value} {μ1 : List Addr} {G1 F1 : Hp} {st1 : Store} {H1 : Hp} {x : D} {v : V} {it : Its} (k1 : Kn K mg μ1 G1 F1 st1 H1) (rv : Rep K μ1 G1 x v) (e : itsOf st1 x = some it) :
    ∃ a, v = .ref a ∧ (((∃ xs, SqL K H1 a xs) ∧ ∀ μ2 G2 F2 st2 H2, Fut μ1 G1 μ2 G2 → Kn K mg μ2 G2 F2 st2 H2 → grd it st2 → ∃ xs, SqL K H2 a xs ∧ Reps K μ2 G2 it.1 xs) ∨
      ((∃ xs, SqT K H1 a xs) ∧ ∀ μ2 G2 F2 st2 H2, Fut μ1 G1 μ2 G2 → Kn K mg μ2 G2 F2 st2 H2 → grd it st2 → ∃ xs, SqT K H2 a xs ∧ Reps K μ2 G2 it.1 xs)) := by
  cases x with
  | tup ds =>
    injection e with e
    subst e
    obtain ⟨a, vs', rfl, hs, rs⟩ := rep_tup rv
    exact ⟨a, rfl, .inr ⟨⟨vs', k1.ex.sqt hs⟩, fun μ2 G2 F2 st2 H2 f2 k2 _ => ⟨vs', k2.ex.sqt (f2.ex.sqt hs), rs.fut f2⟩⟩⟩
  | lst ds =>
    injection e with e
    subst e
    obtain ⟨a, vs', rfl, hs, rs⟩ := rep_lst rv
    exact ⟨a, rfl, .inl ⟨⟨vs', .of (k1.ex _ _ hs)⟩, fun μ2 G2 F2 st2 H2 f2 k2 _ => ⟨vs', .of (k2.ex _ _ (f2.ex _ _ hs)), rs.fut f2⟩⟩⟩
  | frz ds =>
    injection e with e
    subst e
    obtain ⟨a, vs', rfl, hs, rs⟩ := rep_frz rv
    exact ⟨a, rfl, .inl ⟨⟨vs', k1.ex.sql hs⟩, fun μ2 G2 F2 st2 H2 f2 k2 _ => ⟨vs', k2.ex.sql (f2.ex.sql hs), rs.fut f2⟩⟩⟩
  | loc n =>
    unfold itsOf at e
    cases hc : lstAt st1 n with
    | none => simp only [hc] at e; cases e
    | some ds =>
      simp only [hc] at e
      injection e with e
      subst e
      obtain ⟨a, rfl, ha⟩ := rep_loc rv
      obtain ⟨a', vs', e', hs, rs⟩ := lstOf_rep (ds := ds) k1 rv hc
      cases e'
      refine ⟨a, rfl, .inl ⟨⟨vs', .of hs⟩, fun μ2 G2 F2 st2 H2 f2 k2 g2 => ?_⟩⟩
      obtain ⟨a2, vs2, e2, hs2, rs2⟩ := lstOf_rep (d := .loc n) (ds := ds) k2 (.loc (f2.at ha)) (lstAt_of g2.1)
      cases e2
      exact ⟨vs2, .of hs2, rs2⟩
  | _ => cases e
def iEn (m : EMs) : IM := fun vs st => (m vs st).bind fun xs st => match xs with
  | [x] => (match itsOf st x with
    | some it => .ok (enumP it.1, it.2) st
    | none => .bad)
  | _ => .bad
theorem pair_new {K : PySem.W.Frag} {mg : Str → Option Value} {μ : List Addr} {G F : Hp} {st : Store} {H : Hp} {T : Addr} {ds : List D} {vs : List V} (k : Kn K mg μ G F st H) (hT : H T = none) (r : Reps K μ G ds vs) :
    ∃ G'', Fut μ G μ G'' ∧ Kn K mg μ G'' F st (upd H T (.tup vs)) ∧ Rep K μ G'' (.tup ds) (.ref T) := by
  have f : Fut μ G μ (upd G T (.tup vs)) := .know (.new (k.ex.free hT))
  exact ⟨_, f, k.learn hT, .tup (.of upd_same) (r.fut f)⟩
section
variable {X : Cx} {W : WX} {e : Expr} {elts : List Expr} {kk : Nat} {ms : EMs} {p pos tpos : Pos}
theorem i_en (hm : X.mg "enumerate" = none) (ha : MA X W [e] ms) (hms : ALen ms 1 := by repeat constructor) (hg : Gl X "enumerate" := by rfl) (hs : starEach [e] X.env = [(false, eval e X.env)] := by rfl) :
    MI X W (.Tuple elts kk tpos) (.Call (.Name "enumerate" p) [e] [] pos) (iEn ms) := (pi_en hg hm ha hs).of fun σ H R h => by
  obtain ⟨vs, st, μ, G, F, re, k, h⟩ := h
  unfold iEn at h
  cases hd : ms vs st with
  | bad => rw [hd] at h; exact h.elim
  | exc ex st1 => rw [hd] at h; exact ⟨vs, st, μ, G, F, re, k, by rw [hd]; exact h⟩
  | ok ds st1 =>
    rw [hd] at h
    refine ⟨vs, st, μ, G, F, re, k, ?_⟩
    rw [hd]
    intro μ1 G1 H1 f1 k1 ws rws
    have hl := hms.len hd
    have h1 := Done.fut f1 h
    obtain ⟨d, rfl⟩ : ∃ d, ds = [d] := by
      match ds, hl with
      | [d], _ => exact ⟨d, rfl⟩
    obtain ⟨v, rfl, rv⟩ := reps_one rws
    cases hi : itsOf st1 d with
    | none => simp only [Re.bind, hi] at h1; exact h1.elim
    | some it =>
      simp only [Re.bind, hi] at h1
      obtain ⟨g, q⟩ := Done.here k1 h1
      obtain ⟨a, rfl, hq⟩ := its_at k1 rv hi
      rcases hq with ⟨he, hq⟩ | ⟨he, hq⟩
      · refine ⟨a, rfl, .inl ⟨he, q _ fun μ2 G2 F2 st2 H2 f2 k2 g2 => ?_⟩⟩
        obtain ⟨xs, hx, rx⟩ := hq μ2 G2 F2 st2 H2 f2 k2 g2
        refine ⟨⟨xs, hx, by rw [rx.length]; exact Nat.le_of_eq enumP_length.symm⟩, fun i d hd => ?_⟩
        obtain ⟨y, hy, rfl⟩ := enumP_get hd
        obtain ⟨w, hw, rw'⟩ := rx.get hy
        refine ⟨⟨xs, w, hx, hw⟩, fun z H3 hz => ?_⟩
        obtain ⟨T, w', rfl, hT, rfl, hall⟩ := hz
        have := hall xs hx
        rw [hw] at this
        cases this
        exact pair_new k2 hT (.cons .int (.cons rw' .nil))
      · refine ⟨a, rfl, .inr ⟨he, q _ fun μ2 G2 F2 st2 H2 f2 k2 g2 => ?_⟩⟩
        obtain ⟨xs, hx, rx⟩ := hq μ2 G2 F2 st2 H2 f2 k2 g2
        refine ⟨⟨xs, hx, by rw [rx.length]; exact enumP_length.symm⟩, fun i d hd => ?_⟩
        obtain ⟨y, hy, rfl⟩ := enumP_get hd
        obtain ⟨w, hw, rw'⟩ := rx.get hy
        refine ⟨⟨xs, w, hx, hw⟩, fun z H3 hz => ?_⟩
        obtain ⟨T, w', rfl, hT, rfl, hall⟩ := hz
        have := hall xs hx
        rw [hw] at this
        cases this
        exact pair_new k2 hT (.cons .int (.cons rw' .nil))
end
end Dn
namespace Dn
open PySem PySem.Spec PyProof.Rows L2

/-! ### dicts whose keys are ints and texts -/
def keyK : D → Option Key
  | .int i => some (.inl i)
  | .str z => some (.inr z)
  | _ => none
section
variable {κ : Type} [DecidableEq κ]
def getK (kvs : List (κ × D)) (k : κ) : Option D := (kvs.find? fun p => decide (p.1 = k)).map (·.2)
def setK (kvs : List (κ × D)) (k : κ) (d : D) : List (κ × D) := if (kvs.any fun p => decide (p.1 = k)) = true then kvs.map (fun p => if p.1 = k then (p.1, d) else p) else kvs ++ [(k, d)]
end
theorem keyK_rep {K : PySem.W.Frag} {μ : List Addr} {G : Hp} {d : D} {v : V} {k : Key} (r : Rep K μ G d v) (e : keyK d = some k) : v = kV k := by
  cases d with
  | int i => injection e with e; subst e; exact rep_int r
  | str z => injection e with e; subst e; exact rep_str r
  | _ => cases e
def relO (K : PySem.W.Frag) (μ : List Addr) (G : Hp) : Option D → Option V → Prop
  | none, o => o = none
  | some d, o => ∃ v, o = some v ∧ Rep K μ G d v
section
variable {K : PySem.W.Frag} {mg : Str → Option Value} {μ : List Addr} {G F : Hp} {st : Store} {H : Hp} {κ : Type} [DecidableEq κ]
theorem repKV_get {k : κ} : ∀ {kvs : List (κ × D)} {ps : List (κ × V)}, RepKV K μ G kvs ps → relO K μ G (getK kvs k) (valV ps k)
  | [], ps, h => by
    have : ps = [] := h
    subst this
    rfl
  | (j, d) :: r, ps, h => by
    obtain ⟨v, s, rfl, hv, t⟩ := h
    by_cases e : j = k
    · subst e
      have h1 : getK ((j, d) :: r) j = some d := by simp [getK]
      have h2 : valV ((j, v) :: s) j = some v := by simp [valV]
      rw [h1, h2]
      exact ⟨v, rfl, hv⟩
    · have h1 : getK ((j, d) :: r) k = getK r k := by simp [getK, List.find?_cons, e]
      have h2 : valV ((j, v) :: s) k = valV s k := by simp [valV, List.find?_cons, e]
      rw [h1, h2]
      exact repKV_get t
theorem repKV_any {k : κ} : ∀ {kvs : List (κ × D)} {ps : List (κ × V)}, RepKV K μ G kvs ps → (kvs.any fun p => decide (p.1 = k)) = ps.any fun p => decide (p.1 = k)
  | [], ps, h => by
    have : ps = [] := h
    subst this
    rfl
  | (j, d) :: r, ps, h => by
    obtain ⟨v, s, rfl, hv, t⟩ := h
    rw [List.any_cons, List.any_cons, repKV_any t]
theorem repKV_append : ∀ {kvs kvs' : List (κ × D)} {ps ps' : List (κ × V)}, RepKV K μ G kvs ps → RepKV K μ G kvs' ps' → RepKV K μ G (kvs ++ kvs') (ps ++ ps')
  | [], _, ps, _, h, h' => by
    have : ps = [] := h
    subst this
    exact h'
  | (j, d) :: r, _, ps, _, h, h' => by
    obtain ⟨v, s, rfl, hv, t⟩ := h
    exact ⟨v, s ++ _, rfl, hv, repKV_append t h'⟩
theorem repKV_map {k : κ} {d : D} {v : V} (hd : Rep K μ G d v) : ∀ {kvs : List (κ × D)} {ps : List (κ × V)}, RepKV K μ G kvs ps → RepKV K μ G (kvs.map fun p => if p.1 = k then (p.1, d) else p) (ps.map fun p => if p.1 = k then (p.1, v) else p)
  | [], ps, h => by
    have : ps = [] := h
    subst this
    rfl
  | (j, e) :: r, ps, h => by
    obtain ⟨w, s, rfl, hw, t⟩ := h
    have ih := repKV_map (k := k) hd t
    by_cases e' : j = k
    · subst e'
      have h1 : (List.map (fun p => if p.1 = j then (p.1, d) else p) ((j, e) :: r)) = (j, d) :: r.map fun p => if p.1 = j then (p.1, d) else p := by simp
      have h2 : (List.map (fun p => if p.1 = j then (p.1, v) else p) ((j, w) :: s)) = (j, v) :: s.map fun p => if p.1 = j then (p.1, v) else p := by simp
      rw [h1, h2]
      exact ⟨v, _, rfl, hd, ih⟩
    · have h1 : (List.map (fun p => if p.1 = k then (p.1, d) else p) ((j, e) :: r)) = (j, e) :: r.map fun p => if p.1 = k then (p.1, d) else p := by simp [e']
      have h2 : (List.map (fun p => if p.1 = k then (p.1, v) else p) ((j, w) :: s)) = (j, w) :: s.map fun p => if p.1 = k then (p.1, v) else p := by simp [e']
      rw [h1, h2]
      exact ⟨w, _, rfl, hw, ih⟩
theorem repKV_put {k : κ} {d : D} {v : V} (hd : Rep K μ G d v) {kvs : List (κ × D)} {ps : List (κ × V)} (h : RepKV K μ G kvs ps) : RepKV K μ G (setK kvs k d) (putK ps k v) := by
  unfold setK putK
  rw [repKV_any h]
  split
  · exact repKV_map hd h
  · exact repKV_append h ⟨v, [], rfl, hd, rfl⟩
end
/-- what x holds at the key y, x a dict -/
def dGet (st : Store) (x y : D) : Option (Option D) := match x with
  | .loc n => match cell st n with
    | some (.dct kvs) => (keyK y).map fun k => getK kvs k
    | _ => none
  | _ => none
section
variable {X : Cx} {K : PySem.W.Frag} {mg : Str → Option Value} {μ : List Addr} {G F : Hp} {st : Store} {H : Hp} {x y : D} {v w : V} {o : Option D}
theorem dGet_rep (k : Kn K mg μ G F st H) (rx : Rep K μ G x v) (ry : Rep K μ G y w) (e : dGet st x y = some o) : ∃ a o', v = .ref a ∧ DGet H a w o' ∧ relO K μ G o o' := by
  unfold dGet at e
  split at e
  · rename_i n
    split at e
    · rename_i kvs hc
      obtain ⟨a, ps, rfl, _, hs, rp⟩ := dct_rep k rx hc
      cases hk : keyK y with
      | none => rw [hk] at e; cases e
      | some q =>
        rw [hk] at e
        injection e with e
        subst e
        rw [keyK_rep ry hk]
        exact ⟨a, _, rfl, .k hs, repKV_get rp⟩
    · cases e
  · cases e
end
/-- o[i] of a sequence or a dict -/
def ixA (x y : D) (st : Store) : Re D := match dGet st x y with
  | some (some d) => .ok d st
  | some none => .bad
  | none => ixD x y st
def rIxDct : R2 := fun x y H Q => ∃ a v, x = .ref a ∧ DGet H a y (some v) ∧ Q v H
abbrev rIxA (K : PySem.W.Frag) : R2 := fun x y H Q => rIxDct x y H Q ∨ rIx K x y H Q
section
variable {X : Cx} {K : PySem.W.Frag} {mg : Str → Option Value}
theorem ix_dct (hu : X.A.units + 1 < cLine) : IxR X rIxDct := by
  intro value slice pins s σ H x y v u Q I rx ry h hs
  obtain ⟨a, z, rfl, g, q⟩ := h
  obtain rfl : v = Value.ref a := rx
  exact PyProof.Rows.tail_any (dict_typeIs I g) PySem.F.slot_dict_getitem.lookup (d_getItem hu I g ry fun w' s3 I3 rw' => ⟨z, H, I3, rw', q⟩) hs
theorem ix_a (hu : X.A.units + 1 < cLine) : IxR X (rIxA X.K) := (ix_dct hu).or ix_seq
theorem s_ixA : S2 K mg ixA (rIxA K) := by
  intro W σ μ G F st H x y v w Q k rx ry h
  unfold ixA at h
  split at h
  · rename_i d e
    obtain ⟨a, o', rfl, g, ro⟩ := dGet_rep k rx ry e
    obtain ⟨z, rfl, rz⟩ := ro
    exact .inl ⟨a, z, rfl, g, fin_here k h rz⟩
  · exact h.elim
  · exact .inr (s_ix W σ μ G F st H x y v w Q k rx ry h)
end
section
variable {X : Cx} {W : WX} {a b c : Expr} {ma mb mc : EM} {pos : Pos}
theorem m_ixA (hu : X.A.units + 1 < cLine) (ha : ME X W a ma) (hb : ME X W b mb) (hs : PlainIx b := by exact fun _ _ => rfl) : ME X W (.Subscript a b pos) (e2 ixA ma mb) := (pe_ix (ix_a hu) ha hb hs).of (two_of s_ixA ha hb)
end
/-- y in x -/
def inA (neg : Bool) (f : D → D → Store → Re D) (y x : D) (st : Store) : Re D := match dGet st x y with
  | some o => .ok (.bl (if neg then !o.isSome else o.isSome)) st
  | none => f y x st
def rInDct (neg : Bool) : R2 := fun y x H Q => ∃ a o, x = .ref a ∧ DGet H a y o ∧ Q (.bl (if neg then !o.isSome else o.isSome)) H
section
variable {X : Cx} {K : PySem.W.Frag} {mg : Str → Option Value}
theorem op_inDct (hu : X.A.units + 1 < cLine) : OpR X (compareOp .In) (rInDct false) := by
  intro pins s σ H x y v u Q I rx ry h
  obtain ⟨a, o, rfl, g, q⟩ := h
  obtain rfl : u = Value.ref a := ry
  exact d_in hu I g rx fun s3 I3 => ⟨.bl o.isSome, H, I3, rfl, q⟩
theorem op_ninDct (hu : X.A.units + 1 < cLine) : OpR X (compareOp .NotIn) (rInDct true) := by
  intro pins s σ H x y v u Q I rx ry h
  obtain ⟨a, o, rfl, g, q⟩ := h
  obtain rfl : u = Value.ref a := ry
  exact d_notIn hu I g rx fun s3 I3 => ⟨.bl (!o.isSome), H, I3, rfl, q⟩
theorem units1 (hu : X.A.units + 65 < cLine) : X.A.units + 1 < cLine := by omega
theorem or_inA (hu : X.A.units + 65 < cLine) : OpR X (compareOp .In) (fun x y H Q => rInDct false x y H Q ∨ rInB X.K false x y H Q) := OpR.or (r := rInDct false) (op_inDct (units1 hu)) (or_in hu)
theorem or_ninA (hu : X.A.units + 65 < cLine) : OpR X (compareOp .NotIn) (fun x y H Q => rInDct true x y H Q ∨ rInB X.K true x y H Q) := OpR.or (r := rInDct true) (op_ninDct (units1 hu)) (or_nin hu)
theorem relO_isSome {μ : List Addr} {G : Hp} {o : Option D} {o' : Option V} (r : relO K μ G o o') : o'.isSome = o.isSome := by
  cases o with
  | none => have : o' = none := r; rw [this]; rfl
  | some d => obtain ⟨v, rfl, _⟩ := r; rfl
theorem s_inA {neg : Bool} {f : D → D → Store → Re D} {r : R2} (hf : S2 K mg f r) : S2 K mg (inA neg f) (fun x y H Q => rInDct neg x y H Q ∨ r x y H Q) := by
  intro W σ μ G F st H x y v w Q k rx ry h
  unfold inA at h
  split at h
  · rename_i o e
    obtain ⟨a, o', rfl, g, ro⟩ := dGet_rep k ry rx e
    refine .inl ⟨a, o', rfl, g, ?_⟩
    rw [relO_isSome ro]
    exact fin_here k h .bl
  · exact .inr (hf W σ μ G F st H x y v w Q k rx ry h)
end
/-! ### d[k] = v -/
def setA : SD := fun x y z st => match x with
  | .loc n => match cell st n with
    | some (.dct kvs) => (keyK y).bind fun k => if room (kvs.length + 1) then some (st.set n (some (.dct (setK kvs k z)))) else none
    | _ => setD x y z st
  | _ => setD x y z st
def rSetA : TSet := fun o i v H Q => rSetD o i v H Q ∨ rSetL o i v H Q
section
variable {X : Cx} {K : PySem.W.Frag} {mg : Str → Option Value}
theorem set_a (hu : X.A.units + 1 < cLine) : PSet X rSetA := by
  intro pins s σ H o i v ov iv u Q I ro ri rv h
  rcases h with h | h
  · exact set_dict hu pins s σ H o i v ov iv u Q I ro ri rv h
  · exact set_list pins s σ H o i v ov iv u Q I ro ri rv h
theorem s_setA : SSet K mg setA rSetA := by
  intro μ G F st st' H x y z v w u Q k rx ry rz e q
  unfold setA at e
  split at e
  · rename_i n
    split at e
    · rename_i kvs hc
      obtain ⟨a, ps, rfl, ha, hs, rp⟩ := dct_rep k rx hc
      cases hk : keyK y with
      | none => rw [hk] at e; cases e
      | some j =>
        rw [hk] at e
        have e' : (if room (kvs.length + 1) then some (st.set n (some (.dct (setK kvs j z)))) else none) = some st' := e
        split at e'
        · rename_i hr
          injection e' with e3
          subst e3
          rw [keyK_rep ry hk]
          refine .inl ⟨a, _, rfl, .k hs (by rw [repKV_length rp]; exact room_lt (by omega)), q _ (k.write (cell_some hc) ha ⟨_, rfl, repKV_put rz rp⟩)⟩
        · cases e'
    · exact .inr (s_setL μ G F st st' H _ y z v w u Q k rx ry rz e q)
  · exact .inr (s_setL μ G F st st' H _ y z v w u Q k rx ry rz e q)
end
/-! ### displays -/
abbrev EPs := Vars → Store → Re (List (D × D))
def pNil : EPs := fun _ st => .ok [] st
def pCons (k v : EM) (r : EPs) : EPs := fun vs st => (k vs st).bind fun x st => (v vs st).bind fun y st => (r vs st).bind fun ps st => .ok ((x, y) :: ps) st
def keysK : List (D × D) → Option (List (Key × D))
  | [] => some []
  | (k, d) :: r => (keyK k).bind fun k => (keysK r).map fun r => (k, d) :: r
def mergeD (kvs more : List (Key × D)) : List (Key × D) := more.foldl (fun acc kv => setK acc kv.1 kv.2) kvs
def eDsp (ps : EPs) : EM := fun vs st => (ps vs st).bind fun ps st => match keysK ps with
  | some kvs => .ok (.loc st.length) (st ++ [some (.dct (mergeD [] kvs))])
  | none => .bad
def RepPs (K : PySem.W.Frag) (μ : List Addr) (G : Hp) : List (D × D) → List (V × V) → Prop
  | [], ws => ws = []
  | (k, d) :: r, ws => ∃ x y t, ws = (x, y) :: t ∧ Rep K μ G k x ∧ Rep K μ G d y ∧ RepPs K μ G r t
theorem RepPs.fut {K : PySem.W.Frag} {μ μ' : List Addr} {G G' : Hp} (f : Fut μ G μ' G') : ∀ {l : List (D × D)} {ws : List (V × V)}, RepPs K μ G l ws → RepPs K μ' G' l ws
  | [], _, h => h
  | (k, d) :: r, ws, h => by
    obtain ⟨x, y, t, e, h1, h2, h3⟩ := h
    exact ⟨x, y, t, e, h1.fut f, h2.fut f, RepPs.fut f h3⟩
abbrev tPs (K : PySem.W.Frag) (mg : Str → Option Value) (W : WX) (m : EPs) : L2.St → Hp → (List (V × V) → Hp → Prop) → Prop := fun σ H Q => ∃ vs st μ G F, RepE K μ G vs σ ∧ Kn K mg μ G F st H ∧ Done K mg W σ μ G F (m vs st) fun μ' G' ps _ H' => ∀ ws, RepPs K μ' G' ps ws → Q ws H'
/-- the pairs of a display -/
structure MPs (X : Cx) (W : WX) (pos : Pos) (keys : List (Option Expr)) (values : List Expr) (m : EPs) : Prop where
  ex : ∃ trs, PPs X pos keys values trs ∧ ∀ σ H Q, tPs X.K X.mg W m σ H Q → tPairs trs σ H Q
section
variable {X : Cx} {W : WX} {pos : Pos} {k v : Expr} {ks : List (Option Expr)} {vs : List Expr} {mk mv : EM} {mr : EPs}
theorem mp_nil : MPs X W pos [] [] pNil := ⟨[], pps_nil, fun σ H Q h => by
  obtain ⟨vs, st, μ, G, F, re, k, h⟩ := h
  exact Done.here k h [] rfl⟩
theorem mp_cons (hk : ME X W k mk) (hv : ME X W v mv) (hr : MPs X W pos ks vs mr) : MPs X W pos (some k :: ks) (v :: vs) (pCons mk mv mr) := by
  obtain ⟨trs, h1, h2⟩ := hr.ex
  refine ⟨_, pps_cons hk hv h1, fun σ H Q h => ?_⟩
  obtain ⟨vs, st, μ, G, F, re, kn, h⟩ := h
  refine ⟨vs, st, μ, G, F, re, kn, (Done.bind h).mono fun μ1 G1 x st1 H1 f1 k1 q1 u ru => ?_⟩
  refine ⟨vs, st1, μ1, G1, F, re.fut f1, k1, (Done.bind q1).mono fun μ2 G2 y st2 H2 f2 k2 q2 w rw' => ?_⟩
  refine h2 σ H2 _ ⟨vs, st2, μ2, G2, F, (re.fut f1).fut f2, k2, (Done.bind q2).mono fun μ3 G3 ps st3 H3 f3 k3 q3 ws rws => ?_⟩
  exact Done.here k3 q3 _ ⟨u, w, ws, rfl, (ru.fut f2).fut f3, rw'.fut f3, rws⟩
theorem keys_rep {K : PySem.W.Frag} {μ : List Addr} {G : Hp} : ∀ {ps : List (D × D)} {ws : List (V × V)} {kvs : List (Key × D)}, RepPs K μ G ps ws → keysK ps = some kvs → ∃ qs : List (Key × V), ws = qs.map (fun kv => (kV kv.1, kv.2)) ∧ RepKV K μ G kvs qs
  | [], ws, kvs, h, e => by
    have : ws = [] := h
    subst this
    injection e with e
    subst e
    exact ⟨[], rfl, rfl⟩
  | (k, d) :: r, ws, kvs, h, e => by
    obtain ⟨x, y, t, rfl, h1, h2, h3⟩ := h
    unfold keysK at e
    cases hk : keyK k with
    | none => rw [hk] at e; cases e
    | some q =>
      rw [hk] at e
      have e' : ((keysK r).map fun r => (q, d) :: r) = some kvs := e
      cases hr : keysK r with
      | none => rw [hr] at e'; cases e'
      | some rs =>
        rw [hr] at e'
        injection e' with e'
        subst e'
        obtain ⟨qs, rfl, rq⟩ := keys_rep h3 hr
        exact ⟨(q, y) :: qs, by rw [keyK_rep h1 hk]; rfl, ⟨y, qs, rfl, h2, rq⟩⟩
theorem repKV_merge {K : PySem.W.Frag} {μ : List Addr} {G : Hp} : ∀ {more : List (Key × D)} {ms : List (Key × V)} {kvs : List (Key × D)} {ps : List (Key × V)}, RepKV K μ G more ms → RepKV K μ G kvs ps → RepKV K μ G (mergeD kvs more) (mergeK ps ms)
  | [], ms, kvs, ps, h, h' => by
    have : ms = [] := h
    subst this
    exact h'
  | (k, d) :: r, ms, kvs, ps, h, h' => by
    obtain ⟨v, s, rfl, hv, t⟩ := h
    have := repKV_merge t (repKV_put (k := k) hv h')
    exact this
theorem keysK_length : ∀ {ps : List (D × D)} {kvs : List (Key × D)}, keysK ps = some kvs → kvs.length = ps.length
  | [], kvs, e => by injection e with e; subst e; rfl
  | (k, d) :: r, kvs, e => by
    unfold keysK at e
    cases hk : keyK k with
    | none => rw [hk] at e; cases e
    | some q =>
      rw [hk] at e
      have e' : ((keysK r).map fun r => (q, d) :: r) = some kvs := e
      cases hr : keysK r with
      | none => rw [hr] at e'; cases e'
      | some rs =>
        rw [hr] at e'
        injection e' with e'
        subst e'
        rw [List.length_cons, List.length_cons, keysK_length hr]
theorem repPs_length {K : PySem.W.Frag} {μ : List Addr} {G : Hp} : ∀ {ps : List (D × D)} {ws : List (V × V)}, RepPs K μ G ps ws → ws.length = ps.length
  | [], ws, h => by
    have : ws = [] := h
    subst this
    rfl
  | (k, d) :: r, ws, h => by
    obtain ⟨x, y, t, rfl, _, _, h3⟩ := h
    rw [List.length_cons, List.length_cons, repPs_length h3]
end
/-- as many pairs as are written -/
def PLen (m : EPs) (n : Nat) : Prop := ∀ vs st ps st', m vs st = .ok ps st' → ps.length = n
theorem plen_nil : PLen pNil 0 := fun _ _ _ _ h => by injection h with h _; subst h; rfl
theorem plen_cons {k v : EM} {r : EPs} {n : Nat} (h : PLen r n) : PLen (pCons k v r) (n + 1) := by
  intro vs st ps st' e
  unfold pCons at e
  cases h1 : k vs st with
  | bad => rw [h1] at e; cases e
  | exc _ _ => rw [h1] at e; cases e
  | ok x s1 =>
    rw [h1] at e
    simp only [Re.bind] at e
    cases h2 : v vs s1 with
    | bad => rw [h2] at e; cases e
    | exc _ _ => rw [h2] at e; cases e
    | ok y s2 =>
      rw [h2] at e
      simp only [Re.bind] at e
      cases h3 : r vs s2 with
      | bad => rw [h3] at e; cases e
      | exc _ _ => rw [h3] at e; cases e
      | ok qs s3 =>
        rw [h3] at e
        simp only [Re.bind] at e
        injection e with e _
        subst e
        rw [List.length_cons, h _ _ _ _ h3]
section
variable {X : Cx} {W : WX} {pos : Pos} {keys : List (Option Expr)} {values : List Expr} {m : EPs} {n : Nat}
theorem m_dsp (h : MPs X W pos keys values m) (hn : PLen m n := by repeat (first | exact plen_nil | refine plen_cons ?_)) (h15 : n ≤ 15 := by decide) (hall : keys.all (·.isSome) = true := by rfl) (hl : keys.length = values.length := by rfl) (h0 : keys ≠ [] := by exact fun z => nomatch z) (hk15 : keys.length ≤ 15 := by decide) :
    ME X W (.Dict keys values pos) (eDsp m) := by
  obtain ⟨trs, h1, h2⟩ := h.ex
  refine (pe_disp h1 hall hl h0 hk15).of fun σ H Q q p hp => ?_
  obtain ⟨vs, st, μ, G, F, re, k, q⟩ := q
  have fp : F p = none := k.fr.free hp
  refine h2 σ _ _ ⟨vs, st, μ, G, upd F p (.dK []), re, k.guard hp, ?_⟩
  unfold eDsp at q
  cases hd : m vs st with
  | bad => rw [hd] at q; exact q.elim
  | exc e st1 =>
    rw [hd] at q
    intro μ1 G1 H1 cls dd f1 k1 rx
    exact q μ1 G1 H1 cls dd f1 (k1.unguard fp) rx
  | ok ps st1 =>
    rw [hd] at q
    intro μ1 G1 H1 f1 k1 ws rws
    refine ⟨k1.gat, ?_⟩
    have q1 : Done X.K X.mg W σ μ1 G1 F (match keysK ps with | some kvs => .ok (.loc st1.length) (st1 ++ [some (.dct (mergeD [] kvs))]) | none => .bad) (Fin X.K Q) := Done.fut f1 q
    cases hk : keysK ps with
    | none => rw [hk] at q1; exact q1.elim
    | some kvs =>
      rw [hk] at q1
      obtain ⟨qs, rfl, rq⟩ := keys_rep rws hk
      have e1 : ps.length = n := hn _ _ _ _ hd
      have e2 := repKV_length rq
      have e3 := keysK_length hk
      refine ⟨qs, rfl, by omega, ?_⟩
      have k2 := (k1.reguard (o' := .dK (mergeK [] qs))).place (ob := .dct (mergeD [] kvs)) fp ⟨_, rfl, repKV_merge rq rfl⟩
      refine q1 (μ1 ++ [p]) G1 _ ⟨⟨[p], rfl⟩, .refl G1⟩ k2 _ (.loc ?_)
      rw [← k1.len, List.getElem?_append_right (Nat.le_refl _), Nat.sub_self]
      rfl
/-- {} -/
def eDnw : EM := fun _ st => .ok (.loc st.length) (st ++ [some (.dct [])])
theorem m_dnw : ME X W (.Dict [] [] pos) eDnw := pe_dnewK.of fun σ H Q h p hp => by
  obtain ⟨vs, st, μ, G, F, re, k, h⟩ := h
  refine h (μ ++ [p]) G _ ⟨⟨[p], rfl⟩, .refl G⟩ (k.alloc hp ⟨_, rfl, rfl⟩) _ (.loc ?_)
  rw [← k.len, List.getElem?_append_right (Nat.le_refl _), Nat.sub_self]
  rfl
end
/-! ### d.get -/
def isDct (st : Store) : D → Bool
  | .loc n => match cell st n with
    | some (.dct _) => true
    | _ => false
  | _ => false
def eGet1 (o a : EM) : EM := fun vs st => (o vs st).bind fun x st => if isDct st x = true then (a vs st).bind fun y st => match dGet st x y with
  | some o => .ok (o.getD .non) st
  | none => .bad else .bad
def eGet2 (o a b : EM) : EM := fun vs st => (o vs st).bind fun x st => if isDct st x = true then (a vs st).bind fun y st => (b vs st).bind fun z st => match dGet st x y with
  | some o => .ok (o.getD z) st
  | none => .bad else .bad
section
variable {X : Cx} {W : WX} {o e f : Expr} {apos cpos : Pos} {mo me mf : EM}
theorem isDct_rep {K : PySem.W.Frag} {mg : Str → Option Value} {μ : List Addr} {G F : Hp} {st : Store} {H : Hp} {x : D} {v : V} (k : Kn K mg μ G F st H) (r : Rep K μ G x v) (h : isDct st x = true) : ∃ a, v = .ref a ∧ IsD H a := by
  cases x with
  | loc n =>
    unfold isDct at h
    simp only at h
    split at h
    · rename_i kvs hc
      obtain ⟨a, ps, rfl, _, hs, _⟩ := dct_rep k r hc
      exact ⟨a, rfl, .inl ⟨ps, .of hs⟩⟩
    · cases h
  | _ => cases h
theorem relO_getD {K : PySem.W.Frag} {μ : List Addr} {G : Hp} {o : Option D} {o' : Option V} {d : D} {z : V} (r : relO K μ G o o') (rd : Rep K μ G d z) : Rep K μ G (o.getD d) (o'.getD z) := by
  cases o with
  | none => have : o' = none := r; rw [this]; exact rd
  | some d => obtain ⟨v, rfl, h⟩ := r; exact h
theorem m_get1 (hu : X.A.units + 1 < cLine) (ho : ME X W o mo) (he : ME X W e me) (m : M1 X o "get" apos e cpos := by exact ⟨rfl, rfl, rfl, rfl⟩) : ME X W (.Call (.Attribute o "get" apos) [e] [] cpos) (eGet1 mo me) := (pe_dget1 hu ho he m).of fun σ H Q h => by
  obtain ⟨vs, st, μ, G, F, re, k, h⟩ := h
  refine ⟨vs, st, μ, G, F, re, k, (Done.bind h).mono fun μ1 G1 x st1 H1 f1 k1 h1 v rv => ?_⟩
  obtain ⟨hd, h1⟩ := ite_done h1
  obtain ⟨a, rfl, isd⟩ := isDct_rep k1 rv hd
  refine ⟨a, rfl, isd, vs, st1, μ1, G1, F, re.fut f1, k1, (Done.bind h1).mono fun μ2 G2 y st2 H2 f2 k2 h2 w rw' => ?_⟩
  split at h2
  · rename_i o e
    obtain ⟨a', o', e', g, ro⟩ := dGet_rep k2 (rv.fut f2) rw' e
    cases e'
    exact ⟨o', g, fin_here k2 h2 (relO_getD ro .non)⟩
  · exact h2.elim
theorem m_get2 (hu : X.A.units + 1 < cLine) (ho : ME X W o mo) (he : ME X W e me) (hf : ME X W f mf) (m : M2 X o "get" apos e f cpos := by exact ⟨rfl, rfl, rfl, rfl⟩) : ME X W (.Call (.Attribute o "get" apos) [e, f] [] cpos) (eGet2 mo me mf) := (pe_dget2 hu ho he hf m).of fun σ H Q h => by
  obtain ⟨vs, st, μ, G, F, re, k, h⟩ := h
  refine ⟨vs, st, μ, G, F, re, k, (Done.bind h).mono fun μ1 G1 x st1 H1 f1 k1 h1 v rv => ?_⟩
  obtain ⟨hd, h1⟩ := ite_done h1
  obtain ⟨a, rfl, isd⟩ := isDct_rep k1 rv hd
  refine ⟨a, rfl, isd, vs, st1, μ1, G1, F, re.fut f1, k1, (Done.bind h1).mono fun μ2 G2 y st2 H2 f2 k2 h2 w rw' => ?_⟩
  refine ⟨vs, st2, μ2, G2, F, (re.fut f1).fut f2, k2, (Done.bind h2).mono fun μ3 G3 z st3 H3 f3 k3 h3 u ru => ?_⟩
  split at h3
  · rename_i o e
    obtain ⟨a', o', e', g, ro⟩ := dGet_rep k3 ((rv.fut f2).fut f3) (rw'.fut f3) e
    cases e'
    exact ⟨o', g, fin_here k3 h3 (relO_getD ro ru)⟩
  · exact h3.elim
end
end Dn
namespace Dn
open PySem PySem.Spec PyProof.Rows L2

/-! ### l.index(x) -/
def idxB (x : D) : List D → Nat → Option Nat
  | [], _ => none
  | y :: r, j => if eqvD y x = true then some j else idxB x r (j + 1)
def indexD (x : D) (xs : List D) (st : Store) : Re D := match xs with
  | [y] => opt (lstOf st x) fun ds => if okd 60 y = true ∧ ds.all (okd 59) = true then opt (idxB y ds 0) fun j => .ok (.int (j : Nat)) st else .bad
  | _ => .bad
theorem idxB_some {x : D} : ∀ {ds : List D} {j n : Nat}, idxB x ds n = some j → n ≤ j ∧ (∃ z, ds[j - n]? = some z ∧ eqvD z x = true) ∧ ∀ (m : Nat) (z' : D), m < j - n → ds[m]? = some z' → eqvD z' x = false
  | [], _, _, h => by cases h
  | y :: r, j, n, h => by
    unfold idxB at h
    split at h
    · rename_i e
      injection h with h
      subst h
      refine ⟨Nat.le_refl _, ⟨y, by rw [Nat.sub_self]; rfl, e⟩, fun m z' hm _ => ?_⟩
      rw [Nat.sub_self] at hm
      exact absurd hm (Nat.not_lt_zero _)
    · rename_i e
      obtain ⟨h1, ⟨z, hz, ez⟩, h3⟩ := idxB_some h
      have e1 : j - n = (j - (n + 1)) + 1 := by omega
      refine ⟨by omega, ⟨z, by rw [e1]; exact hz, ez⟩, fun m z' hm hz' => ?_⟩
      cases m with
      | zero =>
        have e2 : y = z' := by simpa using hz'
        rw [← e2]
        exact Bool.eq_false_iff.mpr e
      | succ m => exact h3 m z' (by omega) (by simpa using hz')
theorem pds_get (ds : List D) (i : Nat) : (pds ds)[i]? = (ds[i]?).map pd := by rw [pds_map, List.getElem?_map]
section
variable {X : Cx} {K : PySem.W.Frag} {mg : Str → Option Value}
theorem lst_dp {μ : List Addr} {G F : Hp} {st : Store} {H : Hp} {x : D} {v : V} {ds : List D} (k : Kn K mg μ G F st H) (r : Rep K μ G x v) (e : lstOf st x = some ds) (h : ds.all (okd 59) = true) : ∃ a, v = .ref a ∧ Dp K H (.ref a) (.list (pds ds)) := by
  obtain ⟨a, vs, rfl, hs, rs⟩ := lstOf_rep k r e
  exact ⟨a, rfl, .lst (.of hs) (reps_dps k.ex 59 ds vs h rs)⟩
theorem shaped_lst {ds : List D} (h : ds.all (okd 59) = true) : SeqAt.shaped (.list (pds ds)) = true := okd_shaped (d := .lst ds) (by simpa [okd] using h)
theorem s_index : SM2 K mg indexD (rIndexD K) := by
  intro W σ μ G F st H x v xs vs Q k rv rs h
  unfold indexD at h
  split at h
  · rename_i y
    obtain ⟨ds, e, h⟩ := opt_done h
    obtain ⟨⟨h1, h2⟩, h⟩ := ite_done h
    obtain ⟨j, ej, h⟩ := opt_done h
    obtain ⟨w, rfl, rw'⟩ := reps_one rs
    obtain ⟨a, rfl, hd⟩ := lst_dp k rv e h2
    obtain ⟨_, ⟨z, hz, ez⟩, hno⟩ := idxB_some ej
    rw [Nat.sub_zero] at hz hno
    refine ⟨a, w, pd y, pds ds, j, pd z, rfl, rfl, hd, rep_dp k.ex 60 y w h1 rw', shaped_lst h2, okd_shaped h1, by rw [pds_get, hz]; rfl, ez, fun m z' hm hz' => ?_, fin_here k h .int⟩
    rw [pds_get] at hz'
    cases e2 : ds[m]? with
    | none => rw [e2] at hz'; cases hz'
    | some z2 =>
      rw [e2] at hz'
      have e3 : pd z2 = z' := by simpa using hz'
      rw [← e3]
      exact hno m z2 hm e2
  · exact h.elim
end
/-- T.index(x), T a module's tuple of texts -/
def eIxT (zs : List Str) (a : EMs) : EM := fun vs st => (a vs st).bind fun xs st => match xs with
  | [.str z] => if z ∈ zs then .ok (.int (zs.idxOf z : Nat)) st else .bad
  | _ => .bad
/-- a module's tuple of texts -/
structure CstT (K : PySem.W.Frag) (mg : Str → Option Value) (x : Str) (zs : List Str) : Prop where
  ex : ∃ a o, mg x = some (.ref a) ∧ K.lookup a = some o ∧ o.cls = .type "tuple" ∧ o.dict = none ∧ ∀ H, SqT K H a (zs.map V.str)
theorem idx_first {z : Str} : ∀ {zs : List Str}, z ∈ zs → zs[zs.idxOf z]? = some z ∧ ∀ m, m < zs.idxOf z → zs[m]? ≠ some z := by
  intro zs hz
  have hl := List.idxOf_lt_length_of_mem hz
  refine ⟨by rw [List.getElem?_eq_getElem hl, List.getElem_idxOf hl], fun m hm e => ?_⟩
  obtain ⟨hm2, e2⟩ := List.getElem?_eq_some_iff.mp e
  have := List.not_of_lt_findIdx (p := (· == z)) (xs := zs) (i := m) (by simpa [List.idxOf] using hm)
  rw [e2] at this
  simp at this
section
variable {X : Cx} {W : WX} {e : Expr} {ms : EMs} {x : Str} {zs : List Str} {p apos cpos : Pos}
theorem m_ixT (c : CstT X.K X.mg x zs) (ha : MA X W [e] ms) (hg : Gl X x := by rfl) (hd : (x == ("__debug__" : Str)) = false := by decide)
    (hbase : attributeBase (.Name x p) "index" X.env (eval (.Name x p) X.env) = eval (.Name x p) X.env := by rfl)
    (hfew : ((backTo cpos (starEach [e] X.env)).all (fun x => !x.1) && (backToKw cpos (keywordEach [] X.env)).all (fun x => x.1.isSome)
      && decide (([e] : List Expr).length + ([] : List Keyword).length + (if ([] : List Keyword).isEmpty then 0 else 1) < 30)) = true := by rfl)
    (hline : (apos.endLine == cpos.line) = true := by rfl) (hst : starEach [e] X.env = (false, eval e X.env) :: starEach [] X.env := by rfl) (hplain : (backTo cpos (starEach [] X.env)).any (·.1) = false := by rfl) :
    ME X W (.Call (.Attribute (.Name x p) "index" apos) [e] [] cpos) (eIxT zs ms) := by
  obtain ⟨a, o, h1, h2, h3, h4, h5⟩ := c.ex
  refine (pe_bm PySem.F.plainAttrs_tuple PySem.F.slot_tuple_index (by rfl) mt_tup_index (pe_glob hg h1 (show RelV (V.ref a) (Value.ref a) from rfl) hd) ha hbase hfew hline hst hplain).of fun σ H Q h => ?_
  obtain ⟨vs, st, μ, G, F, re, k, h⟩ := h
  refine ⟨.inr (.inl ⟨rfl, o, h2, h3, h4⟩), vs, st, μ, G, F, re, k, (Done.bind h).mono fun μ1 G1 xs st1 H1 f1 k1 q1 ws rws => ?_⟩
  split at q1
  · rename_i z
    obtain ⟨hz, q1⟩ := ite_done q1
    obtain ⟨v, rfl, rv⟩ := reps_one rws
    rw [rep_str rv]
    obtain ⟨i1, i2⟩ := idx_first hz
    exact ⟨a, zs, z, zs.idxOf z, rfl, rfl, h5 H1, i1, i2, fin_here k1 q1 .int⟩
  · exact q1.elim
end
/-! ### calls of defs, in one piece -/
/-- a def of the module -/
def Cal (P : Program) (w : World) (K : PySem.W.Frag) (mg : Str → Option Value) (base : Heap) (x : Str) (k : Nat) (ps : List Str) (m : FnD) : Prop :=
  ∃ fa fd, FnM P w K mg base k fa fd ps m ∧ mg x = some (.ref fa) ∧ PySem.W.keepIn K (.ref fa) = true ∧ Binds K fd ps []
theorem Cal.mono {P : Program} {w : World} {K : PySem.W.Frag} {mg : Str → Option Value} {base : Heap} {x : Str} {j k : Nat} {ps : List Str} {m : FnD} (c : Cal P w K mg base x j ps m) (h : j ≤ k) : Cal P w K mg base x k ps m := by
  obtain ⟨fa, fd, h1, h2, h3, h4⟩ := c
  exact ⟨fa, fd, h1.mono h, h2, h3, h4⟩
section
variable {X : Cx} {W : WX} {e : Expr} {es : List Expr} {ms : EMs} {x : Str} {ps : List Str} {k : Nat} {m : FnD} {p pos : Pos}
theorem m_cal (c : Cal X.prog X.w X.K X.mg X.base x k ps m) (hr : Room k X.A) (tk : Takes X W) (ha : MA X W (e :: es) ms) (hms : ALen ms ps.length := by repeat constructor) (hg : Gl X x := by rfl) (hdb : (x == ("__debug__" : Str)) = false := by decide)
    (he : starEach (e :: es) X.env = (false, eval e X.env) :: starEach es X.env := by rfl) (hpl : (backTo pos (starEach es X.env)).any (·.1) = false := by rfl) : ME X W (.Call (.Name x p) (e :: es) [] pos) (eN m ms) := by
  obtain ⟨fa, fd, h1, h2, h3, h4⟩ := c
  exact m_call h1 hr h2 h3 h4 tk ha hms hg hdb he hpl
end
theorem tk0 {X : Cx} : Takes X W0 := fun _ _ x => by
  obtain ⟨_, _, _, _, _, _, _, _, _, _, _, _, _, _, _, _, z⟩ := x
  exact z.elim
theorem hu65 {k : Nat} {A : Around} (r : Room k A) : A.units + 65 < cLine := by have := r.un; omega
theorem hu64 {k : Nat} {A : Around} (r : Room k A) : A.units + 64 < cLine := by have := r.un; omega
theorem hu1 {k : Nat} {A : Around} (r : Room k A) : A.units + 1 < cLine := by have := r.un; omega
/-- a def that never answers -/
theorem fnM_bad {P : Program} {w : World} {K : PySem.W.Frag} {mg : Str → Option Value} {base : Heap} {k : Nat} {fa : Addr} {fd : FuncData} {ps : List Str} : FnM P w K mg base k fa fd ps (fun _ _ => .bad) :=
  ⟨fun vs H Q E h => h.1, fun A outer s H args us vs Q E _ _ _ _ h => by
    obtain ⟨_, ds, st, μ, G, F, _, _, h⟩ := h
    exact h.elim⟩
end Dn
namespace Dn
open PySem PySem.Spec PyProof.Rows L2
theorem rv_int {i : Int} {t : Tok} : RelV (.int i) (.int i t) := ⟨t, rfl⟩
theorem rv_str {i : Str} {t : Tok} : RelV (.str i) (.str i t) := ⟨t, rfl⟩
theorem rv_non : RelV .non .none := rfl
theorem rv_bl {b : Bool} : RelV (.bl b) (.bool b) := rfl
theorem rv_ref {a : Addr} : RelV (.ref a) (.ref a) := rfl
theorem cx_false {P : Program} {w : World} {H : Hp} {s : Shared} {e : Value} {s' : Shared} (h : L2.CX P w [] H s (fun _ _ _ => False) e s') : False := by
  obtain ⟨_, _, _, _, _, _, _, _, _, _, _, _, h⟩ := h
  exact h
theorem law_start {K : PySem.W.Frag} {mg : Str → Option Value} {H : Hp} {a : Addr} {ns : List Int} {m : FnD} {st : Store} {Q : VK} {E : XK} (hs : SqL K H a (ns.map V.int)) (e : m [.frz (ns.map D.int)] [] = .ok (.bl true) st) (q : ∀ H2, Q (.bl true) H2) :
    spD K mg 1 m [.ref a] H Q E := by
  refine ⟨rfl, [.frz (ns.map D.int)], [], [], H, fun _ => none, .cons (.frz hs .ints) .nil, ⟨.refl H, fun _ _ h => (nomatch h), fun _ _ h => (nomatch h), rfl, .nil, fun n ob h => (by simp at h), fun a h => (by simp at h), fun a h => (by simp at h)⟩, ?_⟩
  rw [e]
  intro μ1 G1 H1 _ _ z rz
  rw [rep_bl rz]
  exact q H1
end Dn
namespace Dn
open PySem PySem.Spec PyProof.Rows L2

/-! ### what a denotation gives -/
def wpQ {α : Type} (r : Re α) (Q : α → Store → Prop) : Prop := match r with
  | .ok a st => Q a st
  | _ => False
structure wp {α : Type} (r : Re α) (Q : α → Store → Prop) (_ : Lk Q := Unit.unit) : Prop where
  of : wpQ r Q
/-- a statement's ways out -/
structure Po where
  n : Vars → Store → Prop
  r : D → Store → Prop
  b : Vars → Store → Prop
  c : Vars → Store → Prop
def wpSQ (r : Rs) (P : Po) : Prop := match r with
  | .nx vs st => P.n vs st
  | .ret d st => P.r d st
  | .brk vs st => P.b vs st
  | .ct vs st => P.c vs st
  | _ => False
structure wpS (r : Rs) (P : Po) (_ : Lk P := Unit.unit) : Prop where
  of : wpSQ r P
theorem wp_q {α : Type} {r : Re α} {Q : α → Store → Prop} : wp r Q = wpQ r Q := propext ⟨fun h => h.of, fun h => ⟨h⟩⟩
theorem wpS_q {r : Rs} {P : Po} : wpS r P = wpSQ r P := propext ⟨fun h => h.of, fun h => ⟨h⟩⟩
section
variable {α β : Type} {r : Re α} {Q Q' : α → Store → Prop}
theorem wp_mono (h : wp r Q) (k : ∀ a st, Q a st → Q' a st) : wp r Q' := by
  cases r with
  | ok a st => exact ⟨k a st h.of⟩
  | _ => exact ⟨h.of⟩
@[simp] theorem wp_ok {a : α} {st : Store} : wp (.ok a st) Q = Q a st := by rw [wp_q]; rfl
theorem wp_bad : wp (.bad : Re α) Q = False := by rw [wp_q]; rfl
theorem wp_exc {e : Exn} {st : Store} : wp (.exc e st : Re α) Q = False := by rw [wp_q]; rfl
@[simp] theorem wp_bind {k : α → Store → Re β} {Q : β → Store → Prop} : wp (r.bind k) Q = wp r fun a st => wp (k a st) Q := by
  cases r with
  | bad => rw [wp_bad]; exact wp_bad
  | exc e st => rw [wp_exc]; exact wp_exc
  | ok a st => rw [wp_ok]; rfl
@[simp] theorem wp_okk {k : α → Store → Re β} {Q : β → Store → Prop} : wp (r.okk k) Q = wp r fun a st => wp (k a st) Q := by
  cases r with
  | bad => rw [wp_bad]; exact wp_bad
  | exc e st => rw [wp_exc]; exact wp_bad
  | ok a st => rw [wp_ok]; rfl
@[simp] theorem bind_ok {a : α} {st : Store} {k : α → Store → Re β} : Re.bind (.ok a st) k = k a st := by rw [Re.bind.eq_def]
@[simp] theorem bind_exc {e : Exn} {st : Store} {k : α → Store → Re β} : Re.bind (.exc e st) k = .exc e st := by rw [Re.bind.eq_def]
@[simp] theorem okk_ok {a : α} {st : Store} {k : α → Store → Re β} : Re.okk (.ok a st) k = k a st := by rw [Re.okk.eq_def]
@[simp] theorem thn_ok {a : α} {st : Store} {vs : Vars} {k : α → Store → Rs} : Re.thn (.ok a st) vs k = k a st := by rw [Re.thn.eq_def]
@[simp] theorem thn_exc {e : Exn} {st : Store} {vs : Vars} {k : α → Store → Rs} : Re.thn (.exc e st : Re α) vs k = .exc e vs st := by rw [Re.thn.eq_def]
@[simp] theorem wpS_thn {vs : Vars} {k : α → Store → Rs} {P : Po} : wpS (r.thn vs k) P = wp r fun a st => wpS (k a st) P := by
  cases r with
  | bad => rw [wp_bad, wpS_q]; rfl
  | exc e st => rw [wp_exc, wpS_q]; rfl
  | ok a st => rw [wp_ok]; rfl
end
section
variable {r : Rs} {P P' : Po} {vs : Vars} {st : Store} {d : D} {b : SM}
theorem wpS_mono (h : wpS r P) (k1 : ∀ vs st, P.n vs st → P'.n vs st) (k2 : ∀ d st, P.r d st → P'.r d st) (k3 : ∀ vs st, P.b vs st → P'.b vs st) (k4 : ∀ vs st, P.c vs st → P'.c vs st) : wpS r P' := by
  cases r with
  | nx vs st => exact ⟨k1 _ _ h.of⟩
  | ret d st => exact ⟨k2 _ _ h.of⟩
  | brk vs st => exact ⟨k3 _ _ h.of⟩
  | ct vs st => exact ⟨k4 _ _ h.of⟩
  | _ => exact ⟨h.of⟩
@[simp] theorem wpS_nx : wpS (.nx vs st) P = P.n vs st := wpS_q
@[simp] theorem wpS_ret : wpS (.ret d st) P = P.r d st := wpS_q
@[simp] theorem wpS_brk : wpS (.brk vs st) P = P.b vs st := wpS_q
@[simp] theorem wpS_ct : wpS (.ct vs st) P = P.c vs st := wpS_q
theorem wpS_bad : wpS .bad P = False := wpS_q
theorem wpS_exc {e : Exn} : wpS (.exc e vs st) P = False := wpS_q
@[simp] theorem wpS_seq : wpS (r.seq b) P = wpS r { P with n := fun vs st => wpS (b vs st) P } := by
  cases r with
  | nx vs st => rw [wpS_nx]; rfl
  | bad => rw [wpS_bad]; exact wpS_bad
  | ret d st => rw [wpS_ret]; exact wpS_ret
  | brk d st => rw [wpS_brk]; exact wpS_brk
  | ct d st => rw [wpS_ct]; exact wpS_ct
  | exc e d st => rw [wpS_exc]; exact wpS_exc
@[simp] theorem seq_nx : Rs.seq (.nx vs st) b = b vs st := by rw [Rs.seq.eq_def]
@[simp] theorem seq_ret : Rs.seq (.ret d st) b = .ret d st := rfl
@[simp] theorem seq_brk : Rs.seq (.brk vs st) b = .brk vs st := rfl
@[simp] theorem seq_ct : Rs.seq (.ct vs st) b = .ct vs st := rfl
@[simp] theorem seq_exc {e : Exn} : Rs.seq (.exc e vs st) b = .exc e vs st := rfl
end
theorem wp_eq {α : Type} {r : Re α} {a : α} {st : Store} (h : wp r fun x s => x = a ∧ s = st) : r = .ok a st := by
  cases r with
  | ok x s => obtain ⟨⟨rfl, rfl⟩⟩ := h; rfl
  | _ => exact h.of.elim
theorem wp_ex {α : Type} {r : Re α} {Q : α → Store → Prop} (h : wp r Q) : ∃ a st, r = .ok a st ∧ Q a st := by
  cases r with
  | ok x s => exact ⟨x, s, rfl, h.of⟩
  | _ => exact h.of.elim

/-! ### terms -/
section
variable {vs : Vars} {st : Store} {a b c : EM} {as ms : EMs} {f g : D → D → Store → Re D} {h : D → Store → Re D} {x y : D} {i : Nat} {bb : Bool}
@[simp] theorem getV_zero {o : Option D} {r : Vars} : getV (o :: r) 0 = o := rfl
@[simp] theorem getV_succ {o : Option D} {r : Vars} {n : Nat} : getV (o :: r) (n + 1) = getV r n := rfl
@[simp] theorem eV_eq : eV i vs st = match getV vs i with | some d => .ok d st | none => .bad := rfl
@[simp] theorem eC_eq {d : D} : eC d vs st = .ok d st := rfl
@[simp] theorem e1_eq : e1 h a vs st = (a vs st).bind fun x st => h x st := rfl
@[simp] theorem e2_eq : e2 f a b vs st = (a vs st).bind fun x st => (b vs st).bind fun y st => f x y st := rfl
@[simp] theorem onB_true {t f : Re D} : onB (.bl true) t f = t := by rw [onB]
@[simp] theorem onB_false {t f : Re D} : onB (.bl false) t f = f := by rw [onB]
@[simp] theorem onS_true {t f : Rs} : onS (.bl true) t f = t := by rw [onS]
@[simp] theorem onS_false {t f : Rs} : onS (.bl false) t f = f := by rw [onS]
theorem wp_onB {t f : Re D} {Q : D → Store → Prop} : wp (onB (.bl bb) t f) Q ↔ (bb = true → wp t Q) ∧ (bb = false → wp f Q) := by cases bb <;> simp
theorem wpS_onS {t f : Rs} {P : Po} : wpS (onS (.bl bb) t f) P ↔ (bb = true → wpS t P) ∧ (bb = false → wpS f P) := by cases bb <;> simp
theorem onB_ok {u v : D} : onB (.bl bb) (.ok u st) (.ok v st) = .ok (if bb then u else v) st := by cases bb <;> rfl
@[simp] theorem eAnd_eq : eAnd a b vs st = (a vs st).bind fun x st => onB x (b vs st) (.ok (.bl false) st) := rfl
@[simp] theorem eOr_eq : eOr a b vs st = (a vs st).bind fun x st => onB x (.ok (.bl true) st) (b vs st) := rfl
@[simp] theorem eNot_eq : eNot a vs st = (a vs st).bind fun x st => onB x (.ok (.bl false) st) (.ok (.bl true) st) := rfl
@[simp] theorem not_bl : onB (.bl bb) (.ok (.bl false) st) (.ok (.bl true) st) = .ok (.bl !bb) st := by cases bb <;> rfl
@[simp] theorem and_bl {b2 : Bool} : onB (.bl bb) (.ok (.bl b2) st) (.ok (.bl false) st) = .ok (.bl (bb && b2)) st := by cases bb <;> rfl
@[simp] theorem or_bl {b2 : Bool} : onB (.bl bb) (.ok (.bl true) st) (.ok (.bl b2) st) = .ok (.bl (bb || b2)) st := by cases bb <;> rfl
@[simp] theorem eIf_eq : eIf c a b vs st = (c vs st).bind fun x st => onB x (a vs st) (b vs st) := rfl
@[simp] theorem eTru_eq : eTru a vs st = (a vs st).bind fun x st => match truthB st x with | some b => .ok (.bl b) st | none => .bad := rfl
@[simp] theorem truthB_bl : truthB st (.bl bb) = some bb := rfl
@[simp] theorem aNil_eq : aNil vs st = .ok [] st := rfl
@[simp] theorem aCons_eq : aCons a as vs st = (a vs st).bind fun x st => (as vs st).bind fun xs st => .ok (x :: xs) st := rfl
@[simp] theorem eTup_eq : eTup as vs st = (as vs st).bind fun xs st => if room xs.length then .ok (.tup xs) st else .bad := rfl
@[simp] theorem eLst_eq : eLst bb as vs st = (as vs st).bind fun xs st => if room xs.length then mkNew bb xs st else .bad := rfl
@[simp] theorem mkNew_f {ds : List D} : mkNew false ds st = .ok (.lst ds) st := rfl
@[simp] theorem mkNew_t {ds : List D} : mkNew true ds st = .ok (.loc st.length) (st ++ [some (.lst ds)]) := rfl
@[simp] theorem eN_eq {f : List D → Store → Re D} : eN f as vs st = (as vs st).bind fun xs st => f xs st := rfl
@[simp] theorem eChain_eq : eChain f g a b c vs st = (a vs st).bind fun x st => (b vs st).bind fun y st => (f x y st).bind fun z st => onB z ((c vs st).bind fun w st => g y w st) (.ok (.bl false) st) := rfl
@[simp] theorem oNone_eq : oNone vs st = .ok none st := rfl
@[simp] theorem oSome_eq : oSome a vs st = (a vs st).bind fun x st => match x with | .int i => .ok (some i) st | _ => .bad := rfl
@[simp] theorem eSl_eq {lo hi : Vars → Store → Re (Option Int)} : eSl bb a lo hi vs st = (a vs st).bind fun x st => (lo vs st).bind fun l st => (hi vs st).bind fun h st => sliceD bb x l h st := rfl
@[simp] theorem eM_eq {T : String} {f : D → List D → Store → Re D} : eM T f a as vs st = (a vs st).bind fun x st => if tyD T st x = true then (as vs st).bind fun xs st => f x xs st else .bad := rfl
@[simp] theorem tyD_lst {ds : List D} : tyD "list" st (.lst ds) = true := rfl
@[simp] theorem tyD_str {z : Str} : tyD "str" st (.str z) = true := rfl
@[simp] theorem tyD_loc {n : Nat} : tyD "list" st (.loc n) = (lstAt st n).isSome := rfl
@[simp] theorem sSeq_eq {s t : SM} : sSeq s t vs st = (s vs st).seq t := rfl
@[simp] theorem sNil_eq : sNil vs st = .nx vs st := rfl
@[simp] theorem sExpr_eq : sExpr a vs st = (a vs st).thn vs fun _ st => .nx vs st := rfl
@[simp] theorem sRet_eq : sRet a vs st = (a vs st).thn vs fun d st => .ret d st := rfl
@[simp] theorem sRetN_eq : sRetN vs st = .ret .non st := rfl
@[simp] theorem sBrk_eq : sBrk vs st = .brk vs st := rfl
@[simp] theorem sCt_eq : sCt vs st = .ct vs st := rfl
@[simp] theorem sIf_eq {s t : SM} : sIf c s t vs st = (c vs st).thn vs fun x st => onS x (s vs st) (t vs st) := rfl
@[simp] theorem gN_eq {d : D} : gN i d vs = some (vs.set i (some d)) := rfl
@[simp] theorem gT_eq {ts : List TM} {ds : List D} : gT ts (.tup ds) vs = gAll ts ds vs := rfl
@[simp] theorem gAll_nil : gAll [] [] vs = some vs := rfl
@[simp] theorem gAll_cons {t : TM} {ts : List TM} {d : D} {ds : List D} : gAll (t :: ts) (d :: ds) vs = (t d vs).bind fun vs => gAll ts ds vs := rfl
@[simp] theorem sAsg_eq {g : TM} : sAsg g a vs st = (a vs st).thn vs fun d st => match g d vs with | some vs => .nx vs st | none => .bad := rfl
@[simp] theorem sSub_eq {f : SD} {o j m : EM} : sSub f o j m vs st = (m vs st).thn vs fun v st => (o vs st).thn vs fun x st => (j vs st).thn vs fun y st => match f x y v st with | some st => .nx vs st | none => .bad := rfl
@[simp] theorem drp_nil : drp [] vs = vs := rfl
@[simp] theorem drp_cons {l : List Nat} : drp (i :: l) vs = drp l (vs.set i none) := rfl
@[simp] theorem eDsp_eq {ps : EPs} : eDsp ps vs st = (ps vs st).bind fun ps st => match keysK ps with | some kvs => .ok (.loc st.length) (st ++ [some (.dct (mergeD [] kvs))]) | none => .bad := rfl
@[simp] theorem eDnw_eq : eDnw vs st = .ok (.loc st.length) (st ++ [some (.dct [])]) := rfl
@[simp] theorem pNil_eq : pNil vs st = .ok [] st := rfl
@[simp] theorem pCons_eq {k v : EM} {r : EPs} : pCons k v r vs st = (k vs st).bind fun x st => (v vs st).bind fun y st => (r vs st).bind fun ps st => .ok ((x, y) :: ps) st := rfl
@[simp] theorem eGet1_eq : eGet1 a b vs st = (a vs st).bind fun x st => if isDct st x = true then (b vs st).bind fun y st => match dGet st x y with | some o => .ok (o.getD .non) st | none => .bad else .bad := rfl
@[simp] theorem eGet2_eq : eGet2 a b c vs st = (a vs st).bind fun x st => if isDct st x = true then (b vs st).bind fun y st => (c vs st).bind fun z st => match dGet st x y with | some o => .ok (o.getD z) st | none => .bad else .bad := rfl
@[simp] theorem eIxT_eq {zs : List Str} : eIxT zs as vs st = (as vs st).bind fun xs st => match xs with | [.str z] => if z ∈ zs then .ok (.int (zs.idxOf z : Nat)) st else .bad | _ => .bad := rfl
@[simp] theorem iE_eq : iE a vs st = (a vs st).bind fun x st => match itsOf st x with | some it => .ok it st | none => .bad := rfl
@[simp] theorem iEn_eq : iEn as vs st = (as vs st).bind fun xs st => match xs with | [x] => (match itsOf st x with | some it => .ok (enumP it.1, it.2) st | none => .bad) | _ => .bad := rfl
@[simp] theorem iR_eq : iR as vs st = (as vs st).bind fun xs st => match xs with
  | [.int j] => if fitR j then .ok (rng 0 j.toNat, []) st else .bad
  | [.int i, .int j] => if fitR i ∧ fitR j then .ok (rng i (j - i).toNat, []) st else .bad
  | _ => .bad := rfl
@[simp] theorem itsOf_tup {ds : List D} : itsOf st (.tup ds) = some (ds, []) := rfl
@[simp] theorem itsOf_lst {ds : List D} : itsOf st (.lst ds) = some (ds, []) := rfl
@[simp] theorem itsOf_frz {ds : List D} : itsOf st (.frz ds) = some (ds, []) := rfl
@[simp] theorem vars_eq {n : Nat} {ds : List D} : vars n ds = ds.map some ++ List.replicate (n - ds.length) none := rfl
theorem wp_fnD {n : Nat} {s : SM} {ds : List D} {Q : D → Store → Prop} : wp (fnD n s ds st) Q = wpS (s (vars n ds) st) ⟨fun _ st' => wp (gcRet st .non st') Q, fun d st' => wp (gcRet st d st') Q, fun _ _ => False, fun _ _ => False⟩ := by
  unfold fnD
  cases s (vars n ds) st with
  | exc e vs' st' =>
    rw [wpS_exc]
    show wp (gcExc st e st') Q = False
    unfold gcExc
    split
    · exact wp_exc
    · exact wp_bad
  | nx vs' st' => rw [wpS_nx]
  | ret d st' => rw [wpS_ret]
  | bad => rw [wpS_bad]; exact wp_bad
  | brk vs' st' => rw [wpS_brk]; exact wp_bad
  | ct vs' st' => rw [wpS_ct]; exact wp_bad
theorem wp_fnK {n : Nat} {s : SM} {ds : List D} {Q : D → Store → Prop} : wp (fnK n s ds st) Q = wpS (s (vars n ds) st) ⟨fun _ st' => Q .non st', fun d st' => Q d st', fun _ _ => False, fun _ _ => False⟩ := by
  unfold fnK
  cases s (vars n ds) st with
  | exc e vs' st' => rw [wpS_exc]; exact wp_exc
  | nx vs' st' => rw [wpS_nx]; exact wp_ok
  | ret d st' => rw [wpS_ret]; exact wp_ok
  | bad => rw [wpS_bad]; exact wp_bad
  | brk vs' st' => rw [wpS_brk]; exact wp_bad
  | ct vs' st' => rw [wpS_ct]; exact wp_bad
end
/-! ### values -/
section
variable {st : Store} {i j : Int} {b : Bool} {ds es : List D} {n : Nat} {y z : Str} {p q : Bool}
@[simp] theorem add_int : addD b (.int i) (.int j) st = .ok (.int (i + j)) st := rfl
@[simp] theorem add_str : addD b (.str y) (.str z) st = if room (y.length + z.length) then .ok (.str (y ++ z)) st else .bad := rfl
@[simp] theorem add_tup : addD b (.tup ds) (.tup es) st = if room (ds.length + es.length) then .ok (.tup (ds ++ es)) st else .bad := rfl
@[simp] theorem sub_int : subD (.int i) (.int j) st = .ok (.int (i - j)) st := rfl
@[simp] theorem mul_int : mulD b (.int i) (.int j) st = if (-(2 ^ 64) < i ∧ i < 2 ^ 64) ∨ (-(2 ^ 64) < j ∧ j < 2 ^ 64) then .ok (.int (i * j)) st else .bad := rfl
@[simp] theorem fdiv_int : fdivD (.int i) (.int j) st = if 0 < j ∧ j < 1073741824 then .ok (.int (i / j)) st else .bad := rfl
@[simp] theorem mod_int : modD (.int i) (.int j) st = if 0 < j then .ok (.int (i % j)) st else .bad := rfl
@[simp] theorem pow_int : powD (.int i) (.int j) st = if 0 ≤ j ∧ j ≤ 1000000 ∧ i.natAbs < 2 ^ 64 then .ok (.int (i ^ j.toNat)) st else .bad := rfl
@[simp] theorem eq_int : eqD (.int i) (.int j) st = .ok (.bl (decide (i = j))) st := rfl
@[simp] theorem eq_str : eqD (.str y) (.str z) st = .ok (.bl (decide (y = z))) st := rfl
@[simp] theorem eq_bl : eqD (.bl p) (.bl q) st = .ok (.bl (decide (p = q))) st := rfl
@[simp] theorem ne_int : neD (.int i) (.int j) st = .ok (.bl !(decide (i = j))) st := rfl
@[simp] theorem ne_str : neD (.str y) (.str z) st = .ok (.bl !(decide (y = z))) st := rfl
@[simp] theorem lt_int : ltD (.int i) (.int j) st = .ok (.bl (decide (i < j))) st := rfl
@[simp] theorem le_int : leD (.int i) (.int j) st = .ok (.bl (decide (i ≤ j))) st := rfl
@[simp] theorem gt_int : gtD (.int i) (.int j) st = .ok (.bl (decide (j < i))) st := rfl
@[simp] theorem ge_int : geD (.int i) (.int j) st = .ok (.bl (decide (j ≤ i))) st := rfl
@[simp] theorem neg_int : negD (.int i) st = .ok (.int (-i)) st := rfl
@[simp] theorem ixA_tup : ixA (.tup ds) (.int i) st = match atI ds i with | some d => .ok d st | none => .bad := rfl
@[simp] theorem ixA_lst : ixA (.lst ds) (.int i) st = match atI ds i with | some d => .ok d st | none => .bad := rfl
@[simp] theorem ixA_frz : ixA (.frz ds) (.int i) st = match atI ds i with | some d => .ok d st | none => .bad := rfl
theorem ixA_loc (h : lstAt st n = some ds) : ixA (.loc n) (.int i) st = match atI ds i with | some d => .ok d st | none => .bad := by
  have e1 : dGet st (.loc n) (.int i) = none := by
    unfold dGet
    simp only [lstAt_cell h]
  unfold ixA
  rw [e1]
  show ixD (.loc n) (.int i) st = _
  unfold ixD
  simp only [seqOf, h] <;> cases atI ds i <;> rfl
theorem ixA_dct {kvs : List (Key × D)} {k : D} {q : Key} {d : D} (h : cell st n = some (.dct kvs)) (e : keyK k = some q) (g : getK kvs q = some d) : ixA (.loc n) k st = .ok d st := by
  have e1 : dGet st (.loc n) k = some (some d) := by
    unfold dGet
    simp only [h, e, Option.map_some, g]
  unfold ixA
  rw [e1]
@[simp] theorem len_eq {x : D} : lenD [x] st = opt (lenB st x) fun n => .ok (.int n) st := rfl
@[simp] theorem lenB_tup : lenB st (.tup ds) = some ds.length := rfl
@[simp] theorem lenB_lst : lenB st (.lst ds) = some ds.length := rfl
@[simp] theorem lenB_frz : lenB st (.frz ds) = some ds.length := rfl
@[simp] theorem opt_some {α : Type} {a : α} {k : α → Re D} : opt (some a) k = k a := by rw [opt]
@[simp] theorem tuple_eq {x : D} : tupleD [x] st = opt (seqOf st x) fun ds => .ok (.tup ds) st := rfl
@[simp] theorem list_eq {x : D} : listD b [x] st = opt (seqOf st x) fun ds => mkNew b ds st := rfl
@[simp] theorem seqOf_tup : seqOf st (.tup ds) = some ds := rfl
@[simp] theorem seqOf_lst : seqOf st (.lst ds) = some ds := rfl
@[simp] theorem seqOf_frz : seqOf st (.frz ds) = some ds := rfl
@[simp] theorem seqOf_loc : seqOf st (.loc n) = lstAt st n := rfl
@[simp] theorem lstOf_lst : lstOf st (.lst ds) = some ds := rfl
@[simp] theorem lstOf_loc : lstOf st (.loc n) = lstAt st n := rfl
@[simp] theorem abs_int : absD [.int i] st = .ok (.int (if i < 0 then -i else i)) st := rfl
@[simp] theorem intD_int : intD [.int i] st = .ok (.int i) st := rfl
@[simp] theorem strD_int : strD [.int i] st = if i.natAbs.log2 < 1920 then .ok (.str (toString i)) st else .bad := rfl
@[simp] theorem append_eq {x : D} : appendD (.loc n) [x] st = opt (lstAt st n) fun ds => if room (ds.length + 1) then .ok .non (st.set n (some (.lst (ds ++ [x])))) else .bad := rfl
@[simp] theorem extend_eq {x : D} : extendD (.loc n) [x] st = opt (lstAt st n) fun ds => opt (lstOf st x) fun es => if room (ds.length + es.length) then .ok .non (st.set n (some (.lst (ds ++ es)))) else .bad := rfl
@[simp] theorem sl_tup {lo hi : Option Int} : sliceD b (.tup ds) lo hi st = .ok (.tup (cutD ds lo hi)) st := rfl
end
@[simp] theorem atI_pos {α : Type} {xs : List α} {i : Int} (h : 0 ≤ i) : atI xs i = xs[i.toNat]? := by
  unfold atI ixN
  rw [if_pos h]
  by_cases hl : i < xs.length
  · rw [if_pos hl]; rfl
  · rw [if_neg hl]
    have : xs[i.toNat]? = none := List.getElem?_eq_none (by omega)
    rw [this]; rfl
theorem ixN_pos {n : Nat} {k : Int} (h0 : 0 ≤ k) (h1 : k < n) : ixN n k = some k.toNat := by
  unfold ixN
  rw [if_pos h0, if_pos h1]
theorem setA_loc {st : Store} {n : Nat} {ds : List D} {k : Int} {z : D} (h : lstAt st n = some ds) : setA (.loc n) (.int k) z st = (ixN ds.length k).bind fun j => some (st.set n (some (.lst (ds.set j z)))) := by
  unfold setA
  simp only [lstAt_cell h]
  unfold setD
  simp only [h]
  rfl
/-! ### stores -/
section
variable {st0 l : Store} {i : Nat} {o : Option Ob}
@[simp] theorem cell_zero : cell (o :: l) 0 = o := by cases o <;> rfl
@[simp] theorem cell_succ : cell (o :: l) (i + 1) = cell l i := rfl
@[simp] theorem cell_app : cell (st0 ++ l) (st0.length + i) = cell l i := by
  unfold cell
  rw [List.getElem?_append_right (Nat.le_add_right _ _), Nat.add_sub_cancel_left]
@[simp] theorem cell_app0 : cell (st0 ++ l) st0.length = cell l 0 := cell_app (i := 0)
theorem lstAt_eq : lstAt l i = match cell l i with | some (.lst ds) => some ds | _ => none := rfl
@[simp] theorem lstAt_zero {ds : List D} : lstAt (some (.lst ds) :: l) 0 = some ds := rfl
@[simp] theorem lstAt_succ : lstAt (o :: l) (i + 1) = lstAt l i := rfl
@[simp] theorem lstAt_app : lstAt (st0 ++ l) (st0.length + i) = lstAt l i := by
  unfold lstAt
  rw [cell_app]
@[simp] theorem lstAt_app0 : lstAt (st0 ++ l) st0.length = lstAt l 0 := lstAt_app (i := 0)
@[simp] theorem set_app : (st0 ++ l).set (st0.length + i) o = st0 ++ l.set i o := by
  rw [List.set_append_right _ _ (Nat.le_add_right _ _), Nat.add_sub_cancel_left]
@[simp] theorem set_app0 : (st0 ++ l).set st0.length o = st0 ++ l.set 0 o := set_app (i := 0)
end
@[simp] theorem lenB_loc {st : Store} {n : Nat} : lenB st (.loc n) = (match cell st n with | some (.lst ds) => some ds.length | some (.dct kvs) => some kvs.length | _ => none) := rfl
/-- data without places -/
def lf (d : D) : Bool := locsLt 0 d
def lfs (ds : List D) : Bool := locsLts 0 ds
mutual
theorem locsLt_mono {m n : Nat} (h : m ≤ n) : ∀ {d : D}, locsLt m d = true → locsLt n d = true
  | .non, _ => rfl
  | .bl _, _ => rfl
  | .int _, _ => rfl
  | .str _, _ => rfl
  | .tup _, e => locsLts_mono h e
  | .lst _, e => locsLts_mono h e
  | .frz _, e => locsLts_mono h e
  | .exn _ _ _, e => locsLts_mono h e
  | .loc _, e => decide_eq_true (Nat.lt_of_lt_of_le (of_decide_eq_true e) h)
theorem locsLts_mono {m n : Nat} (h : m ≤ n) : ∀ {ds : List D}, locsLts m ds = true → locsLts n ds = true
  | [], _ => rfl
  | d :: ds, e => by
    have e' : (locsLt m d && locsLts m ds) = true := e
    rw [Bool.and_eq_true] at e'
    show (locsLt n d && locsLts n ds) = true
    rw [locsLt_mono h e'.1, locsLts_mono h e'.2]
    rfl
end
@[simp] theorem lf_non : lf .non = true := by simp only [lf, locsLt]
@[simp] theorem lf_bl {b : Bool} : lf (.bl b) = true := by simp only [lf, locsLt]
@[simp] theorem lf_int {b : Int} : lf (.int b) = true := by simp only [lf, locsLt]
@[simp] theorem lf_str {b : Str} : lf (.str b) = true := by simp only [lf, locsLt]
@[simp] theorem lf_tup {ds : List D} : lf (.tup ds) = lfs ds := by simp only [lf, locsLt, lfs]
@[simp] theorem lf_lst {ds : List D} : lf (.lst ds) = lfs ds := by simp only [lf, locsLt, lfs]
@[simp] theorem lf_frz {ds : List D} : lf (.frz ds) = lfs ds := by simp only [lf, locsLt, lfs]
@[simp] theorem lfs_nil : lfs [] = true := by simp only [lfs, locsLts]
@[simp] theorem lfs_cons {d : D} {ds : List D} : lfs (d :: ds) = (lf d && lfs ds) := by simp only [lfs, lf, locsLts]
theorem lfs_all {ds : List D} : lfs ds = true ↔ ∀ d ∈ ds, lf d = true := by
  induction ds with
  | nil => simp
  | cons d ds ih => simp [ih]
@[simp] theorem lfs_append {ds es : List D} : lfs (ds ++ es) = (lfs ds && lfs es) := by
  induction ds with
  | nil => simp
  | cons d ds ih => simp [ih, Bool.and_assoc]
theorem lfs_map {α : Type} {f : α → D} {xs : List α} (h : ∀ x, lf (f x) = true) : lfs (xs.map f) = true := lfs_all.mpr fun d hd => by
  obtain ⟨x, _, rfl⟩ := List.mem_map.mp hd
  exact h x
section
variable {st0 l : Store} {d : D} {Q : D → Store → Prop}
theorem keepOk_app : keepOk st0 (st0 ++ l) := fun i hi => .inl (List.getElem?_append_left hi)
theorem gc_ret {st : Store} (k : keepOk st0 st) (h : lf d = true) : gcRet st0 d st = .ok d (st.take st0.length) := by
  unfold gcRet
  rw [if_pos k]
  have e : reify st0.length st 4 d = some d := by
    unfold reify
    rw [if_pos (locsLt_mono (Nat.zero_le _) h)]
  rw [e]
@[simp] theorem gc_app (h : lf d = true) : gcRet st0 d (st0 ++ l) = .ok d st0 := by rw [gc_ret keepOk_app h, List.take_left']; rfl
@[simp] theorem gc_same (h : lf d = true) : gcRet st0 d st0 = .ok d st0 := by
  have := gc_app (st0 := st0) (l := []) (d := d) h
  rw [List.append_nil] at this
  exact this
/-- a list at an own place -/
theorem gc_lst {ds : List D} {i : Nat} (h : lstAt l i = some ds) (hl : lfs ds = true) : gcRet st0 (.loc (st0.length + i)) (st0 ++ l) = .ok (.lst ds) st0 := by
  unfold gcRet
  rw [if_pos keepOk_app]
  have e0 : ∀ n st (k : Nat) (ds : List D), lfs ds = true → ds.mapM (reify n st (k + 1)) = some ds := by
    intro n st k ds
    induction ds with
    | nil => intro _; rfl
    | cons d ds ih =>
      intro h
      rw [lfs_cons, Bool.and_eq_true] at h
      have e1 : reify n st (k + 1) d = some d := by
        unfold reify
        rw [if_pos (locsLt_mono (Nat.zero_le _) h.1)]
      simp [List.mapM_cons, e1, ih h.2]
  have e : reify st0.length (st0 ++ l) 4 (.loc (st0.length + i)) = some (.lst ds) := by
    unfold reify
    have : ¬ (locsLt st0.length (.loc (st0.length + i)) = true) := by
      show ¬ (decide (st0.length + i < st0.length) = true)
      simp
    rw [if_neg this]
    simp only [lstAt_app, h, e0 _ _ _ _ hl, Option.map_some]
  rw [e, List.take_left']
  rfl
end
@[simp] theorem ofs_inj {a b : String} : (Str.ofString a = Str.ofString b) = (a = b) := by
  refine propext ⟨fun h => ?_, fun h => by rw [h]⟩
  rw [Str.ofString_eq_toList, Str.ofString_eq_toList] at h
  injection h with h
  have h2 : a.toList.map Char.toNat = b.toList.map Char.toNat := by
    have := congrArg Array.toList h
    simpa using this
  have inj : ∀ x y : Char, x.toNat = y.toNat → x = y := fun x y e => Char.ext (UInt32.toNat_inj.mp e)
  have h3 : a.toList = b.toList := by
    have h4 : ∀ (l m : List Char), l.map Char.toNat = m.map Char.toNat → l = m := by
      intro l
      induction l with
      | nil => intro m e; cases m with
        | nil => rfl
        | cons _ _ => cases e
      | cons c l ih =>
        intro m e
        cases m with
        | nil => cases e
        | cons d m =>
          injection e with e1 e2
          rw [inj c d e1, ih m e2]
    exact h4 _ _ h2
  exact String.toList_inj.mp h3
theorem small_int : ∀ i : Nat, i < 64 → ((i : Int).natAbs.log2 < 1920) ∧ (Str.ofString (toString (i : Int))).length ≤ 2 := by decide +kernel
/-- a letter and a small number -/
theorem str_small {i : Nat} {st : Store} (h : i < 64) : strD [.int (i : Int)] st = .ok (.str (Str.ofString (Int.repr (i : Int)))) st := by
  rw [strD_int, if_pos (small_int i h).1]
  rfl
theorem add_small {i : Nat} {st : Store} {b : Bool} {p : Str} (h : i < 64) (hp : p.length ≤ 1000) : addD b (.str p) (.str (Str.ofString (Int.repr (i : Int)))) st = .ok (.str (p ++ Str.ofString (Int.repr (i : Int)))) st := by
  have := (small_int i h).2
  rw [add_str, if_pos]
  show p.length + (Str.ofString (toString (i : Int))).length ≤ 1000000
  omega
theorem rng_mem {lo : Int} {n : Nat} {d : D} (h : d ∈ rng lo n) : ∃ i : Nat, i < n ∧ d = .int (lo + i) := by
  unfold rng at h
  obtain ⟨i, hi, rfl⟩ := List.mem_map.mp h
  exact ⟨i, List.mem_range.mp hi, rfl⟩
@[simp] theorem rng_length {lo : Int} {n : Nat} : (rng lo n).length = n := by simp [rng]
/-! ### loops -/
section
theorem forGo_wp {g : TM} {b : SM} {fg : List Nat} {gd : Store → Prop} {P : Po} (Inv : List D → Vars → Store → Prop)
    (hg : ∀ r vs st, Inv r vs st → gd st)
    (step : ∀ d r vs st, Inv (d :: r) vs st → ∃ vs1, g d vs = some vs1 ∧ wpS (b vs1 st) ⟨fun vs2 st2 => Inv r (drp fg vs2) st2, P.r, fun vs2 st2 => P.n (drp fg vs2) st2, fun vs2 st2 => Inv r (drp fg vs2) st2⟩)
    (fin : ∀ vs st, Inv [] vs st → P.n vs st) : ∀ (ds : List D) (vs : Vars) (st : Store), Inv ds vs st → wpS (forGo g b fg gd ds vs st) P
  | [], vs, st, h => by
    unfold forGo
    rw [if_pos (hg _ _ _ h)]
    exact ⟨fin _ _ h⟩
  | d :: ds, vs, st, h => by
    unfold forGo
    rw [if_pos (hg _ _ _ h)]
    obtain ⟨vs1, e, w⟩ := step d ds vs st h
    rw [e]
    simp only
    cases hb : b vs1 st with
    | nx vs2 st2 => rw [hb] at w; exact forGo_wp Inv hg step fin ds _ _ w.of
    | ct vs2 st2 => rw [hb] at w; exact forGo_wp Inv hg step fin ds _ _ w.of
    | brk vs2 st2 => rw [hb] at w; exact ⟨w.of⟩
    | ret d2 st2 => rw [hb] at w; exact ⟨w.of⟩
    | bad => rw [hb] at w; exact w.of.elim
    | exc e vs2 st2 => rw [hb] at w; exact w.of.elim
theorem sFor_wp {im : IM} {g : TM} {b : SM} {fg : List Nat} {vs : Vars} {st : Store} {P : Po} :
    wpS (sFor im g b fg vs st) P = wp (im vs st) fun it st => wpS (forGo g b fg (grd it) it.1 (drp fg vs) st) P := by
  unfold sFor
  rw [wpS_thn]
theorem compGo_wp {g : TM} {t e : EM} {gd : Store → Prop} {vs : Vars} (Inv : List D → List D → Store → Prop) (hg : ∀ r acc st, Inv r acc st → gd st)
    (step : ∀ d r acc st, Inv (d :: r) acc st → ∃ vs1, g d vs = some vs1 ∧ wp (t vs1 st) fun x st1 => (x = .bl true ∧ wp (e vs1 st1) fun y st2 => Inv r (acc ++ [y]) st2) ∨ (x = .bl false ∧ Inv r acc st1)) :
    ∀ (ds acc : List D) (st : Store), Inv ds acc st → wp (compGo g t e gd vs ds st) fun ys st' => Inv [] (acc ++ ys) st'
  | [], acc, st, h => by
    unfold compGo
    rw [if_pos (hg _ _ _ h)]
    rw [wp_ok, List.append_nil]
    exact h
  | d :: ds, acc, st, h => by
    unfold compGo
    rw [if_pos (hg _ _ _ h)]
    obtain ⟨vs1, e1, w⟩ := step d ds acc st h
    rw [e1]
    simp only [wp_okk]
    refine wp_mono w fun x st1 hx => ?_
    rcases hx with ⟨rfl, w2⟩ | ⟨rfl, h2⟩
    · simp only [wp_okk]
      refine wp_mono w2 fun y st2 h2 => ?_
      rw [wp_okk]
      refine wp_mono (compGo_wp Inv hg step ds _ _ h2) fun ys st3 h3 => ?_
      rw [List.append_assoc] at h3
      exact ⟨h3⟩
    · exact compGo_wp Inv hg step ds _ _ h2
theorem eComp_wp {n : Bool} {im : IM} {g : TM} {t e : EM} {own : List Nat} {vs : Vars} {st : Store} {Q : D → Store → Prop} :
    wp (eComp n im g t e own vs st) Q = wp (im vs st) fun it st => room it.1.length ∧ wp (compGo g t e (grd it) (drp own vs) it.1 st) fun ys st => wp (mkNew n ys st) Q := by
  unfold eComp
  rw [wp_bind]
  congr 1
  funext it st
  split
  · rename_i h
    simp only [wp_okk, h, true_and]
  · rename_i h
    simp only [h, false_and]
    exact wp_bad
/-- the elements change nothing -/
theorem compGo_pure {g : TM} {t e : EM} {gd : Store → Prop} {vs : Vars} {st : Store} {p : D → Bool} {f : D → D} (hg : gd st) : ∀ {ds : List D},
    (∀ d ∈ ds, ∃ vs1, g d vs = some vs1 ∧ t vs1 st = .ok (.bl (p d)) st ∧ (p d = true → e vs1 st = .ok (f d) st)) → compGo g t e gd vs ds st = .ok ((ds.filter p).map f) st
  | [], _ => by unfold compGo; rw [if_pos hg]; rfl
  | d :: ds, h => by
    unfold compGo
    rw [if_pos hg]
    obtain ⟨vs1, e1, e2, e3⟩ := h d List.mem_cons_self
    have ih := compGo_pure hg fun d' hd => h d' (List.mem_cons_of_mem _ hd)
    rw [e1]
    simp only [e2, okk_ok]
    cases hp : p d with
    | true => simp only [e3 hp, okk_ok, ih, List.filter_cons, hp, if_true, List.map_cons]
    | false => simp only [ih, List.filter_cons, hp, Bool.false_eq_true, if_false]
theorem sWhile_ct {c : EM} {b : SM} {vs vs1 : Vars} {st st1 st2 : Store} (hc : c vs st = .ok (.bl true) st1) (hb : b vs st1 = .ct vs1 st2) : sWhile c b vs st = sWhile c b vs1 st2 := by
  by_cases h' : ∃ r n, wGo c b n vs1 st2 = some r
  · obtain ⟨r, n, e⟩ := h'
    rw [sWhile_eq e]
    refine sWhile_eq (n := n + 1) ?_
    unfold wGo
    rw [hc]
    simp only [hb]
    exact e
  · have e1 : sWhile c b vs1 st2 = .bad := by
      unfold sWhile
      rw [dif_neg h']
    rw [e1]
    unfold sWhile
    rw [dif_neg]
    rintro ⟨r, n, e⟩
    cases n with
    | zero => cases e
    | succ n =>
      unfold wGo at e
      rw [hc] at e
      simp only [hb] at e
      exact h' ⟨r, n, e⟩
theorem sWhile_brk {c : EM} {b : SM} {vs vs1 : Vars} {st st1 st2 : Store} (hc : c vs st = .ok (.bl true) st1) (hb : b vs st1 = .brk vs1 st2) : sWhile c b vs st = .nx vs1 st2 := by
  refine sWhile_eq (n := 1) ?_
  unfold wGo
  rw [hc]
  simp only [hb]
theorem sWhile_ret {c : EM} {b : SM} {vs : Vars} {st st1 st2 : Store} {d : D} (hc : c vs st = .ok (.bl true) st1) (hb : b vs st1 = .ret d st2) : sWhile c b vs st = .ret d st2 := by
  refine sWhile_eq (n := 1) ?_
  unfold wGo
  rw [hc]
  simp only [hb]
theorem while_wp {c : EM} {b : SM} {P : Po} (Inv : Nat → Vars → Store → Prop)
    (step : ∀ n vs st, Inv n vs st → wp (c vs st) fun d st1 => (d = .bl false ∧ P.n vs st1) ∨ (d = .bl true ∧ wpS (b vs st1) ⟨fun vs2 st2 => ∃ m, m < n ∧ Inv m vs2 st2, P.r, fun vs2 st2 => P.n vs2 st2, fun vs2 st2 => ∃ m, m < n ∧ Inv m vs2 st2⟩)) :
    ∀ (n : Nat) (vs : Vars) (st : Store), Inv n vs st → wpS (sWhile c b vs st) P := by
  intro n
  induction n using Nat.strongRecOn with
  | ind n ih =>
    intro vs st h
    obtain ⟨d, st1, e, w⟩ := wp_ex (step n vs st h)
    rcases w with ⟨rfl, w⟩ | ⟨rfl, w⟩
    · rw [sWhile_end e]
      exact ⟨w⟩
    · cases hb : b vs st1 with
      | nx vs2 st2 =>
        rw [hb] at w
        obtain ⟨m, hm, hi⟩ := w.of
        rw [sWhile_turn e hb]
        exact ih m hm _ _ hi
      | ct vs2 st2 =>
        rw [hb] at w
        obtain ⟨m, hm, hi⟩ := w.of
        rw [sWhile_ct e hb]
        exact ih m hm _ _ hi
      | brk vs2 st2 =>
        rw [hb] at w
        rw [sWhile_brk e hb]
        exact ⟨w.of⟩
      | ret d2 st2 =>
        rw [hb] at w
        rw [sWhile_ret e hb]
        exact ⟨w.of⟩
      | bad => rw [hb] at w; exact w.of.elim
      | exc e vs2 st2 => rw [hb] at w; exact w.of.elim
end
end Dn
namespace Dn
open PySem PySem.Spec PyProof.Rows L2
/-! ### draws of a script -/
noncomputable def takeB1 : SM := (sIf (eAnd (e2 eqD (e2 ixA (eV 0) (eC (.int 2))) (eC (.int 0))) (e2 ltD (e2 ixA (eV 0) (eC (.int 1))) (eN lenD (aCons (e2 ixA (eV 0) (eC (.int 0))) (aNil))))) (sSeq (sSub setA (eV 0) (eC (.int 2)) (eN absD (aCons (eN intD (aCons (e2 ixA (e2 ixA (eV 0) (eC (.int 0))) (e2 ixA (eV 0) (eC (.int 1)))) (aNil))) (aNil)))) (sSeq (sSub setA (eV 0) (eC (.int 1)) (e2 (addD false) (e2 ixA (eV 0) (eC (.int 1))) (eC (.int 1)))) (sIf (e2 ltD (e2 ixA (eV 0) (eC (.int 2))) (e2 powD (eC (.int 10)) (eC (.int 18)))) (sSeq (sAsg (gN 2) (eN intD (aCons (e2 ixA (eV 0) (eC (.int 2))) (aNil)))) (sSeq (sSub setA (eV 0) (eC (.int 2)) (eC (.int 0))) (sRet (e2 modD (eV 2) (eV 1))))) (sNil)))) (sNil))
noncomputable def takeB2 : SM := (sIf (e2 gtD (e2 ixA (eV 0) (eC (.int 2))) (eC (.int 0))) (sSeq (sAsg (gN 3) (e2 modD (eN intD (aCons (e2 ixA (eV 0) (eC (.int 2))) (aNil))) (eV 1))) (sSeq (sSub setA (eV 0) (eC (.int 2)) (e2 fdivD (eN intD (aCons (e2 ixA (eV 0) (eC (.int 2))) (aNil))) (eV 1))) (sRet (eV 3)))) (sNil))
noncomputable def takeB3 : SM := (sSeq (sSub setA (eV 0) (eC (.int 3)) (e2 modD (eN intD (aCons (e2 (addD false) (e2 (mulD false) (e2 ixA (eV 0) (eC (.int 3))) (eC (.int 48271))) (eC (.int 11))) (aNil))) (eC (.int 2147483647)))) (sRet (e2 modD (eN intD (aCons (e2 fdivD (e2 ixA (eV 0) (eC (.int 3))) (eC (.int 3))) (aNil))) (eV 1))))
noncomputable def takeB : SM := sSeq takeB1 (sSeq takeB2 takeB3)
noncomputable def takeM : FnD := fnD 4 takeB
noncomputable def beginB : SM := sSeq (sAsg (gN 1) (eC (.int 1))) (sSeq (sFor (iE (eV 0)) (gN 2) (sAsg (gN 1) (e2 modD (e2 (addD false) (e2 (addD false) (e2 (mulD false) (eV 1) (eC (.int 69621))) (e2 modD (eN intD (aCons (eV 2) (aNil))) (eC (.int 2147483629)))) (eC (.int 7))) (eC (.int 2147483647)))) [2]) (sRet (eLst true (aCons (eN (listD false) (aCons (eV 0) (aNil))) (aCons (eC (.int 0)) (aCons (eC (.int 0)) (aCons (eV 1) (aNil))))))))
noncomputable def beginM : FnD := fnK 3 beginB
noncomputable def pickB : SM := sRet (e2 ixA (eV 1) (eN takeM (aCons (eV 0) (aCons (eN lenD (aCons (eV 1) (aNil))) (aNil)))))
noncomputable def pickM : FnD := fnD 2 pickB
/-- the draws' list -/
def DrawOk (c : Option Ob) : Prop := ∃ (ns : List Int) (i : Nat) (n seed : Int), c = some (.lst [.lst (ns.map D.int), .int i, .int n, .int seed])
theorem lfs_ints {ns : List Int} : lfs (ns.map D.int) = true := lfs_map fun _ => rfl
theorem gc_draw {c c' : Option Ob} {t : Store} {d : D} (h : DrawOk c') (hd : lf d = true) : gcRet (c :: t) d (c' :: t) = .ok d (c' :: t) := by
  have k : keepOk (c :: t) (c' :: t) := fun i hi => by
    cases i with
    | zero =>
      refine .inr ⟨c', rfl, fun ob e => ?_⟩
      obtain ⟨ns, i, n, seed, rfl⟩ := h
      injection e with e
      subst e
      have : lfs [.lst (ns.map D.int), .int i, .int n, .int seed] = true := by simp [lfs_ints]
      exact locsLts_mono (Nat.zero_le _) this
    | succ i => exact .inl rfl
  rw [gc_ret k hd]
  show Re.ok d ((c' :: t).take (c' :: t).length) = _
  rw [List.take_length]
theorem take_wp {c : Option Ob} {t : Store} {m : Int} {Q : D → Store → Prop} (h : DrawOk c) (h0 : 0 < m) (h1 : m < 1073741824) (q : ∀ r c', DrawOk c' → 0 ≤ r → r < m → Q (.int r) (c' :: t)) : wp (takeM [.loc 0, .int m] (c :: t)) Q := by
  obtain ⟨ns, i, n, seed, rfl⟩ := h
  have gc : ∀ (i' : Nat) (n' seed' r : Int), 0 ≤ r → r < m → wp (gcRet (some (.lst [.lst (ns.map D.int), .int i, .int n, .int seed]) :: t) (.int r) (some (.lst [.lst (ns.map D.int), .int i', .int n', .int seed']) :: t)) Q := fun i' n' seed' r h0 h1 => by
    have hd : DrawOk (some (.lst [.lst (ns.map D.int), .int i', .int n', .int seed'])) := ⟨ns, i', n', seed', rfl⟩
    rw [gc_draw hd rfl, wp_ok]
    exact q r _ hd h0 h1
  have md : ∀ x : Int, 0 ≤ x % m ∧ x % m < m := fun x => ⟨Int.emod_nonneg _ (by omega), Int.emod_lt_of_pos _ h0⟩
  have sec : ∀ (i' : Nat) (n' : Int), wpS ((sSeq takeB2 takeB3) [some (.loc 0), some (.int m), none, none] (some (.lst [.lst (ns.map D.int), .int i', .int n', .int seed]) :: t)) ⟨fun _ st' => wp (gcRet (some (.lst [.lst (ns.map D.int), .int i, .int n, .int seed]) :: t) .non st') Q, fun d st' => wp (gcRet (some (.lst [.lst (ns.map D.int), .int i, .int n, .int seed]) :: t) d st') Q, fun _ _ => False, fun _ _ => False⟩ := by
    intro i' n'
    unfold takeB2 takeB3
    by_cases hn : 0 < n'
    · simp [ixA_loc, setA_loc, ixN_pos, hn, h0, h1]
      exact gc _ _ _ _ (md _).1 (md _).2
    · simp [ixA_loc, setA_loc, ixN_pos, hn, h0, h1]
      exact gc _ _ _ _ (md _).1 (md _).2
  unfold takeM
  rw [wp_fnD]
  show wpS (sSeq takeB1 (sSeq takeB2 takeB3) _ _) _
  unfold takeB1
  by_cases hc : n = 0 ∧ i < ns.length
  · obtain ⟨rfl, hi⟩ := hc
    have e : ns[i]? = some ns[i] := List.getElem?_eq_getElem hi
    by_cases hx : (if ns[i] < 0 then -ns[i] else ns[i]) < 1000000000000000000
    · simp [ixA_loc, setA_loc, ixN_pos, hi, e, hx, h0]
      exact gc (i + 1) 0 _ _ (md _).1 (md _).2
    · simp [ixA_loc, setA_loc, ixN_pos, hi, e, hx, h0]
      have s2 := sec (i + 1) (if ns[i] < 0 then -ns[i] else ns[i])
      rw [sSeq_eq, wpS_seq] at s2
      exact s2
  · have hb : (decide (n = 0) && decide (i < ns.length)) = false := by
      rw [Bool.and_eq_false_iff, decide_eq_false_iff_not, decide_eq_false_iff_not]
      by_cases h : n = 0
      · exact .inr fun z => hc ⟨h, z⟩
      · exact .inl h
    simp [ixA_loc, hb]
    have s2 := sec i n
    rw [sSeq_eq, wpS_seq] at s2
    exact s2
theorem begin_ok {ns : List Int} : ∃ c, DrawOk c ∧ beginM [.frz (ns.map D.int)] [] = .ok (.loc 0) [c] := by
  have : wp (beginM [.frz (ns.map D.int)] []) fun d st => d = .loc 0 ∧ ∃ c, DrawOk c ∧ st = [c] := by
    unfold beginM
    rw [wp_fnK]
    unfold beginB
    simp [sFor_wp]
    refine forGo_wp (fun r vs st => (∃ l, r = l.map D.int) ∧ st = [] ∧ ∃ s : Int, vs = [some (.frz (ns.map D.int)), some (.int s), none]) (fun _ _ _ _ => trivial) (fun d r vs st h => ?_) (fun vs st h => ?_) _ _ _ ⟨⟨ns, rfl⟩, rfl, 1, rfl⟩
    · obtain ⟨⟨l, hl⟩, rfl, s, rfl⟩ := h
      cases l with
      | nil => cases hl
      | cons x l =>
        injection hl with h1 h2
        subst h1 h2
        simp
        exact ⟨l, rfl⟩
    · obtain ⟨_, rfl, s, rfl⟩ := h
      simp
      exact ⟨ns, 0, 0, s, rfl⟩
  obtain ⟨d, st, e, rfl, c, hc, rfl⟩ := wp_ex this
  exact ⟨c, hc, e⟩
theorem pick_wp {c : Option Ob} {t : Store} {ds : List D} {Q : D → Store → Prop} (h : DrawOk c) (h0 : 0 < ds.length) (h1 : ds.length < 1000000) (hl : lfs ds = true) (q : ∀ d c', DrawOk c' → d ∈ ds → Q d (c' :: t)) : wp (pickM [.loc 0, .lst ds] (c :: t)) Q := by
  unfold pickM
  rw [wp_fnD]
  unfold pickB
  simp
  refine take_wp h (by omega) (by omega) fun r c' hc hr0 hr1 => ?_
  have hr : r.toNat < ds.length := by omega
  have e : ds[r.toNat]? = some ds[r.toNat] := List.getElem?_eq_getElem hr
  have hd : lf ds[r.toNat] = true := lfs_all.mp hl _ (List.getElem_mem hr)
  simp [hr0, e, gc_draw hc hd]
  exact q _ _ hc (List.getElem_mem hr)
end Dn
namespace Dn
open PySem PySem.Spec PyProof.Rows L2
theorem okd_mono {n m : Nat} (h : n ≤ m) : ∀ {d : D}, okd n d = true → okd m d = true := by
  induction n generalizing m with
  | zero => intro d e; cases d <;> simp_all [okd]
  | succ n ih =>
    intro d e
    obtain ⟨m, rfl⟩ : ∃ k, m = k + 1 := ⟨m - 1, by omega⟩
    cases d with
    | tup ds =>
      simp only [okd, List.all_eq_true] at e ⊢
      exact fun x hx => ih (by omega) (e x hx)
    | lst ds =>
      simp only [okd, List.all_eq_true] at e ⊢
      exact fun x hx => ih (by omega) (e x hx)
    | _ => simp_all [okd]
theorem eqvD_refl {n : Nat} {d : D} (h : okd n d = true) : eqvD d d = true := SeqAt.eqv_refl _ (by
  have : ∀ (n : Nat) (d : D), okd n d = true → (pd d).canLay0 = true := fun n d h => (okd_shape n d h).1
  exact this n d h)
theorem okd_res {st : Store} {d : D} {n : Nat} (h : okd n d = true) : resD st d = d := by
  cases d with
  | loc _ => cases n <;> simp [okd] at h
  | _ => rfl
theorem eqB_refl {st : Store} {d : D} (h : okd 60 d = true) : eqB st d d = some true := by
  have hr : resD st d = d := okd_res h
  cases d with
  | non => rfl
  | int i => simp [eqB]
  | bl i => simp [eqB]
  | str i => simp [eqB]
  | tup ds =>
    show (if okd 60 (resD st (.tup ds)) && okd 60 (resD st (.tup ds)) then some (eqvD (resD st (.tup ds)) (resD st (.tup ds))) else none) = some true
    rw [hr, h, eqvD_refl h]
    rfl
  | lst ds =>
    show (if okd 60 (resD st (.lst ds)) && okd 60 (resD st (.lst ds)) then some (eqvD (resD st (.lst ds)) (resD st (.lst ds))) else none) = some true
    rw [hr, h, eqvD_refl h]
    rfl
  | frz ds => simp [okd] at h
  | loc n => simp [okd] at h
  | exn _ _ _ => simp [okd] at h
theorem eq_refl {st : Store} {d : D} (h : okd 60 d = true) : eqD d d st = .ok (.bl true) st := by
  unfold eqD
  rw [eqB_refl h]
theorem ne_refl {st : Store} {d : D} (h : okd 60 d = true) : neD d d st = .ok (.bl false) st := by
  unfold neD
  rw [eqB_refl h]
  rfl
theorem okd_int {n : Nat} {i : Int} : okd n (.int i) = true := by cases n <;> rfl
theorem okd_bl {n : Nat} {i : Bool} : okd n (.bl i) = true := by cases n <;> rfl
theorem okd_non {n : Nat} : okd n .non = true := by cases n <;> rfl
theorem okd_str {n : Nat} {x : Str} (h : PyData.strOk x = true) : okd n (.str x) = true := by cases n <;> exact h
theorem okd_tup {n : Nat} {ds : List D} (h : ∀ d ∈ ds, okd n d = true) : okd (n + 1) (.tup ds) = true := List.all_eq_true.mpr h
theorem okd_lst {n : Nat} {ds : List D} (h : ∀ d ∈ ds, okd n d = true) : okd (n + 1) (.lst ds) = true := List.all_eq_true.mpr h
theorem okd_map {α : Type} {n : Nat} {f : α → D} {xs : List α} (h : ∀ x ∈ xs, okd n (f x) = true) : ∀ d ∈ xs.map f, okd n d = true := fun d hd => by
  obtain ⟨x, hx, rfl⟩ := List.mem_map.mp hd
  exact h x hx
@[simp] theorem eqv_int {i j : Int} : eqvD (.int i) (.int j) = decide (i = j) := by
  unfold eqvD
  simp only [pd, PyData.eqv]
  by_cases h : i = j <;> simp [h]
@[simp] theorem eqv_str {i j : Str} : eqvD (.str i) (.str j) = decide (i = j) := by
  unfold eqvD
  simp only [pd, PyData.eqv]
  by_cases h : i = j <;> simp [h]
section
variable {st : Store} {neg b : Bool} {f : D → D → Store → Re D} {x : D} {ds : List D} {i : Int} {z : Str}
@[simp] theorem inA_tup : inA neg f x (.tup ds) st = f x (.tup ds) st := rfl
@[simp] theorem inA_lst : inA neg f x (.lst ds) st = f x (.lst ds) st := rfl
@[simp] theorem inA_frz : inA neg f x (.frz ds) st = f x (.frz ds) st := rfl
@[simp] theorem inA_str : inA neg f x (.str z) st = f x (.str z) st := rfl
theorem inB_flat (h : flatD x = true) (hs : ds.all flatD = true) {y : D} (hy : seqOf st y = some ds) : inB st x y = some (ds.any fun z => eqvD z x) := by
  have hm : (match seqOf st y with
      | some ds => if flatD x && ds.all flatD then some (ds.any fun z => eqvD z x)
        else if okd 60 x && ds.all (okd 59) then some (ds.any fun z => eqvD z x) else none
      | none => none) = some (ds.any fun z => eqvD z x) := by
    rw [hy]
    simp only [h, hs, Bool.and_self, if_true]
  unfold inB
  split
  · rename_i c z'
    cases hy
  · exact hm
theorem in_flat (h : flatD x = true) (hs : ds.all flatD = true) {y : D} (hy : seqOf st y = some ds) : inD x y st = .ok (.bl (ds.any fun z => eqvD z x)) st := by
  unfold inD
  rw [inB_flat h hs hy]
theorem nin_flat (h : flatD x = true) (hs : ds.all flatD = true) {y : D} (hy : seqOf st y = some ds) : ninD x y st = .ok (.bl !(ds.any fun z => eqvD z x)) st := by
  unfold ninD
  rw [inB_flat h hs hy]
@[simp] theorem flat_int : flatD (.int i) = true := by simp only [flatD]
@[simp] theorem flat_str : flatD (.str z) = true := by simp only [flatD]
@[simp] theorem flat_bl : flatD (.bl b) = true := by simp only [flatD]
@[simp] theorem flat_non : flatD .non = true := by simp only [flatD]
end
theorem idxB_strs {z : Str} : ∀ {zs : List Str} (n : Nat), z ∈ zs → idxB (.str z) (zs.map .str) n = some (n + zs.idxOf z)
  | y :: zs, n, h => by
    unfold idxB
    rw [List.map_cons]
    simp only [eqv_str]
    by_cases e : y = z
    · subst e
      simp
    · have h' : z ∈ zs := by
        rcases List.mem_cons.mp h with rfl | h
        · exact absurd rfl e
        · exact h
      have e2 : (y == z) = false := by simp [e]
      rw [if_neg (by simpa using e), idxB_strs (n + 1) h', List.idxOf_cons, e2]
      simp
      omega
theorem index_strs {st : Store} {z : Str} {zs : List Str} (h : z ∈ zs) (hk : zs.all PyData.strOk = true) : indexD (.lst (zs.map .str)) [.str z] st = .ok (.int (zs.idxOf z : Nat)) st := by
  have hk' := List.all_eq_true.mp hk
  unfold indexD
  simp only [lstOf_lst, opt_some]
  rw [if_pos ⟨okd_str (hk' z h), List.all_eq_true.mpr (okd_map fun x hx => okd_str (hk' x hx))⟩, idxB_strs 0 h]
  simp
/-! ### dicts -/
section
variable {st : Store} {n : Nat} {z : Str} {i : Int} {k : L2.Key} {d : D} {r : List (L2.Key × D)} {ps : List (D × D)}
@[simp] theorem keysK_nil : keysK [] = some [] := rfl
@[simp] theorem keysK_str : keysK ((.str z, d) :: ps) = (keysK ps).map ((.inr z, d) :: ·) := rfl
@[simp] theorem keysK_int : keysK ((.int i, d) :: ps) = (keysK ps).map ((.inl i, d) :: ·) := rfl
@[simp] theorem getK_nil : getK ([] : List (L2.Key × D)) k = none := rfl
@[simp] theorem getK_cons {j : L2.Key} : getK ((j, d) :: r) k = if j = k then some d else getK r k := by
  unfold getK
  rw [List.find?_cons]
  by_cases e : j = k <;> simp [e]
@[simp] theorem ixA_strkey : ixA (.loc n) (.str z) st = match cell st n with
    | some (.dct kvs) => (match getK kvs (.inr z) with | some d => .ok d st | none => .bad)
    | _ => .bad := by
  cases h : cell st n with
  | none =>
    unfold ixA dGet ixD
    simp [h]
  | some o =>
    cases o with
    | dct kvs =>
      unfold ixA dGet
      simp only [h, keyK, Option.map_some]
      cases getK kvs (.inr z) <;> rfl
    | _ =>
      unfold ixA dGet ixD
      simp [h]
@[simp] theorem ixA_intkey : ixA (.loc n) (.int i) st = match cell st n with
    | some (.dct kvs) => (match getK kvs (.inl i) with | some d => .ok d st | none => .bad)
    | some (.lst ds) => (match atI ds i with | some d => .ok d st | none => .bad)
    | _ => .bad := by
  cases h : cell st n with
  | none =>
    unfold ixA dGet ixD seqOf lstAt
    simp [h]
  | some o =>
    cases o with
    | dct kvs =>
      unfold ixA dGet
      simp only [h, keyK, Option.map_some]
      cases getK kvs (.inl i) <;> rfl
    | lst ds => exact ixA_loc (by unfold lstAt; rw [h])
    | dtt kvs =>
      unfold ixA dGet ixD seqOf lstAt
      simp [h]
    | ins c fs =>
      unfold ixA dGet ixD seqOf lstAt
      simp [h]
end
end Dn
namespace Dn
open PySem PySem.Spec PyProof.Rows L2
/-! ### comprehensions that draw -/
/-- an element, behind draws -/
def DE (T : Store) (Pr : D → Prop) (y : D) (st : Store) : Prop := Pr y ∧ ∃ c, DrawOk c ∧ st = c :: T
theorem de_of {T : Store} {Pr : D → Prop} {y : D} {c : Option Ob} (h : Pr y) (k : DrawOk c) : DE T Pr y (c :: T) := ⟨h, c, k, rfl⟩
/-- a test, behind draws -/
def DT (T : Store) (k : Store → Prop) (x : D) (st : Store) : Prop := ∃ c, DrawOk c ∧ st = c :: T ∧ ∃ b, x = .bl b ∧ (b = true → k (c :: T))
theorem dt_of {T : Store} {k : Store → Prop} {b : Bool} {c : Option Ob} (h : DrawOk c) (q : b = true → k (c :: T)) : DT T k (.bl b) (c :: T) := ⟨c, h, rfl, b, rfl, q⟩
section
variable {g : TM} {tt e : EM} {gd : Store → Prop} {vs : Vars} {T : Store} {Pr : D → Prop}
theorem compGo_draw1 (hg : ∀ c, gd (c :: T)) : ∀ (ds : List D) (c : Option Ob), DrawOk c → (∀ d ∈ ds, ∀ c, DrawOk c → ∃ vs1, g d vs = some vs1 ∧ wp (e vs1 (c :: T)) (DE T Pr)) →
    wp (compGo g (eC (.bl true)) e gd vs ds (c :: T)) fun ys st => (∀ y ∈ ys, Pr y) ∧ ys.length = ds.length ∧ ∃ c2, DrawOk c2 ∧ st = c2 :: T
  | [], c, hc, _ => by
    unfold compGo
    rw [if_pos (hg _), wp_ok]
    exact ⟨by simp, rfl, c, hc, rfl⟩
  | d :: ds, c, hc, h => by
    unfold compGo
    rw [if_pos (hg _)]
    obtain ⟨vs1, e1, w⟩ := h d List.mem_cons_self c hc
    rw [e1]
    simp only [eC_eq, okk_ok, wp_okk]
    refine wp_mono w fun y st1 h1 => ?_
    obtain ⟨hy, c1, hc1, rfl⟩ := h1
    rw [wp_okk]
    refine wp_mono (compGo_draw1 hg ds c1 hc1 fun d' hd => h d' (List.mem_cons_of_mem _ hd)) fun ys st2 h2 => ?_
    obtain ⟨h3, h4, h5⟩ := h2
    rw [wp_ok]
    exact ⟨fun z hz => by
      rcases List.mem_cons.mp hz with rfl | hz
      · exact hy
      · exact h3 z hz, by simp [h4], h5⟩
theorem compGo_draw (hg : ∀ c, gd (c :: T)) : ∀ (ds : List D) (c : Option Ob), DrawOk c → (∀ d ∈ ds, ∀ c, DrawOk c → ∃ vs1, g d vs = some vs1 ∧ wp (tt vs1 (c :: T)) (DT T fun st => wp (e vs1 st) (DE T Pr))) →
    wp (compGo g tt e gd vs ds (c :: T)) fun ys st => (∀ y ∈ ys, Pr y) ∧ ys.length ≤ ds.length ∧ ∃ c2, DrawOk c2 ∧ st = c2 :: T
  | [], c, hc, _ => by
    unfold compGo
    rw [if_pos (hg _), wp_ok]
    exact ⟨by simp, Nat.le_refl _, c, hc, rfl⟩
  | d :: ds, c, hc, h => by
    unfold compGo
    rw [if_pos (hg _)]
    obtain ⟨vs1, e1, w⟩ := h d List.mem_cons_self c hc
    rw [e1]
    simp only [wp_okk]
    refine wp_mono w fun x st1 h1 => ?_
    obtain ⟨c1, hc1, rfl, b, rfl, hb⟩ := h1
    cases b with
    | true =>
      simp only [wp_okk]
      refine wp_mono (hb rfl) fun y st1 h1 => ?_
      obtain ⟨hy, c2, hc2, rfl⟩ := h1
      rw [wp_okk]
      refine wp_mono (compGo_draw hg ds c2 hc2 fun d' hd => h d' (List.mem_cons_of_mem _ hd)) fun ys st2 h2 => ?_
      obtain ⟨h3, h4, h5⟩ := h2
      rw [wp_ok]
      exact ⟨fun z hz => by
        rcases List.mem_cons.mp hz with rfl | hz
        · exact hy
        · exact h3 z hz, by simp; omega, h5⟩
    | false =>
      refine wp_mono (compGo_draw hg ds c1 hc1 fun d' hd => h d' (List.mem_cons_of_mem _ hd)) fun ys st2 h2 => ?_
      obtain ⟨h3, h4, h5⟩ := h2
      exact ⟨h3, by simp; omega, h5⟩
end
theorem list_of {α : Type} {f : α → D} : ∀ {ys : List D}, (∀ y ∈ ys, ∃ a, y = f a) → ∃ l : List α, ys = l.map f
  | [], _ => ⟨[], rfl⟩
  | y :: ys, h => by
    obtain ⟨a, rfl⟩ := h y List.mem_cons_self
    obtain ⟨l, rfl⟩ := list_of fun z hz => h z (List.mem_cons_of_mem _ hz)
    exact ⟨a :: l, rfl⟩
theorem list_ofP {α : Type} {f : α → D} {p : α → Prop} : ∀ {ys : List D}, (∀ y ∈ ys, ∃ a, y = f a ∧ p a) → ∃ l : List α, ys = l.map f ∧ ∀ a ∈ l, p a
  | [], _ => ⟨[], rfl, fun _ h => by cases h⟩
  | y :: ys, h => by
    obtain ⟨a, rfl, ha⟩ := h y List.mem_cons_self
    obtain ⟨l, rfl, hl⟩ := list_ofP fun z hz => h z (List.mem_cons_of_mem _ hz)
    exact ⟨a :: l, rfl, fun b hb => by
      rcases List.mem_cons.mp hb with rfl | hb
      · exact ha
      · exact hl b hb⟩
@[simp] theorem grd_nil {ds : List D} {st : Store} : grd (ds, []) st = True := rfl
theorem enumP_map {α : Type} {f : α → D} {xs : List α} : enumP (xs.map f) = xs.zipIdx.map fun p => D.tup [.int (p.2 : Nat), f p.1] := by
  unfold enumP
  rw [List.zipIdx_map, List.map_map]
  rfl
theorem fitR_of {i : Int} (h0 : -1000000000 ≤ i) (h1 : i ≤ 1000000000) : fitR i := ⟨by omega, by omega⟩
/-- .. and what was put behind it -/
theorem gc_drawL {c c' : Option Ob} {t l : Store} {d : D} (h : DrawOk c') (hd : lf d = true) : gcRet (c :: t) d (c' :: (t ++ l)) = .ok d (c' :: t) := by
  have k : keepOk (c :: t) (c' :: (t ++ l)) := fun i hi => by
    cases i with
    | zero =>
      refine .inr ⟨c', rfl, fun ob e => ?_⟩
      obtain ⟨ns, i, n, seed, rfl⟩ := h
      injection e with e
      subst e
      have : lfs [.lst (ns.map D.int), .int i, .int n, .int seed] = true := by simp [lfs_ints]
      exact locsLts_mono (Nat.zero_le _) this
    | succ i =>
      refine .inl ?_
      show (t ++ l)[i]? = t[i]?
      exact List.getElem?_append_left (by simpa using hi)
  rw [gc_ret k hd]
  show Re.ok d ((c' :: (t ++ l)).take (t.length + 1)) = _
  rw [List.take_succ_cons, List.take_left']
  rfl
theorem cut_to {ds : List D} {k : Nat} (h : k ≤ ds.length) : cutD ds none (some (k : Int)) = ds.take k := by
  unfold cutD
  rw [HT.sIx_none, HT.sIx_nat, Nat.min_eq_left h]
  simp
theorem cut_from {ds : List D} {k : Nat} (h : k ≤ ds.length) : cutD ds (some (k : Int)) none = ds.drop k := by
  unfold cutD
  rw [HT.sIx_none, HT.sIx_nat, Nat.min_eq_left h]
  exact List.take_of_length_le (by simp)
theorem gc_nil {st : Store} {d : D} (h : lf d = true) : gcRet [] d st = .ok d [] := by
  rw [gc_ret (fun i hi => by simp at hi) h]
  rfl
theorem rng_drop {lo : Int} {n j : Nat} {d : D} {r : List D} (h : (rng lo n).drop j = d :: r) : j < n ∧ d = .int (lo + j) ∧ r = (rng lo n).drop (j + 1) := by
  have hj : j < n := by
    rcases Nat.lt_or_ge j n with h1 | h1
    · exact h1
    · rw [List.drop_eq_nil_of_le (by simpa using h1)] at h
      cases h
  rw [List.drop_eq_getElem_cons (by simpa using hj)] at h
  injection h with h1 h2
  refine ⟨hj, ?_, h2.symm⟩
  rw [← h1]
  simp [rng]
theorem rng_end {lo : Int} {n j : Nat} (h : [] = (rng lo n).drop j) : n ≤ j := by
  have := congrArg List.length h
  simp at this
  omega
theorem max2_int {i j : Int} {st : Store} : maxD [.int i, .int j] st = .ok (.int (if j > i then j else i)) st := rfl
theorem compGo_map {α : Type} {g : TM} {e : EM} {gd : Store → Prop} {vs : Vars} {st : Store} {f h : α → D} (hg : gd st) : ∀ {xs : List α},
    (∀ x ∈ xs, ∃ vs1, g (f x) vs = some vs1 ∧ e vs1 st = .ok (h x) st) → compGo g (eC (.bl true)) e gd vs (xs.map f) st = .ok (xs.map h) st
  | [], _ => by
    show compGo g (eC (.bl true)) e gd vs [] st = _
    unfold compGo
    rw [if_pos hg]
    rfl
  | x :: xs, H => by
    show compGo g (eC (.bl true)) e gd vs (f x :: xs.map f) st = _
    unfold compGo
    rw [if_pos hg]
    obtain ⟨vs1, e1, e2⟩ := H x List.mem_cons_self
    have ih := compGo_map hg fun y hy => H y (List.mem_cons_of_mem _ hy)
    rw [e1]
    simp only [eC_eq, okk_ok, e2, ih, List.map_cons]
theorem compGo_fmap {α : Type} {g : TM} {t e : EM} {gd : Store → Prop} {vs : Vars} {st : Store} {f h : α → D} {p : α → Bool} (hg : gd st) : ∀ {xs : List α},
    (∀ x ∈ xs, ∃ vs1, g (f x) vs = some vs1 ∧ t vs1 st = .ok (.bl (p x)) st ∧ (p x = true → e vs1 st = .ok (h x) st)) → compGo g t e gd vs (xs.map f) st = .ok ((xs.filter p).map h) st
  | [], _ => by
    show compGo g t e gd vs [] st = _
    unfold compGo
    rw [if_pos hg]
    rfl
  | x :: xs, H => by
    show compGo g t e gd vs (f x :: xs.map f) st = _
    unfold compGo
    rw [if_pos hg]
    obtain ⟨vs1, e1, e2, e3⟩ := H x List.mem_cons_self
    have ih := compGo_fmap hg fun y hy => H y (List.mem_cons_of_mem _ hy)
    rw [e1]
    simp only [e2, okk_ok]
    cases hp : p x with
    | true => simp only [e3 hp, okk_ok, ih, List.filter_cons, hp, if_true, List.map_cons]
    | false => simp only [ih, List.filter_cons, hp, Bool.false_eq_true, if_false]
end Dn
namespace Dn
open PySem PySem.Spec PyProof.Rows L2
/-! ### sorted(xs), min(xs) of like data -/
def isTupC : PyData → Bool
  | .tuple (_ :: _) => true
  | _ => false
def notTN : PyData → Bool
  | .tuple _ => false
  | .none => false
  | _ => true
def likes (ds : List D) : Bool := (ds.map pd).all fun x => (ds.map pd).all fun y => PySem.W.alike x y
def srtOk (ds : List D) : Bool := ds.all (okd 40) && (likes ds && ((ds.map pd).all isTupC || (ds.map pd).all notTN))
def leDt (x y : D) : Bool := PySem.W.dataLe false pd x y
def sortedD (b : Bool) : List D → Store → Re D := one fun x st => opt (lstOf st x) fun ds => if srtOk ds = true then mkNew b (ds.mergeSort leDt) st else .bad
def ltDt (x y : D) : Bool := PySem.W.dataLt (pd x) (pd y)
def minDt (x : D) (xs : List D) : D := xs.foldl (fun a y => if ltDt y a then y else a) x
def notNon : D → Bool
  | .non => false
  | _ => true
def minB (xs : List D) (st : Store) : Re D := match xs with
  | [x] => match (lstOf st x).bind intsOf with
    | some _ => min1 x st
    | none => match lstOf st x with
      | some (d :: ds) => if ((d :: ds).all (okd 40) && (likes (d :: ds) && (d :: ds).all notNon)) = true then .ok (minDt d ds) st else .bad
      | _ => .bad
  | _ => minD xs st
theorem likes_all {ds : List D} (h : likes ds = true) : PySem.W.AllAlike (ds.map pd) := fun d hd d' hd' => by
  unfold likes at h
  rw [List.all_eq_true] at h
  exact List.all_eq_true.mp (h d hd) d' hd'
theorem sortable_of {ds : List D} (h : ((ds.map pd).all isTupC || (ds.map pd).all notTN) = true) : PySem.W.Sortable (ds.map pd) := by
  rw [Bool.or_eq_true] at h
  rcases h with h | h
  · refine .inl fun d hd => ?_
    have := List.all_eq_true.mp h d hd
    cases d with
    | tuple xs =>
      cases xs with
      | nil => cases this
      | cons x r => exact ⟨x, r, rfl⟩
    | _ => cases this
  · refine .inr fun d hd => ?_
    have := List.all_eq_true.mp h d hd
    refine ⟨fun e => ?_, fun xs e => ?_⟩
    · subst e; cases this
    · subst e; cases this
def rSortA (K : PySem.W.Frag) : List V → Hp → VK → Prop := fun vs H Q => ∃ (a : Addr) (ps : List (V × D)), vs = [V.ref a] ∧ SqL K H a (ps.map Prod.fst) ∧ DpAll K H (ps.map Prod.fst) ((ps.map Prod.snd).map pd) ∧ srtOk (ps.map Prod.snd) = true ∧
  ∀ p, H p = none → Q (.ref p) (upd H p (.lst ((ps.mergeSort (PySem.W.dataLe false fun p => pd p.2)).map Prod.fst)))
theorem each_vals : ∀ {ps : List (V × D)} {its : List Value}, Vals (ps.map Prod.fst) its → PySem.W.EachIs (fun v (p : V × D) => RelV p.1 v) its ps
  | [], _, r => by
    cases r
    exact .nil
  | p :: ps, _, r => by
    cases r with
    | cons r1 r2 => exact .cons r1 (each_vals r2)
theorem vals_each : ∀ {ps : List (V × D)} {its : List Value}, PySem.W.EachIs (fun v (p : V × D) => RelV p.1 v) its ps → Vals (ps.map Prod.fst) its
  | [], _, r => by
    cases r
    exact .nil
  | p :: ps, _, r => by
    cases r with
    | cons r1 r2 => exact .cons r1 (vals_each r2)
theorem cr_sortA {X : Cx} (hu : X.A.units + 65 < cLine) : CallR X (.builtin "sorted") (rSortA X.K) := by
  intro pins s σ H vs us Q I r h
  obtain ⟨a, ps, rfl, hs, hd, ho, q⟩ := h
  obtain ⟨its, rv, hl, hz⟩ := I.list hs
  rw [Vals.ref1 r]
  have e := each_vals rv
  obtain ⟨as, hra⟩ := Dp.readsAll I _ _ its hd rv
  rw [List.map_map] at hra
  have er : PySem.W.EachIs (fun v (p : V × D) => ∃ as, Reads s.heap v (pd p.2) as) its ps := PySem.W.readsAll_each (fun p : V × D => pd p.2) hra
  unfold srtOk at ho
  rw [Bool.and_eq_true, Bool.and_eq_true] at ho
  obtain ⟨h1, h2, h3⟩ := ho
  have e2 : ps.map (fun p : V × D => pd p.2) = (ps.map Prod.snd).map pd := by rw [List.map_map]; rfl
  have hal : PySem.W.AllAlike (ps.map fun p : V × D => pd p.2) := by rw [e2]; exact likes_all h2
  have hk : PySem.W.Sortable (ps.map fun p : V × D => pd p.2) := by rw [e2]; exact sortable_of h3
  rw [List.length_map] at hz
  refine PySem.W.sorted_data hl.isList e er hal hk hz (fun p hp => ?_) fun out hol eo => ?_
  · have := (okd_shape 40 p.2 (List.all_eq_true.mp h1 p.2 (List.mem_map_of_mem hp))).2
    omega
  · obtain ⟨ep, he'⟩ := PyProof.Rows.sortedAll_at s.heap its out.toArray
    have hlen : ((ps.mergeSort (PySem.W.dataLe false fun p : V × D => pd p.2)).map Prod.fst).length ≤ sizeLine := by
      rw [List.length_map, (List.mergeSort_perm _ _).length_eq]
      exact hz
    exact ⟨.ref _, upd H (s.heap.objs.size + 1) (.lst ((ps.mergeSort (PySem.W.dataLe false fun p : V × D => pd p.2)).map Prod.fst)), I.laid (t' := s.toks) (fun _ _ => PyProof.Rows.sortedAll_old) (Nat.le_succ _) ⟨hlen, out, ep, vals_each eo, he'⟩, rfl, q _ (I.hok.fresh (Nat.le_succ _))⟩
section
variable {K : PySem.W.Frag} {mg : Str → Option Value} {μ : List Addr} {G H : Hp}
theorem reps_zip : ∀ {ds : List D} {vs : List V}, Reps K μ G ds vs → ∃ ps : List (V × D), ps.map Prod.fst = vs ∧ ps.map Prod.snd = ds ∧ ∀ p ∈ ps, Rep K μ G p.2 p.1
  | [], vs, h => by
    rw [reps_nil h]
    exact ⟨[], rfl, rfl, fun _ h => by cases h⟩
  | d :: ds, vs, h => by
    obtain ⟨v, r, rfl, hv, t⟩ := reps_cons h
    obtain ⟨ps, h1, h2, h3⟩ := reps_zip t
    refine ⟨(v, d) :: ps, by rw [List.map_cons, h1], by rw [List.map_cons, h2], fun p hp => ?_⟩
    rcases List.mem_cons.mp hp with rfl | hp
    · exact hv
    · exact h3 p hp
theorem zip_reps : ∀ {ps : List (V × D)}, (∀ p ∈ ps, Rep K μ G p.2 p.1) → Reps K μ G (ps.map Prod.snd) (ps.map Prod.fst)
  | [], _ => .nil
  | p :: ps, h => .cons (h p List.mem_cons_self) (zip_reps fun q hq => h q (List.mem_cons_of_mem _ hq))
theorem zip_dp (e : Ex G H) {n : Nat} : ∀ {ps : List (V × D)}, (∀ p ∈ ps, Rep K μ G p.2 p.1) → (ps.map Prod.snd).all (okd n) = true → DpAll K H (ps.map Prod.fst) ((ps.map Prod.snd).map pd)
  | [], _, _ => .nil
  | p :: ps, h, o => by
    rw [List.map_cons, List.all_cons, Bool.and_eq_true] at o
    exact .cons (rep_dp e n p.2 p.1 o.1 (h p List.mem_cons_self)) (zip_dp e (fun q hq => h q (List.mem_cons_of_mem _ hq)) o.2)
theorem sort_snd {ps : List (V × D)} : (ps.mergeSort (PySem.W.dataLe false fun p => pd p.2)).map Prod.snd = (ps.map Prod.snd).mergeSort leDt := by
  refine List.map_mergeSort fun a _ b _ => ?_
  rfl
theorem s_sorted (b : Bool) : SN K mg (sortedD b) (rSortA K) := sn_one fun W σ μ G F st H x v Q k rv h => by
  obtain ⟨ds, e, h⟩ := opt_done h
  obtain ⟨ho, h⟩ := ite_done h
  obtain ⟨a, ws, rfl, hs, rw'⟩ := lstOf_rep k rv e
  obtain ⟨ps, rfl, rfl, hp⟩ := reps_zip rw'
  have ho2 := ho
  unfold srtOk at ho2
  rw [Bool.and_eq_true] at ho2
  refine ⟨a, ps, rfl, .of hs, zip_dp k.ex hp ho2.1, ho, ?_⟩
  refine new_list k (ds := (ps.map Prod.snd).mergeSort leDt) ?_ h
  rw [← sort_snd]
  exact zip_reps fun p h' => hp p ((List.mergeSort_perm _ _).mem_iff.mp h')
end
/-! ### min -/
def foldP (p : V × D) (ps : List (V × D)) : V × D := ps.foldl (fun a y => if ltDt y.2 a.2 then y else a) p
theorem foldP_snd : ∀ (p : V × D) (ps : List (V × D)), (foldP p ps).2 = minDt p.2 (ps.map Prod.snd)
  | _, [] => rfl
  | p, q :: ps => by
    show (foldP (if ltDt q.2 p.2 then q else p) ps).2 = minDt (if ltDt q.2 p.2 then q.2 else p.2) (ps.map Prod.snd)
    rw [foldP_snd]
    by_cases h : ltDt q.2 p.2 = true
    · rw [if_pos h, if_pos h]
    · rw [if_neg h, if_neg h]
theorem foldP_mem : ∀ (p : V × D) (ps : List (V × D)), foldP p ps ∈ p :: ps
  | _, [] => List.mem_cons_self
  | p, q :: ps => by
    have h := foldP_mem (if ltDt q.2 p.2 then q else p) ps
    show foldP (if ltDt q.2 p.2 then q else p) ps ∈ _
    rcases List.mem_cons.mp h with h | h
    · rw [h]
      by_cases h2 : ltDt q.2 p.2 = true
      · rw [if_pos h2]; exact List.mem_cons_of_mem _ List.mem_cons_self
      · rw [if_neg h2]; exact List.mem_cons_self
    · exact List.mem_cons_of_mem _ (List.mem_cons_of_mem _ h)
def rMinD (K : PySem.W.Frag) : List V → Hp → VK → Prop := fun vs H Q => ∃ (a : Addr) (p : V × D) (ps : List (V × D)), vs = [V.ref a] ∧ SqL K H a ((p :: ps).map Prod.fst) ∧ DpAll K H ((p :: ps).map Prod.fst) (((p :: ps).map Prod.snd).map pd) ∧
  (((p :: ps).map Prod.snd).all (okd 40) && (likes ((p :: ps).map Prod.snd) && ((p :: ps).map Prod.snd).all notNon)) = true ∧ Q (foldP p ps).1 H
theorem getD_pd (l : List (V × D)) (i : Nat) : ((l.map Prod.snd).map pd).getD i .none = pd (l.getD i (V.non, D.non)).2 := by
  rw [List.getD_eq_getElem?_getD, List.getD_eq_getElem?_getD, List.getElem?_map, List.getElem?_map]
  cases l[i]? <;> rfl
theorem cr_minD {X : Cx} (hc : X.calm = true) (hu : X.A.units + 65 < cLine) : CallR X (.builtin "min") (rMinD X.K) := by
  intro pins s σ H vs us Q I r h
  obtain ⟨a, p, ps, rfl, hs, hd, ho, q⟩ := h
  obtain ⟨its, rv, hl, hz⟩ := I.list hs
  rw [Vals.ref1 r]
  obtain ⟨as, hra⟩ := Dp.readsAll I _ _ its hd rv
  rw [Bool.and_eq_true, Bool.and_eq_true] at ho
  obtain ⟨h1, h2, h3⟩ := ho
  have hln : its.toArray.size = ps.length + 1 := by
    have := rv.length
    rw [List.length_map, List.length_cons] at this
    simp only [List.size_toArray]
    exact this.symm
  have hal : PySem.W.AlikeAll (((p :: ps).map Prod.snd).map pd) := ⟨fun x hx y hy => likes_all h2 x hx y hy, fun x hx e => by
    obtain ⟨d, hd, rfl⟩ := List.mem_map.mp hx
    have := List.all_eq_true.mp h3 d hd
    have h4 := List.all_eq_true.mp h1 d hd
    cases d with
    | non => cases this
    | frz _ => simp [okd] at h4
    | loc _ => simp [okd] at h4
    | exn _ _ _ => simp [okd] at h4
    | _ => simp [pd] at e⟩
  have hdep : PyData.depthAll (((p :: ps).map Prod.snd).map pd) ≤ 40 := by
    have all : ∀ ds : List D, ds.all (okd 40) = true → PyData.depthAll (ds.map pd) ≤ 40 := fun ds => by
      induction ds with
      | nil => intro _; simp [PyData.depthAll]
      | cons d ds ih =>
        intro h
        rw [List.all_cons, Bool.and_eq_true] at h
        have := (okd_shape 40 d h.1).2
        have := ih h.2
        rw [List.map_cons, PyData.depthAll]
        omega
    exact all _ h1
  have hcm := PySem.W.cmpIn_lt (prog := X.prog) (w := X.w) (A := X.A.in1) (s := s) (vs := its.toArray) hra hal (by show X.A.units + 1 + _ < _; omega)
  have e0 : (fun i j => PySem.W.dataLt ((((p :: ps).map Prod.snd).map pd).getD i .none) ((((p :: ps).map Prod.snd).map pd).getD j .none)) = fun i j => (fun x y : V × D => ltDt x.2 y.2) ((p :: ps).getD i (V.non, D.non)) ((p :: ps).getD j (V.non, D.non)) := by
    funext i j
    rw [getD_pd, getD_pd]
    rfl
  rw [e0] at hcm
  refine call_min_walkH (PySem.W.iter_listW (A := X.A.in1) (I.ok.hd hc) hl.isList fun s₂ e W st hfp hw hk => ?_)
  refine ⟨_, _, _, _, _, _, _, s.heap, _, rfl, W, st, hfp, by omega, hw, hk, hcm, fun v s' hP m => ?_⟩
  obtain ⟨h', tk, rfl, hk'⟩ := PySem.W.moved_old e rfl m
  obtain ⟨f1, f2⟩ := PySem.W.argBest_fold (fun x y : V × D => ltDt x.2 y.2) (V.non, D.non) p ps ps.length (Nat.le_refl _)
  rw [List.take_length] at f2
  have e1 : its.toArray.size - 1 = ps.length := by omega
  rw [e1] at hP
  have hi : argBest (fun i j => (fun x y : V × D => ltDt x.2 y.2) ((p :: ps).getD i (V.non, D.non)) ((p :: ps).getD j (V.non, D.non))) ps.length < (p :: ps).length := by
    rw [List.length_cons]
    exact Nat.lt_succ_of_le f1
  have hg : (p :: ps)[argBest (fun i j => (fun x y : V × D => ltDt x.2 y.2) ((p :: ps).getD i (V.non, D.non)) ((p :: ps).getD j (V.non, D.non))) ps.length]? = some (foldP p ps) := by
    rw [List.getD_eq_getElem?_getD, List.getElem?_eq_getElem hi] at f2
    rw [List.getElem?_eq_getElem hi]
    exact congrArg some f2
  obtain ⟨u, hu1, hu2⟩ := Vals.get rv (i := argBest (fun i j => (fun x y : V × D => ltDt x.2 y.2) ((p :: ps).getD i (V.non, D.non)) ((p :: ps).getD j (V.non, D.non))) ps.length) (x := (foldP p ps).1) (by rw [List.getElem?_map, hg]; rfl)
  have hP' : its[argBest (fun i j => (fun x y : V × D => ltDt x.2 y.2) ((p :: ps).getD i (V.non, D.non)) ((p :: ps).getD j (V.non, D.non))) ps.length]? = some v := by
    rw [← List.getElem?_toArray]
    exact hP
  rw [hP'] at hu1
  injection hu1 with hu1
  subst hu1
  exact ⟨_, H, I.kept hk', hu2, q⟩
abbrev rMinB (K : PySem.W.Frag) : List V → Hp → VK → Prop := fun xs H Q => rMinA K xs H Q ∨ rMinD K xs H Q
theorem or_minB {X : Cx} (hc : X.calm = true) (hu : X.A.units + 65 < cLine) : CallR X (.builtin "min") (rMinB X.K) := (or_min hc).or (cr_minD hc hu)
theorem s_minB {K : PySem.W.Frag} {mg : Str → Option Value} : SN K mg minB (rMinB K) := fun W σ μ G F st H xs vs Q k rv h => by
  match xs, rv, h with
  | [x], rv, h =>
    cases e1 : (lstOf st x).bind intsOf with
    | some ns =>
      have e : minB [x] st = minD [x] st := by
        unfold minB minD
        simp only [e1]
      rw [e] at h
      exact .inl (s_min W σ μ G F st H [x] vs Q k rv h)
    | none =>
      cases e2 : lstOf st x with
      | none =>
        have e : minB [x] st = .bad := by
          unfold minB
          dsimp only
          rw [e1]
          dsimp only
          rw [e2]
        rw [e] at h
        exact h.elim
      | some ds =>
        cases ds with
        | nil =>
          have e : minB [x] st = .bad := by
            unfold minB
            dsimp only
            rw [e1]
            dsimp only
            rw [e2]
          rw [e] at h
          exact h.elim
        | cons d ds =>
          have e : minB [x] st = if ((d :: ds).all (okd 40) && (likes (d :: ds) && (d :: ds).all notNon)) = true then .ok (minDt d ds) st else .bad := by
            unfold minB
            dsimp only
            rw [e1]
            dsimp only
            rw [e2]
          rw [e] at h
          obtain ⟨ho, h⟩ := ite_done h
          obtain ⟨v, r, rfl, hv, t⟩ := reps_cons rv
          rw [reps_nil t]
          obtain ⟨a, ws, rfl, hs, rw'⟩ := lstOf_rep k hv e2
          obtain ⟨ps, e3, e4, hp⟩ := reps_zip rw'
          cases ps with
          | nil => cases e4
          | cons p ps =>
            rw [← e4] at ho
            have ho2 := ho
            rw [Bool.and_eq_true] at ho2
            injection e4 with e5 e6
            subst e5 e6
            refine .inr ⟨a, p, ps, rfl, by rw [e3]; exact .of hs, zip_dp k.ex hp ho2.1, ho, ?_⟩
            refine fin_here k h ?_
            rw [← foldP_snd]
            exact hp _ (foldP_mem p ps)
  | [], rv, h => exact .inl (s_min W σ μ G F st H [] vs Q k rv h)
  | x :: y :: r, rv, h => exact .inl (s_min W σ μ G F st H (x :: y :: r) vs Q k rv h)
end Dn
namespace Dn
open PySem PySem.Spec PyProof.Rows L2
/-! ### more values -/
section
variable {st : Store} {b p q : Bool} {i j : Int} {z y : Str} {ds es : List D} {x : D} {n : Nat}
@[simp] theorem is_bl : isD (.bl p) (.bl q) st = .ok (.bl (decide (p = q))) st := rfl
@[simp] theorem is_bl_non : isD (.bl p) .non st = .ok (.bl false) st := rfl
@[simp] theorem is_non_non : isD .non .non st = .ok (.bl true) st := rfl
@[simp] theorem is_int_non : isD (.int i) .non st = .ok (.bl false) st := rfl
@[simp] theorem is_str_non : isD (.str z) .non st = .ok (.bl false) st := rfl
@[simp] theorem is_tup_non : isD (.tup ds) .non st = .ok (.bl false) st := rfl
@[simp] theorem isnot_bl_non : isnotD (.bl p) .non st = .ok (.bl true) st := rfl
@[simp] theorem isnot_non_non : isnotD .non .non st = .ok (.bl false) st := rfl
@[simp] theorem isnot_int_non : isnotD (.int i) .non st = .ok (.bl true) st := rfl
@[simp] theorem isnot_str_non : isnotD (.str z) .non st = .ok (.bl true) st := rfl
@[simp] theorem isnot_tup_non : isnotD (.tup ds) .non st = .ok (.bl true) st := rfl
@[simp] theorem ne_bl : neD (.bl p) (.bl q) st = .ok (.bl !(decide (p = q))) st := rfl
@[simp] theorem eq_non_non : eqD .non .non st = .ok (.bl true) st := rfl
@[simp] theorem eqv_bl : eqvD (.bl p) (.bl q) = decide (p = q) := by
  unfold eqvD
  cases p <;> cases q <;> simp [pd, PyData.eqv]
@[simp] theorem eqv_non_non : eqvD .non .non = true := by simp [eqvD, pd, PyData.eqv]
@[simp] theorem eqv_non_bl : eqvD .non (.bl p) = false := by simp [eqvD, pd, PyData.eqv]
@[simp] theorem eqv_bl_non : eqvD (.bl p) .non = false := by simp [eqvD, pd, PyData.eqv]
@[simp] theorem eqv_int_non : eqvD (.int i) .non = false := by simp [eqvD, pd, PyData.eqv]
@[simp] theorem eqv_non_int : eqvD .non (.int i) = false := by simp [eqvD, pd, PyData.eqv]
@[simp] theorem eqv_str_non : eqvD (.str z) .non = false := by simp [eqvD, pd, PyData.eqv]
@[simp] theorem eqv_non_str : eqvD .non (.str z) = false := by simp [eqvD, pd, PyData.eqv]
@[simp] theorem shl_int : shlD (.int i) (.int j) st = if 0 ≤ j ∧ j ≤ 1000000 ∧ i.natAbs < 2 ^ 64 then .ok (.int (i * 2 ^ j.toNat)) st else .bad := rfl
@[simp] theorem shr_int : shrD (.int i) (.int j) st = if 0 ≤ j then .ok (.int (i / 2 ^ j.toNat)) st else .bad := rfl
@[simp] theorem and_int : andD (.int i) (.int j) st = .ok (.int (Builtin.bitAnd i j)) st := rfl
@[simp] theorem and_one : Builtin.bitAnd i 1 = i % 2 := bitAnd_m1 i
@[simp] theorem cut_tail : cutD (x :: ds) (some 1) none = ds := by
  have := cut_from (ds := x :: ds) (k := 1) (by simp)
  simpa using this
theorem cut_from1 : cutD ds (some 1) none = ds.drop 1 := by
  cases ds with
  | nil => rfl
  | cons x ds => simp
@[simp] theorem sl_lst {lo hi : Option Int} : sliceD b (.lst ds) lo hi st = mkNew b (cutD ds lo hi) st := rfl
@[simp] theorem sum_eq : sumD [x] st = opt ((lstOf st x).bind intsOf) fun ns => .ok (.int ns.sum) st := rfl
@[simp] theorem all_eq : allD [x] st = opt ((lstOf st x).bind blsOf) fun bs => .ok (.bl (bs.all id)) st := rfl
@[simp] theorem any_eq : anyD [x] st = opt ((lstOf st x).bind blsOf) fun bs => .ok (.bl (bs.any id)) st := rfl
@[simp] theorem sorted_eq : sortedD b [x] st = opt (lstOf st x) fun ds => if srtOk ds = true then mkNew b (ds.mergeSort leDt) st else .bad := rfl
@[simp] theorem intsOf_nil : intsOf [] = some [] := rfl
@[simp] theorem intsOf_cons : intsOf (.int i :: ds) = (intsOf ds).map (i :: ·) := rfl
@[simp] theorem blsOf_nil : blsOf [] = some [] := rfl
@[simp] theorem blsOf_cons : blsOf (.bl p :: ds) = (blsOf ds).map (p :: ·) := rfl
end
@[simp] theorem intsOf_ints {α : Type} {f : α → Int} : ∀ {xs : List α}, intsOf (xs.map fun a => .int (f a)) = some (xs.map f)
  | [] => rfl
  | x :: xs => by
    show (intsOf (xs.map fun a => .int (f a))).map (f x :: ·) = _
    rw [intsOf_ints]
    rfl
@[simp] theorem blsOf_bls {α : Type} {f : α → Bool} : ∀ {xs : List α}, blsOf (xs.map fun a => .bl (f a)) = some (xs.map f)
  | [] => rfl
  | x :: xs => by
    show (blsOf (xs.map fun a => .bl (f a))).map (f x :: ·) = _
    rw [blsOf_bls]
    rfl
theorem intsOf_map' {ns : List Int} : intsOf (ns.map .int) = some ns := by
  have := intsOf_ints (f := id) (xs := ns)
  simpa using this
/-- numbers in a tuple or a list -/
theorem any_eqv_int {α : Type} {f : α → Int} {xs : List α} {i : Int} : (xs.map fun a => D.int (f a)).any (fun z => eqvD z (.int i)) = decide (∃ a ∈ xs, f a = i) := by
  rw [List.any_map]
  induction xs with
  | nil => simp
  | cons x xs ih => simp_all
theorem all_flat_int {α : Type} {f : α → Int} {xs : List α} : (xs.map fun a => D.int (f a)).all flatD = true := by
  rw [List.all_map]
  exact List.all_eq_true.mpr fun _ _ => rfl
theorem in_ints {α : Type} {f : α → Int} {xs : List α} {i : Int} {st : Store} {y : D} (h : seqOf st y = some (xs.map fun a => D.int (f a))) : inD (.int i) y st = .ok (.bl (decide (∃ a ∈ xs, f a = i))) st := by
  rw [in_flat rfl all_flat_int h, any_eqv_int]
theorem nin_ints {α : Type} {f : α → Int} {xs : List α} {i : Int} {st : Store} {y : D} (h : seqOf st y = some (xs.map fun a => D.int (f a))) : ninD (.int i) y st = .ok (.bl !(decide (∃ a ∈ xs, f a = i))) st := by
  rw [nin_flat rfl all_flat_int h, any_eqv_int]
theorem rng_map {lo : Int} {n : Nat} : rng lo n = (List.range n).map fun (i : Nat) => D.int (lo + i) := rfl
theorem rng0_map {n : Nat} : rng 0 n = (List.range n).map fun (i : Nat) => D.int (i : Nat) := by
  unfold rng
  refine List.map_congr_left fun i _ => ?_
  rw [Int.zero_add]
/-! ### the order of data -/
theorem le_trans {x y z : D} (h : leDt x y = true) (k : leDt y z = true) : leDt x z = true := (PySem.W.sortLe_total (listOrd itemOrd) false fun b : D => PySem.W.keyToks (pd b)).trans x y z h k
theorem le_total (x y : D) : leDt x y = true ∨ leDt y x = true := (PySem.W.sortLe_total (listOrd itemOrd) false fun b : D => PySem.W.keyToks (pd b)).total x y
theorem sort_pw {ds : List D} : (ds.mergeSort leDt).Pairwise fun x y => leDt x y = true := List.pairwise_mergeSort (le := leDt) (fun _ _ _ h k => le_trans h k) (fun x y => by rw [Bool.or_eq_true]; exact le_total x y) ds
theorem leDt_is (x y : D) : leDt x y = !ltDt y x := rfl
theorem lt_of_eqv {x y : PyData} (ha : PySem.W.alike x y = true) (h : PyData.eqv x y = true) : PySem.W.dataLt x y = false := by
  unfold PySem.W.dataLt
  rw [(PySem.W.toks_eqv x y ha).1 h]
  exact PyProof.Rows.lex_irrefl (O := itemOrd) _
theorem inA_loc {neg : Bool} {f : D → D → Store → Re D} {x : D} {n : Nat} {ds : List D} {st : Store} (h : lstAt st n = some ds) : inA neg f x (.loc n) st = f x (.loc n) st := by
  have e1 : dGet st (.loc n) x = none := by
    unfold dGet
    simp only [lstAt_cell h]
  unfold inA
  rw [e1]
end Dn
namespace Dn
open PySem PySem.Spec PyProof.Rows L2
section
variable {P : Program} {w : World} {B : Around} {Er : Value → Shared → Prop} {z : Shared}
/-- what a set is made as -/
abbrev fresh (w : World) : Obj := { cls := .type "set", dict := none, data := .set #[] 0 (.fresh 0 0 (!w.params.followText "set-order")) }
theorem made_set {x : Value} {Q : Value → Shared → Prop} {T : Shared → Prop}
    (hi : wpAny (model P w) B.in1.in1 (Builtin.«set.__init__» ⟨[.ref z.heap.objs.size, x], []⟩) (fun f z2 => f = .done (.ret .none) ∧ T z2) (fun _ _ => False) { z with heap := z.heap.push (fresh w) })
    (hq : ∀ z2, T z2 → Q (.ref z.heap.objs.size) z2) :
    wpAny (model P w) B (call (.type "set") [x]) Q Er z := by
  obtain ⟨c0, l0, m0⟩ := F.called_set.mro
  have mk := F.called_set.made
  have sb := F.called_set.sub
  refine wpAny_call (codeAny_of_tree ?_)
  show wpAny _ _ (callAny (.type "set") _) _ _ _
  refine wpAny_pure ⟨Code.quiet_builtin _ (by decide +kernel), codeAny_builtin F.entry_type_call ?_⟩
  rw [Around.under_plain (weight_type_call_type "set" [x] []) rfl]
  have p1 := F.called_set.notType
  have p2 := F.called_set.canCreate
  have p3 := F.typeCall_set_1 x
  repeat (any_goals (first | assumption | wp_step))
  refine codeAny_mono (code_set_led1 x (E := Er) (Q₁ := fun v z1 => v = .ref z.heap.objs.size ∧ z1 = { z with heap := z.heap.push (fresh w) }) ⟨rfl, rfl⟩) fun r z1 hr => ?_
  rcases r with er | fl
  · exact hr
  rcases fl with _ | _ | _ | v
  · exact hr.elim
  · exact hr.elim
  · exact hr.elim
  · skip
    obtain ⟨rfl, rfl⟩ := hr
    have at0 : (z.heap.push (fresh w)).get? z.heap.objs.size = some (fresh w) := Heap.get?_push_size _ rfl
    have ty0 : Shared.TypeIs { z with heap := z.heap.push (fresh w) } (.ref z.heap.objs.size) "set" := ⟨_, at0, rfl⟩
    have i1 := F.called_set.init.lookup
    have i2 := F.called_set.init.bind (.ref z.heap.objs.size)
    repeat (any_goals (first | assumption | wp_step))
    refine codeAny_mono (codeAny_call_builtin (R := wants (fun r z2 => r = .none ∧ T z2) Er) F.called_set.init.plain F.entry_set_init (check_set_init_1 ty0 ?_)) fun r2 z2 h2 => ?_
    · refine wpAny_mono hi (fun f z2 h => ?_) fun _ _ h => h.elim
      obtain ⟨rfl, h⟩ := h
      exact ⟨rfl, h⟩
    · rcases r2 with er | fl
      · exact h2
      · rcases fl with _ | _ | _ | v
        · exact h2.elim
        · exact h2.elim
        · exact h2.elim
        · obtain ⟨rfl, h⟩ := h2
          repeat (any_goals (first | assumption | wp_step))
          exact hq _ h
theorem set_lst {l : Addr} {xs : Array Value} (ns : List Int) {Q : Value → Shared → Prop} (nh : B.handled = none) (hl : z.heap.IsList l xs) (hx : IntsAre xs.toList ns) (hb : ns.length + 1 < scanBound)
    (hq : ∀ (g : Heap) (tk c : Nat), SetR w g z.heap.objs.size (fun j => decide (j ∈ ns)) c → c ≤ ns.length → (∀ b o, z.heap.get? b = some o → g.get? b = some o) → Q (.ref z.heap.objs.size) { z with heap := g, toks := tk }) :
    wpAny (model P w) B (call (.type "set") [.ref l]) Q Er z := by
  have hn : xs.size = ns.length := by
    have e := hx.length
    rwa [Array.length_toList] at e
  have hlz : l < z.heap.objs.size := by
    obtain ⟨o, ho, _⟩ := hl
    exact Heap.lt_size ho
  have l2 : (z.heap.push (fresh w)).IsList l xs := hl.push _
  refine made_set (T := fun z2 => ∃ g tk c, z2 = { z with heap := g, toks := tk } ∧ SetR w g z.heap.objs.size (fun j => decide (j ∈ ns)) c ∧ c ≤ ns.length ∧ ∀ b o, z.heap.get? b = some o → g.get? b = some o) ?_ fun z2 h => ?_
  · obtain ⟨⟨lc, ld, lx, ls⟩, ho, lcls, ln, ldat⟩ := hl
    simp only at lcls ldat
    subst lcls ldat
    have ho2 : (z.heap.push (fresh w)).get? l = some ⟨.type "list", ld, .seq xs ln, ls⟩ := Heap.get?_push_of_some _ ho
    have k1 := F.sub_list_set
    have k2 := F.sub_list_frozenset
    have k3 : (Value.type "list" == Value.type "dict") = false := by decide
    unfold Builtin.«set.__init__» noKeywords Builtin.Frozenset.updateFrom
    generalize hPI : pyIter = PI
    wp_walk
    subst hPI
    refine wpAny_pyIter_list l2 (wpAny_bind (wpAny_runValue ?_))
    have zs : (z.heap.push (fresh w)).objs.size = z.heap.objs.size + 1 := Heap.size_push ..
    have nh3 : B.in1.in1.in1.handled = none := by simp [nh]
    have li : l ≠ (z.heap.push (fresh w)).objs.size := by
      rw [zs]
      exact Nat.ne_of_lt (Nat.lt_succ_of_lt hlz)
    have off : z.heap.objs.size ∉ [(z.heap.push (fresh w)).objs.size, l] := by
      rw [zs]
      simp only [List.mem_cons, List.not_mem_nil, or_false, not_or]
      exact ⟨Nat.ne_of_lt (Nat.lt_succ_self _), Nat.ne_of_gt hlz⟩
    have items : ∀ (i : Nat) (v : Value), xs[i]? = some v → ∃ k t, ns[i]? = some k ∧ v = .int k t := fun i v hv => by
      have hi : i < ns.length := hn ▸ (Array.getElem?_eq_some_iff.mp hv).1
      obtain ⟨t, e⟩ := IntsAre.int_at hx i v (by rw [Array.getElem?_toList]; exact hv)
      exact ⟨ns[i], t, List.getElem?_eq_getElem hi, by rw [e, List.getD_eq_getElem?_getD, List.getElem?_eq_getElem hi]; rfl⟩
    refine set_update_ints (Walks.list nh3 _ l li xs).toS _ off ns hn hb items (xs.size - 0) 0 _ (by omega) (Nat.zero_le _) ⟨⟨_, Heap.get?_push_size _ rfl, rfl, rfl⟩, l2.push _⟩
      ⟨0, Nat.le_refl 0, setR_new_at (Heap.get?_push_of_some _ (Heap.get?_push_size _ rfl))⟩ fun z3 c mv hc sr => ?_
    obtain ⟨g, g2, g3, tk, g5⟩ := z3
    obtain rfl : g2 = z.gens := mv.gens
    obtain rfl : g3 = z.drawn := mv.drawn
    obtain rfl : g5 = z.os := mv.os
    refine wpAny_pure ?_
    show wpAny _ _ (ret Value.none) _ _ _
    rw [hn] at hc
    refine wpAny_pure ⟨rfl, g, tk, c, rfl, sr, hc, fun b o e => ?_⟩
    have hb0 : b < z.heap.objs.size := Heap.lt_size e
    refine mv.heap b o ?_ (Heap.get?_push_of_some _ (Heap.get?_push_of_some _ e))
    simp only [List.mem_cons, List.not_mem_nil, or_false, not_or]
    exact ⟨Nat.ne_of_lt hb0, by rw [zs]; exact Nat.ne_of_lt (Nat.lt_succ_of_lt hb0)⟩
  · obtain ⟨g, tk, c, rfl, h1, h2, h3⟩ := h
    exact hq g tk c h1 h2 h3
theorem set_tpl {l : Addr} {xs : Array Value} (ks : List (Addr × List Int)) {Q : Value → Shared → Prop} (nh : B.handled = none) (hl : z.heap.IsTuple l xs) (hx : xs.toList = ks.map fun p => Value.ref p.1)
    (hk : ∀ p ∈ ks, IsT P w z.heap p.2 p.1) (hf : ks.length < 64) (hu : B.units + 3 < cLine)
    (hq : ∀ (g : Heap) (tk : Nat) L es ep t, SetTR P w g z.heap.objs.size L es ep t → Got ks ks.length L → (∀ b o, z.heap.get? b = some o → g.get? b = some o) → Q (.ref z.heap.objs.size) { z with heap := g, toks := tk }) :
    wpAny (model P w) B (call (.type "set") [.ref l]) Q Er z := by
  have hn : xs.size = ks.length := by
    have e := congrArg List.length hx
    rwa [Array.length_toList, List.length_map] at e
  have hlz : l < z.heap.objs.size := by
    obtain ⟨o, ho, _⟩ := hl
    exact Heap.lt_size ho
  have l2 : (z.heap.push (fresh w)).IsTuple l xs := hl.push _
  refine made_set (T := fun z2 => ∃ g tk L es ep t, z2 = { z with heap := g, toks := tk } ∧ SetTR P w g z.heap.objs.size L es ep t ∧ Got ks ks.length L ∧ ∀ b o, z.heap.get? b = some o → g.get? b = some o) ?_ fun z2 h => ?_
  · obtain ⟨⟨lc, ld, lx, ls⟩, ho, lcls, ln, ldat⟩ := hl
    simp only at lcls ldat
    subst lcls ldat
    have ho2 : (z.heap.push (fresh w)).get? l = some ⟨.type "tuple", ld, .seq xs ln, ls⟩ := Heap.get?_push_of_some _ ho
    have k1 := F.sub_tuple_set
    have k2 := F.sub_tuple_frozenset
    have k3 : (Value.type "tuple" == Value.type "dict") = false := by decide
    unfold Builtin.«set.__init__» noKeywords Builtin.Frozenset.updateFrom
    generalize hPI : pyIter = PI
    wp_walk
    subst hPI
    refine wpAny_pyIter_tuple l2 (wpAny_bind (wpAny_runValue ?_))
    have zs : (z.heap.push (fresh w)).objs.size = z.heap.objs.size + 1 := Heap.size_push ..
    have nh3 : B.in1.in1.in1.handled = none := by simp [nh]
    have li : l ≠ (z.heap.push (fresh w)).objs.size := by
      rw [zs]
      exact Nat.ne_of_lt (Nat.lt_succ_of_lt hlz)
    have off : z.heap.objs.size ∉ [(z.heap.push (fresh w)).objs.size, l] := by
      rw [zs]
      simp only [List.mem_cons, List.not_mem_nil, or_false, not_or]
      exact ⟨Nat.ne_of_lt (Nat.lt_succ_self _), Nat.ne_of_gt hlz⟩
    have items : ∀ (i : Nat) (v : Value), xs[i]? = some v → ∃ p, ks[i]? = some p ∧ v = .ref p.1 := fun i v hv => by
      have e : xs.toList[i]? = some v := by rw [Array.getElem?_toList]; exact hv
      rw [hx, List.getElem?_map] at e
      cases h : ks[i]? with
      | none => rw [h] at e; cases e
      | some p => rw [h] at e; exact ⟨p, rfl, (Option.some.inj e).symm⟩
    have away : ∀ b, z.heap.objs.size ≤ b → z.heap.get? b = none := fun b h => by
      cases e : z.heap.get? b with
      | none => rfl
      | some o => exact absurd (Nat.lt_of_lt_of_le (Heap.lt_size e) h) (Nat.lt_irrefl _)
    refine set_update_tups (Walks.tuple nh3 _ l li xs).toS _ off ks hn hf items z.heap hk (away _ (Nat.le_refl _)) (fun b hb => away b (by
        rw [List.mem_singleton.mp hb, zs]
        exact Nat.le_succ _)) hu (xs.size - 0) 0 _ (by omega) (Nat.zero_le _) ⟨⟨_, Heap.get?_push_size _ rfl, rfl, rfl⟩, l2.push _⟩ (fun b o e => Heap.get?_push_of_some _ (Heap.get?_push_of_some _ e))
      ⟨[], #[], 0, _, setTR_fresh (Heap.get?_push_of_some _ (Heap.get?_push_size _ rfl)), Got.zero ks⟩ fun z3 L es ep t mv sr gt kp => ?_
    obtain ⟨g, g2, g3, tk, g5⟩ := z3
    obtain rfl : g2 = z.gens := mv.gens
    obtain rfl : g3 = z.drawn := mv.drawn
    obtain rfl : g5 = z.os := mv.os
    refine wpAny_pure ?_
    show wpAny _ _ (ret Value.none) _ _ _
    rw [hn] at gt
    exact wpAny_pure ⟨rfl, g, tk, L, es, ep, t, rfl, sr, gt, kp⟩
  · obtain ⟨g, tk, L, es, ep, t, rfl, h1, h2, h3⟩ := h
    exact hq g tk L es ep t h1 h2 h3
end
/-! ### sorted(set(xs)) on data -/
def dd {α : Type} [DecidableEq α] : List α → List α
  | [] => []
  | x :: r => if x ∈ r then dd r else x :: dd r
theorem mem_dd {α : Type} [DecidableEq α] {a : α} : ∀ {l : List α}, a ∈ dd l ↔ a ∈ l
  | [] => Iff.rfl
  | x :: r => by
    unfold dd
    by_cases h : x ∈ r
    · rw [if_pos h, mem_dd (l := r), List.mem_cons]
      exact ⟨fun z => .inr z, fun z => z.elim (fun e => e ▸ h) id⟩
    · rw [if_neg h, List.mem_cons, mem_dd (l := r), List.mem_cons]
theorem nd_dd {α : Type} [DecidableEq α] : ∀ {l : List α}, (dd l).Nodup
  | [] => List.nodup_nil
  | x :: r => by
    unfold dd
    by_cases h : x ∈ r
    · rw [if_pos h]; exact nd_dd
    · rw [if_neg h]; exact List.nodup_cons.mpr ⟨fun z => h (mem_dd.mp z), nd_dd⟩
theorem dd_len {α : Type} [DecidableEq α] : ∀ {l : List α}, (dd l).length ≤ l.length
  | [] => Nat.le_refl _
  | x :: r => by
    unfold dd
    split
    · exact Nat.le_succ_of_le dd_len
    · exact Nat.succ_le_succ dd_len
/-- two rising rows with the same members -/
theorem rising_one {α : Type} {f : α → Int} : ∀ {l m : List α}, l.Pairwise (fun x y => f x < f y) → m.Pairwise (fun x y => f x < f y) → (∀ x, x ∈ l ↔ x ∈ m) → l = m
  | [], [], _, _, _ => rfl
  | [], y :: m, _, _, h => absurd ((h y).mpr List.mem_cons_self) (by simp)
  | x :: l, [], _, _, h => absurd ((h x).mp List.mem_cons_self) (by simp)
  | x :: l, y :: m, hl, hm, h => by
    obtain ⟨l1, l2⟩ := List.pairwise_cons.mp hl
    obtain ⟨m1, m2⟩ := List.pairwise_cons.mp hm
    have e : x = y := by
      rcases List.mem_cons.mp ((h x).mp List.mem_cons_self) with e | e
      · exact e
      · rcases List.mem_cons.mp ((h y).mpr List.mem_cons_self) with e2 | e2
        · exact e2.symm
        · have := m1 x e
          have := l1 y e2
          omega
    subst e
    refine congrArg (x :: ·) (rising_one l2 m2 fun z => ?_)
    constructor
    · intro hz
      rcases List.mem_cons.mp ((h z).mp (List.mem_cons_of_mem _ hz)) with e | e
      · subst e
        have := l1 z hz
        omega
      · exact e
    · intro hz
      rcases List.mem_cons.mp ((h z).mpr (List.mem_cons_of_mem _ hz)) with e | e
      · subst e
        have := m1 z hz
        omega
      · exact e
def tupD (k : List Int) : D := .tup (k.map .int)
def ints1 : D → Option (List Int)
  | .tup ds => intsOf ds
  | _ => none
def keysOf : List D → Option (List (List Int))
  | [] => some []
  | d :: r => (ints1 d).bind fun k => (keysOf r).map (k :: ·)
theorem keysOf_map : ∀ {ds : List D} {ks : List (List Int)}, keysOf ds = some ks → ds = ks.map tupD
  | [], ks, h => by injection h with h; subst h; rfl
  | d :: ds, ks, h => by
    have h' : (ints1 d).bind (fun k => (keysOf ds).map (k :: ·)) = some ks := h
    cases d with
    | tup xs =>
      cases e : intsOf xs with
      | none => simp [ints1, e] at h'
      | some k =>
        cases e2 : keysOf ds with
        | none => simp [ints1, e, e2] at h'
        | some r =>
          simp [ints1, e, e2] at h'
          subst h'
          rw [keysOf_map e2, intsOf_map e]
          rfl
    | _ => simp [ints1] at h'
theorem keysOf_tups : ∀ (ks : List (List Int)), keysOf (ks.map tupD) = some ks
  | [] => rfl
  | k :: ks => by
    show (intsOf (k.map .int)).bind (fun k => (keysOf (ks.map tupD)).map (k :: ·)) = _
    rw [intsOf_map', keysOf_tups ks]
    rfl
def big : Int := 1000000
def inc (f : α → Int) (l : List α) : List α := l.mergeSort fun a b => decide (f a ≤ f b)
theorem inc_perm {α : Type} (f : α → Int) (l : List α) : (inc f l).Perm l := List.mergeSort_perm _ _
theorem inc_pw {α : Type} (f : α → Int) (l : List α) : (inc f l).Pairwise fun a b => f a ≤ f b := by
  have := List.pairwise_mergeSort (le := fun a b : α => decide (f a ≤ f b)) (fun a b c h1 h2 => by simp at *; omega) (fun a b => by simp; omega) l
  exact this.imp fun h => of_decide_eq_true h
def ssI (ns : List Int) : List Int := inc id (dd ns)
def ssT (ks : List (List Int)) : List (List Int) := inc (TS.code big) (dd ks)
theorem mem_ssI {ns : List Int} {i : Int} : i ∈ ssI ns ↔ i ∈ ns := by
  unfold ssI
  rw [(inc_perm _ _).mem_iff, mem_dd]
theorem mem_ssT {ks : List (List Int)} {k : List Int} : k ∈ ssT ks ↔ k ∈ ks := by
  unfold ssT
  rw [(inc_perm _ _).mem_iff, mem_dd]
theorem ssI_up (ns : List Int) : (ssI ns).Pairwise (· < ·) := by
  have h1 := inc_pw id (dd ns)
  have h2 : (ssI ns).Nodup := (inc_perm id (dd ns)).nodup_iff.mpr nd_dd
  exact (List.Pairwise.and h1 h2).imp fun {a b} h => by
    have : a ≤ b := h.1
    have := h.2
    omega
theorem ssI_len (ns : List Int) : (ssI ns).length ≤ ns.length := by
  unfold ssI
  rw [(inc_perm _ _).length_eq]
  exact dd_len
theorem ssT_len (ks : List (List Int)) : (ssT ks).length ≤ ks.length := by
  unfold ssT
  rw [(inc_perm _ _).length_eq]
  exact dd_len
theorem ssT_nd (ks : List (List Int)) : (ssT ks).Nodup := (inc_perm _ _).nodup_iff.mpr nd_dd
def ssOk (ks : List (List Int)) : Bool := decide (ks.length < 64) && match ks with
  | [] => true
  | k :: _ => decide (1 ≤ k.length) && ks.all fun x => decide (x.length = k.length) && x.all fun i => decide (0 ≤ i) && decide (i < big)
theorem ssOk_is {ks : List (List Int)} (h : ssOk ks = true) : ks.length < 64 ∧ ∃ d, 1 ≤ d ∧ ∀ k ∈ ks, k.length = d ∧ TS.Bd big k := by
  unfold ssOk at h
  rw [Bool.and_eq_true] at h
  obtain ⟨h1, h2⟩ := h
  refine ⟨of_decide_eq_true h1, ?_⟩
  cases ks with
  | nil => exact ⟨1, Nat.le_refl _, fun k hk => by cases hk⟩
  | cons k r =>
    have h2 : (decide (1 ≤ k.length) && (k :: r).all fun x => decide (x.length = k.length) && x.all fun i => decide (0 ≤ i) && decide (i < big)) = true := h2
    rw [Bool.and_eq_true] at h2
    refine ⟨k.length, of_decide_eq_true h2.1, fun x hx => ?_⟩
    have h3 := List.all_eq_true.mp h2.2 x hx
    rw [Bool.and_eq_true] at h3
    refine ⟨of_decide_eq_true h3.1, fun m hm => ?_⟩
    have h4 := List.all_eq_true.mp h3.2 m hm
    rw [Bool.and_eq_true] at h4
    exact ⟨of_decide_eq_true h4.1, of_decide_eq_true h4.2⟩
theorem code_inj {B : Int} : ∀ {x y : List Int}, x.length = y.length → TS.Bd B x → TS.Bd B y → TS.code B x = TS.code B y → x = y
  | [], [], _, _, _, _ => rfl
  | a :: x, b :: y, hl, hx, hy, h => by
    have hl' : x.length = y.length := by simpa using hl
    rcases Int.lt_trichotomy a b with z | z | z
    · have := TS.code_lt hl' hx.tail hy.tail z
      omega
    · subst z
      have n1 := mt (TS.code_same (B := B) (d := a) hl').mpr (by omega)
      have n2 := mt (TS.code_same (B := B) (d := a) hl'.symm).mpr (by omega)
      rw [code_inj hl' hx.tail hy.tail (by omega)]
    · have := TS.code_lt hl'.symm hy.tail hx.tail z
      omega
theorem ss_uniq {ks L : List (List Int)} (h : ssOk ks = true) (hm : ∀ k, k ∈ L ↔ k ∈ ks) (hn : L.Nodup) (hp : L.Pairwise fun x y => TS.code big x ≤ TS.code big y) : L = ssT ks := by
  obtain ⟨_, d, _, hd⟩ := ssOk_is h
  have up : ∀ {M : List (List Int)}, (∀ k, k ∈ M ↔ k ∈ ks) → M.Nodup → M.Pairwise (fun x y => TS.code big x ≤ TS.code big y) → M.Pairwise fun x y => TS.code big x < TS.code big y := fun {M} mm nd pw => by
    have h3 := List.Pairwise.and pw nd
    refine h3.imp_of_mem fun {a b} ma mb h => ?_
    obtain ⟨a1, a2⟩ := hd a ((mm a).mp ma)
    obtain ⟨b1, b2⟩ := hd b ((mm b).mp mb)
    have : TS.code big a ≠ TS.code big b := fun e => h.2 (code_inj (by rw [a1, b1]) a2 b2 e)
    have := h.1
    omega
  exact rising_one (up hm hn hp) (up (fun k => mem_ssT) (ssT_nd ks) (inc_pw _ _)) fun x => by rw [hm, mem_ssT]
def ssD (b : Bool) : List D → Store → Re D := one fun x st => opt (seqOf st x) fun ds =>
  match intsOf ds with
  | some ns => if ns.length < 60 then mkNew b ((ssI ns).map .int) st else .bad
  | none => match keysOf ds with
    | some ks => if ssOk ks = true then mkNew b ((ssT ks).map tupD) st else .bad
    | none => .bad
end Dn
namespace Dn
open PySem PySem.Spec PyProof.Rows L2
/-- set(xs), ints in a list or a tuple -/
def rSetI (K : PySem.W.Frag) (w : World) : List V → Hp → VK → Prop := fun xs H Q => ∃ (l : Addr) (ns : List Int), xs = [V.ref l] ∧ (SqL K H l (ns.map V.int) ∨ SqT K H l (ns.map V.int)) ∧ ns.length < 60 ∧
  ∀ a n, H a = none → n ≤ ns.length → Q (.ref a) (upd H a (SetO w a (fun j => decide (j ∈ ns)) n))
/-- set(xs), a tuple of tuples of ints -/
def rSetTT (K : PySem.W.Frag) (P : Program) (w : World) : List V → Hp → VK → Prop := fun xs H Q => ∃ (l : Addr) (ks : List (Addr × List Int)), xs = [V.ref l] ∧ SqT K H l (ks.map fun p => V.ref p.1) ∧ (∀ p ∈ ks, SqT K H p.1 (p.2.map V.int)) ∧ ks.length < 64 ∧
  ∀ a L, H a = none → (∀ p ∈ L, p ∈ ks) → (∀ p ∈ ks, p.2 ∈ L.map (·.2)) → Q (.ref a) (upd H a (SetTO P w a L))
section
variable {X : Cx}
theorem cr_setI (hc : X.calm = true) : CallR X (.type "set") (rSetI X.K X.w) := by
  intro pins s σ H xs us Q I r h
  obtain ⟨l, ns, rfl, hs, hn, q⟩ := h
  rw [Vals.ref1 r]
  have nw : H s.heap.objs.size = none := I.hok.fresh (Nat.le_refl _)
  have sb : ns.length + 1 < scanBound := by unfold scanBound; omega
  rcases hs with hs | hs
  · obtain ⟨its, rv, pl, hz⟩ := I.list hs
    refine set_lst (w := X.w) ns (I.ok.hd hc) pl.isList (by simpa using rv.ints) sb fun g tk c R hcn kp => ?_
    exact ⟨.ref s.heap.objs.size, upd H s.heap.objs.size (SetO X.w s.heap.objs.size (fun j => decide (j ∈ ns)) c), I.laid (t' := tk) kp (Nat.le_refl _) (setO_new R), rfl, q _ c nw hcn⟩
  · obtain ⟨its, rv, pl, hz⟩ := I.tuple hs
    refine call_set_tupI (w := X.w) ns (I.ok.hd hc) pl (by simpa using rv.ints) sb fun g tk c R hcn kp => ?_
    exact ⟨.ref s.heap.objs.size, upd H s.heap.objs.size (SetO X.w s.heap.objs.size (fun j => decide (j ∈ ns)) c), I.laid (t' := tk) kp (Nat.le_refl _) (setO_new R), rfl, q _ c nw hcn⟩
theorem cr_setTT (hc : X.calm = true) (hu : X.A.units + 64 < cLine) : CallR X (.type "set") (rSetTT X.K X.prog X.w) := by
  intro pins s σ H xs us Q I r h
  obtain ⟨l, ks, rfl, hs, hk, hf, q⟩ := h
  rw [Vals.ref1 r]
  have nw : H s.heap.objs.size = none := I.hok.fresh (Nat.le_refl _)
  obtain ⟨its, rv, pl, hz⟩ := I.tuple hs
  refine set_tpl (P := X.prog) (w := X.w) ks (I.ok.hd hc) pl (by simpa using refs_of_vals rv) (fun p hp => I.isT (hk p hp)) hf (by omega) fun g tk L es ep t R gt kp => ?_
  refine ⟨.ref s.heap.objs.size, upd H s.heap.objs.size (SetTO X.prog X.w s.heap.objs.size L), I.laid (t' := tk) kp (Nat.le_refl _) (setTO_new R.t0), rfl, q _ L nw (fun p hp => ?_) fun p hp => ?_⟩
  · exact List.mem_of_mem_take (gt.sub p hp)
  · exact gt.all p (by rw [List.take_length]; exact hp)
abbrev rSetXs (K : PySem.W.Frag) (P : Program) (w : World) : List V → Hp → VK → Prop := fun xs H Q => rSetI K w xs H Q ∨ (rSetOfT K P w xs H Q ∨ rSetTT K P w xs H Q)
abbrev rSrtA (K : PySem.W.Frag) (P : Program) (w : World) : List V → Hp → VK → Prop := fun xs H Q => rSortedSet w xs H Q ∨ rSortedT K P w xs H Q
theorem cr_setA (hc : X.calm = true) (hu : X.A.units + 64 < cLine) : CallR X (.type "set") (rSetXs X.K X.prog X.w) := (cr_setI hc).or ((cr_setOfT hc hu).or (cr_setTT hc hu))
theorem cr_srtA (hc : X.calm = true) : CallR X (.builtin "sorted") (rSrtA X.K X.prog X.w) := (cr_sortedSet hc).or (cr_sortedT hc)
end
section
variable {K : PySem.W.Frag} {mg : Str → Option Value} {μ : List Addr} {G : Hp}
theorem reps_tups : ∀ {ks : List (List Int)} {vs : List V}, Reps K μ G (ks.map tupD) vs → ∃ ps : List (Addr × List Int), vs = ps.map (fun p => V.ref p.1) ∧ ps.map (·.2) = ks ∧ ∀ p ∈ ps, SqT K G p.1 (p.2.map V.int)
  | [], vs, h => ⟨[], reps_nil h, rfl, fun _ h => by cases h⟩
  | k :: ks, vs, h => by
    obtain ⟨v, r, rfl, hv, t⟩ := reps_cons h
    obtain ⟨a, ws, rfl, hs, hr⟩ := rep_tup hv
    rw [reps_ints hr] at hs
    obtain ⟨ps, rfl, e2, hp⟩ := reps_tups t
    refine ⟨(a, k) :: ps, rfl, by rw [List.map_cons, e2], fun p h => ?_⟩
    rcases List.mem_cons.mp h with rfl | h
    · exact hs
    · exact hp p h
theorem tups_reps : ∀ {ps : List (Addr × List Int)}, (∀ p ∈ ps, SqT K G p.1 (p.2.map V.int)) → Reps K μ G ((ps.map (·.2)).map tupD) (ps.map fun p => V.ref p.1)
  | [], _ => .nil
  | p :: ps, h => .cons (.tup (h p List.mem_cons_self) .ints) (tups_reps fun q hq => h q (List.mem_cons_of_mem _ hq))
theorem s_ss (b : Bool) (P : Program) (w : World) : ∀ (W : WX) (σ : L2.St) (μ : List Addr) (G F : Hp) (st : Store) (H : Hp) (xs : List D) (vs : List V) (Q : VK), Kn K mg μ G F st H → Reps K μ G xs vs →
    Done K mg W σ μ G F (ssD b xs st) (Fin K Q) → rSetXs K P w vs H fun u H1 => rSrtA K P w [u] H1 Q := by
  intro W σ μ G F st H xs vs Q k rv h
  cases xs with
  | nil => exact h.elim
  | cons x r =>
    cases r with
    | cons _ _ => exact h.elim
    | nil =>
      obtain ⟨v, t, rfl, hv, ht⟩ := reps_cons rv
      rw [reps_nil ht]
      have h : Done K mg W σ μ G F (opt (seqOf st x) fun ds => match intsOf ds with
        | some ns => if ns.length < 60 then mkNew b ((ssI ns).map .int) st else .bad
        | none => match keysOf ds with
          | some ks => if ssOk ks = true then mkNew b ((ssT ks).map tupD) st else .bad
          | none => .bad) (Fin K Q) := h
      obtain ⟨ds, e, h⟩ := opt_done h
      obtain ⟨a, ws, rfl, hs, rw'⟩ := seqOf_rep k hv e
      cases e1 : intsOf ds with
      | some ns =>
        rw [e1] at h
        have h : Done K mg W σ μ G F (if ns.length < 60 then mkNew b ((ssI ns).map .int) st else .bad) (Fin K Q) := h
        obtain ⟨hl, h5⟩ := ite_done h
        clear h
        have e2 := intsOf_map e1
        subst e2
        rw [reps_ints rw'] at hs
        refine .inl ⟨a, ns, rfl, hs, hl, fun a' n ha hn => .inl ⟨a', _, n, rfl, upd_same, by omega, fun ns' p pw mm _ hp => ?_⟩⟩
        have en : ns' = ssI ns := rising_one (f := id) pw (ssI_up ns) fun i => by rw [mm, mem_ssI]; simp
        subst en
        exact new_list (k.junk ha) .ints h5 p hp
      | none =>
        rw [e1] at h
        cases e2 : keysOf ds with
        | none => rw [e2] at h; exact h.elim
        | some ks =>
          rw [e2] at h
          have h : Done K mg W σ μ G F (if ssOk ks = true then mkNew b ((ssT ks).map tupD) st else .bad) (Fin K Q) := h
          obtain ⟨ho, h⟩ := ite_done h
          have e3 := keysOf_map e2
          subst e3
          obtain ⟨ps, rfl, rfl, hp⟩ := reps_tups rw'
          obtain ⟨hl, d, d1, hd⟩ := ssOk_is ho
          rw [List.length_map] at hl
          have fin : ∀ a' L, H a' = none → (∀ p ∈ L, p ∈ ps) → (∀ p ∈ ps, p.2 ∈ L.map (·.2)) → rSrtA K P w [.ref a'] (upd H a' (SetTO P w a' L)) Q := fun a' L ha m1 m2 => by
            refine .inr ⟨a', L, d, big, rfl, upd_same, fun p hp' => (Ex.new ha).sqt (k.ex.sqt (hp p (m1 p hp'))), d1, fun p hp' => hd p.2 (List.mem_map_of_mem (m1 p hp')), fun L' q pm nd _ pw hq => ?_⟩
            have m3 : ∀ p ∈ L', p ∈ ps := fun p hp' => m1 p (pm.mem_iff.mp hp')
            have en : L'.map (·.2) = ssT (ps.map (·.2)) := ss_uniq ho (fun x => by
              constructor
              · intro hx
                obtain ⟨p, hp', rfl⟩ := List.mem_map.mp hx
                exact List.mem_map_of_mem (m3 p hp')
              · intro hx
                obtain ⟨p, hp', rfl⟩ := List.mem_map.mp hx
                obtain ⟨q', hq', e⟩ := List.mem_map.mp (m2 p hp')
                exact List.mem_map.mpr ⟨q', pm.mem_iff.mpr hq', e⟩) nd (List.pairwise_map.mpr pw)
            rw [← en] at h
            exact new_list (k.junk ha) (tups_reps fun p hp' => hp p (m3 p hp')) h q hq
          rcases hs with hs | hs
          · exact .inr (.inl ⟨a, ps, rfl, hs, fun p hp' => k.ex.sqt (hp p hp'), hl, fin⟩)
          · exact .inr (.inr ⟨a, ps, rfl, hs, fun p hp' => k.ex.sqt (hp p hp'), hl, fin⟩)
end
section
variable {X : Cx} {W : WX} {e : Expr} {m : EM} {p p2 q pos : Pos}
theorem m_ss (b : Bool) (hc : X.calm = true) (hu : X.A.units + 64 < cLine) (hm1 : X.mg "sorted" = none) (hm2 : X.mg "set" = none) (ha : ME X W e m) (hg1 : Gl X "sorted" := by rfl) (hg2 : Gl X "set" := by rfl)
    (he : starEach [e] X.env = (false, eval e X.env) :: starEach [] X.env := by rfl) :
    ME X W (.Call (.Name "sorted" p) [.Call (.Name "set" p2) [e] [] q] [] pos) (eN (ssD b) (aCons m aNil)) := by
  have h1 := pe_callTy (p := p2) (pos := q) (cr_setA hc hu) hg2 hm2 (by decide +kernel) (pa_cons ha pa_nil he) (by decide) (by decide) he rfl
  have h2 := pe_callB (p := p) (pos := pos) (cr_srtA hc) hg1 hm1 (by decide +kernel) (pa_cons h1 pa_nil) (by decide) (by decide)
  refine h2.of fun σ H Q h => ?_
  obtain ⟨vs, st, μ, G, F, re, k, h⟩ := h
  show tE X.K X.mg W m σ H fun v H1 => rSetXs X.K X.prog X.w [v] H1 fun u H2 => rSrtA X.K X.prog X.w [u] H2 Q
  refine ⟨vs, st, μ, G, F, re, k, ?_⟩
  have h2 := Done.bind (Done.bind h)
  refine h2.mono fun μ1 G1 d st1 H1 f1 k1 h3 v rv => ?_
  have h4 := h3 μ1 G1 H1 (.refl _ _) k1
  exact s_ss b X.prog X.w W σ μ1 G1 F st1 H1 [d] [v] Q k1 (.cons rv .nil) h4
end
end Dn
namespace Dn
open PySem PySem.Spec PyProof.Rows L2
theorem ixA_lo {st : Store} {d : D} {ds : List D} {i : Int} (h : lstOf st d = some ds) : ixA d (.int i) st = match atI ds i with | some d => .ok d st | none => .bad := by
  cases d with
  | lst xs =>
    injection h with h
    subst h
    exact ixA_lst
  | loc n => exact ixA_loc h
  | _ => cases h
theorem lenB_lo {st : Store} {d : D} {ds : List D} (h : lstOf st d = some ds) : lenB st d = some ds.length := by
  cases d with
  | lst xs =>
    injection h with h
    subst h
    rfl
  | loc n =>
    have : lstAt st n = some ds := h
    rw [lenB_loc, lstAt_cell this]
  | _ => cases h
/-- a comprehension that draws and takes some of the elements -/
theorem compGo_drawS {g : TM} {tt e : EM} {gd : Store → Prop} {vs : Vars} {T : Store} {f : D → D} (hg : ∀ c, gd (c :: T)) : ∀ (ds : List D) (c : Option Ob), DrawOk c →
    (∀ d ∈ ds, ∀ c, DrawOk c → ∃ vs1, g d vs = some vs1 ∧ wp (tt vs1 (c :: T)) (DT T fun st => wp (e vs1 st) fun y st' => y = f d ∧ ∃ c', DrawOk c' ∧ st' = c' :: T)) →
    wp (compGo g tt e gd vs ds (c :: T)) fun ys st => (∃ l : List D, l.Sublist ds ∧ ys = l.map f) ∧ ∃ c2, DrawOk c2 ∧ st = c2 :: T
  | [], c, hc, _ => by
    unfold compGo
    rw [if_pos (hg _), wp_ok]
    exact ⟨⟨[], List.nil_sublist _, rfl⟩, c, hc, rfl⟩
  | d :: ds, c, hc, h => by
    unfold compGo
    rw [if_pos (hg _)]
    obtain ⟨vs1, e1, w⟩ := h d List.mem_cons_self c hc
    rw [e1]
    simp only [wp_okk]
    refine wp_mono w fun x st1 h1 => ?_
    obtain ⟨c1, hc1, rfl, b, rfl, hb⟩ := h1
    cases b with
    | true =>
      simp only [wp_okk]
      refine wp_mono (hb rfl) fun y st1 h1 => ?_
      obtain ⟨rfl, c2, hc2, rfl⟩ := h1
      rw [wp_okk]
      refine wp_mono (compGo_drawS hg ds c2 hc2 fun d' hd => h d' (List.mem_cons_of_mem _ hd)) fun ys st2 h2 => ?_
      obtain ⟨⟨l, h3, rfl⟩, h5⟩ := h2
      rw [wp_ok]
      exact ⟨⟨d :: l, h3.cons_cons d, rfl⟩, h5⟩
    | false =>
      refine wp_mono (compGo_drawS hg ds c1 hc1 fun d' hd => h d' (List.mem_cons_of_mem _ hd)) fun ys st2 h2 => ?_
      obtain ⟨⟨l, h3, rfl⟩, h5⟩ := h2
      exact ⟨⟨l, h3.cons d, rfl⟩, h5⟩
theorem sub_map {α : Type} {f : α → D} : ∀ {xs : List α} {l : List D}, l.Sublist (xs.map f) → ∃ ys : List α, ys.Sublist xs ∧ l = ys.map f
  | [], l, h => by
    have := List.sublist_nil.mp h
    subst this
    exact ⟨[], List.nil_sublist _, rfl⟩
  | x :: xs, l, h => by
    rw [List.map_cons] at h
    cases h with
    | cons _ h =>
      obtain ⟨ys, h1, rfl⟩ := sub_map h
      exact ⟨ys, h1.cons x, rfl⟩
    | cons_cons _ h =>
      obtain ⟨ys, h1, rfl⟩ := sub_map h
      exact ⟨x :: ys, h1.cons_cons x, rfl⟩
theorem sub_rng {n : Nat} {l : List D} (h : l.Sublist (rng 0 n)) : ∃ ns : List Nat, ns.Sublist (List.range n) ∧ l = ns.map fun i => .int ((i : Nat) : Int) := by
  rw [rng0_map] at h
  exact sub_map h
theorem mem_subr {n i : Nat} {l : List Nat} (h : l.Sublist (List.range n)) (hi : i ∈ l) : i < n := List.mem_range.mp (h.subset hi)
theorem list_ofG {α β : Type} {f : α → β} {p : α → Prop} : ∀ {ys : List β}, (∀ y ∈ ys, ∃ a, y = f a ∧ p a) → ∃ l : List α, ys = l.map f ∧ ∀ a ∈ l, p a
  | [], _ => ⟨[], rfl, fun _ h => by cases h⟩
  | y :: ys, h => by
    obtain ⟨a, rfl, ha⟩ := h y List.mem_cons_self
    obtain ⟨l, rfl, hl⟩ := list_ofG fun z hz => h z (List.mem_cons_of_mem _ hz)
    exact ⟨a :: l, rfl, fun b hb => by
      rcases List.mem_cons.mp hb with rfl | hb
      · exact ha
      · exact hl b hb⟩
theorem ssOk_of {ks : List (List Int)} {d : Nat} (hl : ks.length < 64) (hd : 1 ≤ d) (h : ∀ k ∈ ks, k.length = d ∧ ∀ i ∈ k, 0 ≤ i ∧ i < big) : ssOk ks = true := by
  unfold ssOk
  rw [Bool.and_eq_true]
  refine ⟨decide_eq_true hl, ?_⟩
  cases ks with
  | nil => rfl
  | cons k r =>
    obtain ⟨k1, k2⟩ := h k List.mem_cons_self
    show (decide (1 ≤ k.length) && (k :: r).all fun x => decide (x.length = k.length) && x.all fun i => decide (0 ≤ i) && decide (i < big)) = true
    rw [Bool.and_eq_true]
    refine ⟨decide_eq_true (by omega), List.all_eq_true.mpr fun x hx => ?_⟩
    obtain ⟨x1, x2⟩ := h x hx
    rw [Bool.and_eq_true]
    refine ⟨decide_eq_true (by omega), List.all_eq_true.mpr fun i hi => ?_⟩
    rw [Bool.and_eq_true]
    exact ⟨decide_eq_true (x2 i hi).1, decide_eq_true (x2 i hi).2⟩
theorem ssI_nil : ssI [] = [] := by
  unfold ssI inc dd
  exact List.mergeSort_nil
theorem ssT_nil : ssT [] = [] := by
  unfold ssT inc dd
  exact List.mergeSort_nil
theorem ssD_ints {b : Bool} {x : D} {st : Store} {ns : List Int} (h : seqOf st x = some (ns.map .int)) (hl : ns.length < 60) : ssD b [x] st = mkNew b ((ssI ns).map .int) st := by
  show opt (seqOf st x) _ = _
  rw [h, opt_some, intsOf_map']
  exact if_pos hl
theorem ssD_tups {b : Bool} {x : D} {st : Store} {ks : List (List Int)} (h : seqOf st x = some (ks.map tupD)) (ho : ssOk ks = true) : ssD b [x] st = mkNew b ((ssT ks).map tupD) st := by
  cases ks with
  | nil =>
    have := ssD_ints (b := b) (x := x) (st := st) (ns := []) h (by simp)
    rw [this, ssI_nil, ssT_nil]
    rfl
  | cons k r =>
    show opt (seqOf st x) _ = _
    have e : intsOf ((k :: r).map tupD) = none := rfl
    rw [h, opt_some, e, keysOf_tups]
    exact if_pos ho
end Dn
namespace Dn
open PySem PySem.Spec PyProof.Rows L2
section
variable {κ : Type} [DecidableEq κ]
theorem getK_nilG {k : κ} : getK ([] : List (κ × D)) k = none := rfl
theorem getK_consG {j k : κ} {d : D} {r : List (κ × D)} : getK ((j, d) :: r) k = if j = k then some d else getK r k := by
  unfold getK
  rw [List.find?_cons]
  by_cases e : j = k <;> simp [e]
theorem getK_set {kvs : List (κ × D)} {k k' : κ} {d : D} : getK (setK kvs k d) k' = if k = k' then some d else getK kvs k' := by
  unfold setK
  split
  · rename_i h
    induction kvs with
    | nil => simp at h
    | cons p r ih =>
      obtain ⟨j, x⟩ := p
      by_cases hj : j = k
      · subst hj
        simp only [List.map_cons, if_true]
        rw [getK_consG, getK_consG]
        by_cases e : j = k'
        · simp [e]
        · simp only [e, if_false]
          clear ih h
          induction r with
          | nil => rfl
          | cons p r ih =>
            obtain ⟨i, y⟩ := p
            by_cases hi : i = j
            · subst hi
              simp only [List.map_cons, if_true]
              rw [getK_consG, getK_consG, if_neg e, if_neg e]
              exact ih
            · simp only [List.map_cons, hi, if_false]
              rw [getK_consG, getK_consG, ih]
      · have h' : (r.any fun p => decide (p.1 = k)) = true := by
          simpa [hj] using h
        simp only [List.map_cons, hj, if_false]
        rw [getK_consG, getK_consG, ih h']
        by_cases e : j = k'
        · subst e
          simp [Ne.symm hj]
        · simp [e]
  · rename_i h
    have h' : ∀ p ∈ kvs, p.1 ≠ k := fun p hp e => h (List.any_eq_true.mpr ⟨p, hp, decide_eq_true e⟩)
    clear h
    induction kvs with
    | nil =>
      show getK [(k, d)] k' = _
      rw [getK_consG]
    | cons p r ih =>
      obtain ⟨j, x⟩ := p
      rw [List.cons_append, getK_consG, getK_consG, ih fun p hp => h' p (List.mem_cons_of_mem _ hp)]
      have hj : j ≠ k := h' (j, x) List.mem_cons_self
      by_cases e : j = k'
      · subst e
        simp [Ne.symm hj]
      · simp [e]
end
theorem add_lst {b : Bool} {ds es : List D} {st : Store} : addD b (.lst ds) (.lst es) st = if room (ds.length + es.length) then mkNew b (ds ++ es) st else .bad := rfl
theorem dec_nat {a b : Nat} : decide ((a : Int) = (b : Int)) = decide (a = b) := decide_eq_decide.mpr (by omega)
theorem any_map_id {α : Type} {p : α → Bool} {xs : List α} : (xs.map p).any id = xs.any p := by rw [List.any_map]; rfl
theorem all_map_id {α : Type} {p : α → Bool} {xs : List α} : (xs.map p).all id = xs.all p := by rw [List.all_map]; rfl
abbrev nats (l : List Nat) : List D := l.map fun k => .int ((k : Nat) : Int)
theorem mem_cast {xs : List Nat} {i : Nat} : decide (∃ a ∈ xs, ((a : Nat) : Int) = (i : Int)) = decide (i ∈ xs) := by
  congr 1
  refine propext ⟨fun ⟨a, h1, h2⟩ => ?_, fun h => ⟨i, h, rfl⟩⟩
  have : a = i := by omega
  subst this
  exact h1
theorem in_nats {xs : List Nat} {i : Nat} {st : Store} {y : D} (h : seqOf st y = some (nats xs)) : inD (.int (i : Nat)) y st = .ok (.bl (decide (i ∈ xs))) st := by
  rw [in_ints (f := fun k : Nat => (k : Int)) h, mem_cast]
theorem nin_nats {xs : List Nat} {i : Nat} {st : Store} {y : D} (h : seqOf st y = some (nats xs)) : ninD (.int (i : Nat)) y st = .ok (.bl !(decide (i ∈ xs))) st := by
  rw [nin_ints (f := fun k : Nat => (k : Int)) h, mem_cast]
theorem setK_len {κ : Type} [DecidableEq κ] {kvs : List (κ × D)} {k : κ} {d : D} : (setK kvs k d).length ≤ kvs.length + 1 := by
  unfold setK
  split
  · rw [List.length_map]; omega
  · rw [List.length_append]; exact Nat.le_refl _
theorem setA_int {st : Store} {n : Nat} {kvs : List (Key × D)} {i : Int} {z : D} (h : cell st n = some (.dct kvs)) (hl : kvs.length + 1 ≤ 1000000) : setA (.loc n) (.int i) z st = some (st.set n (some (.dct (setK kvs (.inl i) z)))) := by
  unfold setA
  simp only [h, keyK]
  exact if_pos hl
theorem maxI_le {L : List Int} {d : Int} (h : L ≠ []) : maxI L ≤ d ↔ ∀ x ∈ L, x ≤ d := by
  cases L with
  | nil => exact absurd rfl h
  | cons i r =>
    obtain ⟨h1, h2⟩ := maxI_is (i := i) (r := r)
    exact ⟨fun h x hx => Int.le_trans (h2 x hx) h, fun h => h _ h1⟩
theorem max1_ints {x : D} {st : Store} {L : List Int} (h : (lstOf st x).bind intsOf = some L) (hn : L ≠ []) : maxD [x] st = .ok (.int (maxI L)) st := by
  show max1 x st = _
  unfold max1
  rw [h]
  cases L with
  | nil => exact absurd rfl hn
  | cons _ _ => rfl
end Dn
namespace Dn
open PySem PySem.Spec PyProof.Rows L2
/-! ### lists at places -/
theorem resD_lo {st : Store} {x : D} {xs : List D} (h : lstOf st x = some xs) : resD st x = .lst xs := by
  cases x with
  | lst ys => injection h with h; subst h; rfl
  | loc n =>
    have h : lstAt st n = some xs := h
    simp only [resD, h]
  | _ => cases h
theorem eqB_lo {st : Store} {x y : D} {xs ys : List D} (hx : lstOf st x = some xs) (hy : lstOf st y = some ys) : eqB st x y = if (okd 60 (.lst xs) && okd 60 (.lst ys)) = true then some (eqvD (.lst xs) (.lst ys)) else none := by
  have e : eqB st x y = if (okd 60 (resD st x) && okd 60 (resD st y)) = true then some (eqvD (resD st x) (resD st y)) else none := by
    cases x with
    | lst _ => cases y <;> first | rfl | cases hy
    | loc _ => cases y <;> first | rfl | cases hy
    | _ => cases hx
  rw [e, resD_lo hx, resD_lo hy]
theorem eq_lo {st : Store} {x y : D} {xs ys : List D} (hx : lstOf st x = some xs) (hy : lstOf st y = some ys) (h1 : okd 60 (.lst xs) = true) (h2 : okd 60 (.lst ys) = true) : eqD x y st = .ok (.bl (eqvD (.lst xs) (.lst ys))) st := by
  unfold eqD
  rw [eqB_lo hx hy, h1, h2]
  rfl
theorem ne_lo {st : Store} {x y : D} {xs ys : List D} (hx : lstOf st x = some xs) (hy : lstOf st y = some ys) (h1 : okd 60 (.lst xs) = true) (h2 : okd 60 (.lst ys) = true) : neD x y st = .ok (.bl !(eqvD (.lst xs) (.lst ys))) st := by
  unfold neD
  rw [eqB_lo hx hy, h1, h2]
  rfl
theorem eqv_lst_cons {x y : D} {xs ys : List D} : eqvD (.lst (x :: xs)) (.lst (y :: ys)) = (eqvD x y && eqvD (.lst xs) (.lst ys)) := by
  unfold eqvD
  simp only [pd, pds, PyData.eqv, PyData.eqvAll]
theorem eqv_tup_cons {x y : D} {xs ys : List D} : eqvD (.tup (x :: xs)) (.tup (y :: ys)) = (eqvD x y && eqvD (.tup xs) (.tup ys)) := by
  unfold eqvD
  simp only [pd, pds, PyData.eqv, PyData.eqvAll]
theorem eqv_lst_nil : eqvD (.lst []) (.lst []) = true := by simp [eqvD, pd, pds, PyData.eqv, PyData.eqvAll]
theorem eqv_tup_nil : eqvD (.tup []) (.tup []) = true := by simp [eqvD, pd, pds, PyData.eqv, PyData.eqvAll]
theorem eqv_lst_l {x : D} {xs : List D} : eqvD (.lst (x :: xs)) (.lst []) = false := by simp [eqvD, pd, pds, PyData.eqv, PyData.eqvAll]
theorem eqv_lst_r {x : D} {xs : List D} : eqvD (.lst []) (.lst (x :: xs)) = false := by simp [eqvD, pd, pds, PyData.eqv, PyData.eqvAll]
theorem eqv_tup_l {x : D} {xs : List D} : eqvD (.tup (x :: xs)) (.tup []) = false := by simp [eqvD, pd, pds, PyData.eqv, PyData.eqvAll]
theorem eqv_tup_r {x : D} {xs : List D} : eqvD (.tup []) (.tup (x :: xs)) = false := by simp [eqvD, pd, pds, PyData.eqv, PyData.eqvAll]
theorem eqv_lst_map {α : Type} {f : α → D} (hf : ∀ a b, (eqvD (f a) (f b) = true) ↔ a = b) : ∀ {xs ys : List α}, (eqvD (.lst (xs.map f)) (.lst (ys.map f)) = true) ↔ xs = ys
  | [], [] => by simp [eqv_lst_nil]
  | [], y :: ys => by simp [eqv_lst_r]
  | x :: xs, [] => by simp [eqv_lst_l]
  | x :: xs, y :: ys => by
    rw [List.map_cons, List.map_cons, eqv_lst_cons, Bool.and_eq_true, hf, eqv_lst_map hf, List.cons.injEq]
theorem eqv_tup_map {α : Type} {f : α → D} (hf : ∀ a b, (eqvD (f a) (f b) = true) ↔ a = b) : ∀ {xs ys : List α}, (eqvD (.tup (xs.map f)) (.tup (ys.map f)) = true) ↔ xs = ys
  | [], [] => by simp [eqv_tup_nil]
  | [], y :: ys => by simp [eqv_tup_r]
  | x :: xs, [] => by simp [eqv_tup_l]
  | x :: xs, y :: ys => by
    rw [List.map_cons, List.map_cons, eqv_tup_cons, Bool.and_eq_true, hf, eqv_tup_map hf, List.cons.injEq]
theorem eqv_nat {a b : Nat} : (eqvD (.int (a : Int)) (.int (b : Int)) = true) ↔ a = b := by
  rw [eqv_int, decide_eq_true_iff]
  omega
theorem eqv_nats {xs ys : List Nat} : eqvD (.lst (nats xs)) (.lst (nats ys)) = decide (xs = ys) := by
  rw [Bool.eq_iff_iff, decide_eq_true_iff]
  exact eqv_lst_map (fun _ _ => eqv_nat)
theorem lstAt_keep {st l : Store} {n : Nat} {ds : List D} (h : lstAt st n = some ds) : lstAt (st ++ l) n = some ds := by
  have hc := lstAt_cell h
  unfold cell at hc
  have hn : n < st.length := by
    rcases Nat.lt_or_ge n st.length with h1 | h1
    · exact h1
    · rw [List.getElem?_eq_none (by simpa using h1)] at hc
      cases hc
  unfold lstAt cell at h ⊢
  rw [List.getElem?_append_left hn]
  exact h
theorem lstOf_keep {st l : Store} {d : D} {ds : List D} (h : lstOf st d = some ds) : lstOf (st ++ l) d = some ds := by
  cases d with
  | lst _ => exact h
  | loc n => exact lstAt_keep h
  | _ => cases h
theorem okd_nats {n : Nat} {l : List Nat} : okd (n + 1) (.lst (nats l)) = true := okd_lst (okd_map fun _ _ => okd_int)
theorem okd_natt {n : Nat} {l : List Nat} : okd (n + 1) (.tup (nats l)) = true := okd_tup (okd_map fun _ _ => okd_int)
theorem truthB_lst {st : Store} {ds : List D} : truthB st (.lst ds) = some (!ds.isEmpty) := rfl
theorem truthB_tup {st : Store} {ds : List D} : truthB st (.tup ds) = some (!ds.isEmpty) := rfl
/-- an iterator over a list, wherever it is -/
theorem its_lo {st : Store} {d : D} {ds : List D} (h : lstOf st d = some ds) : ∃ g, itsOf st d = some (ds, g) ∧ grd (ds, g) st := by
  cases d with
  | lst ys =>
    injection h with h
    subst h
    exact ⟨[], rfl, by simp⟩
  | loc n =>
    have h : lstAt st n = some ds := h
    refine ⟨[(n, .lst ds)], ?_, ?_⟩
    · unfold itsOf
      dsimp only
      rw [h]
    · exact ⟨lstAt_cell h, trivial⟩
  | _ => cases h
end Dn
namespace Dn
open PySem PySem.Spec PyProof.Rows L2
/-! ### range(i, j, c) -/
def rngC (lo c : Int) (n : Nat) : List D := (List.range n).map fun (i : Nat) => D.int (lo + (i : Nat) * c)
theorem wk_rngC {K : PySem.W.Frag} {mg : Str → Option Value} {μ : List Addr} {G : Hp} {lo c : Int} {n : Nat} : Wk K mg μ G (Itc lo c n) (rngC lo c n, []) := by
  intro μ2 G2 F2 st2 H2 f2 k2 _
  have hl : (rngC lo c n).length = n := by simp [rngC]
  refine ⟨by rw [hl]; exact Nat.le_refl _, fun i d hd => ?_⟩
  have hi : i < n := by
    have := (List.getElem?_eq_some_iff.mp hd).1
    rwa [hl] at this
  refine ⟨hi, fun y H3 hy => ?_⟩
  obtain ⟨rfl, rfl⟩ := hy
  have e : d = .int (lo + (i : Nat) * c) := by
    unfold rngC at hd
    rw [List.getElem?_map, List.getElem?_range hi] at hd
    exact (Option.some.inj hd).symm
  subst e
  exact ⟨G2, .refl _ _, k2, .int⟩
def rgOk (i j c : Int) : Bool := decide (c ≠ 0) && (decide (c.natAbs < 1073741824) && (Builtin.Range.small i j c && decide (0 ≤ Builtin.Range.rangeSize i j c)))
def iR3 (ms : EMs) : IM := fun vs st => (ms vs st).bind fun xs st => match xs with
  | [.int i, .int j, .int c] => if rgOk i j c = true then .ok (rngC i c (Builtin.Range.rangeSize i j c).toNat, []) st else .bad
  | _ => .bad
section
variable {X : Cx} {W : WX} {tg a b c : Expr} {ms : EMs} {pos p : Pos}
theorem i_rng3 (hm : X.mg "range" = none) (ha : MA X W [a, b, c] ms) (hms : ALen ms 3 := by repeat constructor) (hg : Gl X "range" := by rfl)
    (hs : starEach [a, b, c] X.env = (false, eval a X.env) :: starEach [b, c] X.env := by rfl) (hpl : (backTo pos (starEach [b, c] X.env)).any (·.1) = false := by rfl) :
    MI X W tg (.Call (.Name "range" p) [a, b, c] [] pos) (iR3 ms) :=
  (pi_range3 hg hm ha hs hpl).of fun σ H R h => by
    obtain ⟨vs, st, μ, G, F, re, k, h⟩ := h
    unfold iR3 at h
    cases hd : ms vs st with
    | bad => rw [hd] at h; exact h.elim
    | exc ex st1 => rw [hd] at h; exact ⟨vs, st, μ, G, F, re, k, by rw [hd]; exact h⟩
    | ok ds st1 =>
      rw [hd] at h
      refine ⟨vs, st, μ, G, F, re, k, ?_⟩
      rw [hd]
      intro μ1 G1 H1 f1 k1 ws rws
      have hl := hms.len hd
      have h1 := Done.fut f1 h
      obtain ⟨d1, d2, d3, rfl⟩ : ∃ d e f, ds = [d, e, f] := by
        match ds, hl with
        | [d, e, f], _ => exact ⟨d, e, f, rfl⟩
      obtain ⟨v, r, rfl, rv, ht⟩ := reps_cons rws
      obtain ⟨w, u, rfl, rw', ru⟩ := reps_two ht
      cases d1 with
      | int i =>
        cases d2 with
        | int j =>
          cases d3 with
          | int c =>
            obtain ⟨hc, h1⟩ := ite_done' (α := Its) h1
            obtain ⟨_, q⟩ := Done.here k1 h1
            rw [rep_int rv, rep_int rw', rep_int ru]
            unfold rgOk at hc
            rw [Bool.and_eq_true, Bool.and_eq_true, Bool.and_eq_true] at hc
            have h4 := of_decide_eq_true hc.2.2.2
            exact ⟨i, j, c, _, rfl, ⟨of_decide_eq_true hc.1, of_decide_eq_true hc.2.1, hc.2.2.1, by omega⟩, q _ wk_rngC⟩
          | _ => exact h1.elim
        | _ => exact h1.elim
      | _ => exact h1.elim
end
/-! ### list(range(n)) -/
def tLR (ta : TA) : TE := fun σ H Q => ta σ H fun vs H1 => ∃ j : Int, vs = [.int j] ∧ -(2 ^ 62) ≤ j ∧ j ≤ 1000000 ∧ ∀ p, H1 p = none → Q (.ref p) (upd H1 p (.lst ((List.range j.toNat).map fun (i : Nat) => V.int ((i : Nat) : Int))))
theorem vals_items {n : Nat} : ∀ {xs : List Value}, xs.length = n → (∀ j v, xs[j]? = some v → ∃ t, v = Value.int ((0 : Int) + (j : Nat) * 1) t) → Vals ((List.range n).map fun (i : Nat) => V.int ((i : Nat) : Int)) xs := by
  intro xs hl h
  have gen : ∀ (k : Nat) (xs : List Value), (∀ j v, xs[j]? = some v → ∃ t, v = Value.int (((k + j : Nat) : Int)) t) → Vals ((List.range' k xs.length).map fun (i : Nat) => V.int ((i : Nat) : Int)) xs := by
    intro k xs
    induction xs generalizing k with
    | nil => intro _; exact .nil
    | cons x xs ih =>
      intro h
      obtain ⟨t, e⟩ := h 0 x rfl
      rw [List.length_cons, List.range'_succ, List.map_cons]
      refine .cons ?_ (ih (k + 1) fun j v hv => ?_)
      · exact ⟨t, by rw [e]; rfl⟩
      · obtain ⟨t, e⟩ := h (j + 1) v hv
        exact ⟨t, by rw [e]; congr 2; omega⟩
  have := gen 0 xs fun j v hv => by
    obtain ⟨t, e⟩ := h j v hv
    exact ⟨t, by rw [e]; congr 1; omega⟩
  rw [hl, ← List.range_eq_range'] at this
  exact this
section
variable {X : Cx} {a : Expr} {ta : TA} {p p2 q pos : Pos}
theorem pe_listRange (hc : X.calm = true) (hg : Gl X "list") (hm : X.mg "list" = none) (hg2 : Gl X "range") (hm2 : X.mg "range" = none) (ha : PA X [a] ta) (na : starEach [a] X.env = [(false, eval a X.env)]) :
    PE X (.Call (.Name "list" p) [.Call (.Name "range" p2) [a] [] q] [] pos) (tLR ta) := by
  refine ⟨fun pins s σ H Q I h => ?_⟩
  refine Call_ (ld_blt I hg hm PyProof.Rows.boot_list ?_)
  refine PyProof.Rows.callWith_type1 (PyProof.Rows.args_cons ?_ rfl) rfl rfl
  refine Call_ (ld_blt I hg2 hm2 boot_range ?_)
  refine PyProof.Rows.callWith_type1 (thn (ha.run q pins s σ H _ I h) fun us s1 ⟨vs, H1, I1, r1, q1⟩ => ?_) na rfl
  obtain ⟨j, rfl, j0, j1, q1⟩ := q1
  cases r1 with
  | cons r rr =>
    cases rr
    obtain ⟨t, rfl⟩ := r
    refine call_range_1 (PyProof.Rows.args_nil ?_)
    have I2 : Inv X pins σ H1 { s1 with heap := s1.heap.push { cls := .type "range", data := .fields #[.int 0 s1.toks, .int j t, .int 1 (s1.toks + 1)] }, toks := s1.toks + 1 + 1 } := I1.kept fun b o e => Heap.get?_push_of_some _ e
    have hz : Builtin.Range.rangeSize 0 j 1 = ((j.toNat : Nat) : Int) := by rw [rangeSize_one]; split <;> omega
    refine call_list_range (n := j.toNat) (I1.ok.hd hc) (IsRange.new s1.heap 0 j 1 s1.toks t (s1.toks + 1)) (small_one (by omega) (by omega) j0 (by omega)) hz (by omega) fun h' tk acc c' hk hs hi => ?_
    have hlen : ((List.range j.toNat).map fun (i : Nat) => V.int ((i : Nat) : Int)).length ≤ sizeLine := by
      rw [List.length_map, List.length_range, sizeLine_eq]
      omega
    refine ⟨.ref _, upd H1 _ (.lst ((List.range j.toNat).map fun (i : Nat) => V.int ((i : Nat) : Int))), I2.laid (t' := tk) hk (Nat.le_refl _) ⟨hlen, acc.toList, c', vals_items (by rw [Array.length_toList]; exact hi.1) (fun k v hv => hi.2 k v (by rw [← Array.getElem?_toList]; exact hv)), by simpa using hs⟩, rfl, q1 _ (I2.hok.fresh (Nat.le_refl _))⟩
def lrD (b : Bool) : List D → Store → Re D := one fun x st => match x with
  | .int j => if fitR j ∧ j ≤ 1000000 then mkNew b (rng 0 j.toNat) st else .bad
  | _ => .bad
theorem m_lr {W : WX} {ms : EMs} (b : Bool) (hc : X.calm = true) (hm : X.mg "list" = none) (hm2 : X.mg "range" = none) (ha : MA X W [a] ms) (hg : Gl X "list" := by rfl) (hg2 : Gl X "range" := by rfl)
    (na : starEach [a] X.env = [(false, eval a X.env)] := by rfl) : ME X W (.Call (.Name "list" p) [.Call (.Name "range" p2) [a] [] q] [] pos) (eN (lrD b) ms) := by
  refine (pe_listRange hc hg hm hg2 hm2 ha na).of fun σ H Q h => ?_
  obtain ⟨vs, st, μ, G, F, re, k, h⟩ := h
  refine ⟨vs, st, μ, G, F, re, k, (Done.bind h).mono fun μ1 G1 xs st1 H1 f1 k1 h1 ws rws => ?_⟩
  cases xs with
  | nil => exact h1.elim
  | cons x r =>
    cases r with
    | cons _ _ => exact h1.elim
    | nil =>
      obtain ⟨v, rfl, rv⟩ := reps_one rws
      cases x with
      | int j =>
        have h1 : Done X.K X.mg W σ μ1 G1 F (if fitR j ∧ j ≤ 1000000 then mkNew b (rng 0 j.toNat) st1 else .bad) (Fin X.K Q) := h1
        obtain ⟨hc', h2⟩ := ite_done h1
        rw [rep_int rv]
        refine ⟨j, rfl, hc'.1.1, hc'.2, new_list k1 ?_ h2⟩
        rw [rng0_map]
        have : ∀ (l : List Nat), Reps X.K μ1 G1 (l.map fun (i : Nat) => D.int ((i : Nat) : Int)) (l.map fun (i : Nat) => V.int ((i : Nat) : Int)) := fun l => by
          induction l with
          | nil => exact .nil
          | cons i l ih => exact .cons .int ih
        exact this _
      | _ => exact h1.elim
end
/-! ### name += e -/
def iaddD (x y : D) (st : Store) : Re D := match x, y with
  | .int i, .int j => .ok (.int (i + j)) st
  | _, _ => .bad
theorem s_iadd {K : PySem.W.Frag} {mg : Str → Option Value} : S2 K mg iaddD (rI0 fun i j => .int (i + j)) := by
  intro W σ μ G F st H x y v w Q k rx ry h
  cases x with
  | int i =>
    cases y with
    | int j =>
      rw [rep_int rx, rep_int ry]
      exact ⟨i, j, rfl, rfl, fin_here k h .int⟩
    | _ => exact h.elim
  | _ => exact h.elim
@[simp] theorem sAug_eq {i : Nat} {f : D → D → Store → Re D} {m : EM} {vs : Vars} {st : Store} : sAug i f m vs st = match getV vs i with | some x => (m vs st).thn vs fun y st => (f x y st).thn vs fun z st => .nx (vs.set i (some z)) st | none => .bad := rfl
end Dn
/-! Own errors: class CallError(ValueError) whose __init__ says super().__init__(code); self.code = code, and classes over it. -/
namespace Dn
open PySem PySem.W PySem.Calls PyProof.Rows PySem.HandSPX
/-! ### the text of __init__ -/
def erA (p1 p2 : Pos) : Arguments := { posonlyargs := [], args := [{ arg := "self", annotation := none, pos := p1 }, { arg := "code", annotation := none, pos := p2 }], vararg := none, kwonlyargs := [], kw_defaults := [], kwarg := none, defaults := [] }
def erB (a1 a2 a3 a4 a5 a6 q1 q2 q3 q4 : Pos) : List Stmt :=
  [.Expr (.Call (.Attribute (.Call (.Name "super" a1) [] [] a2) "__init__" a3) [.Name "code" a4] [] a5) a6, .Assign [.Attribute (.Name "self" q1) "code" q2] (.Name "code" q3) q4]
def erS : Scope := { kind := .function, names := [(PySem.Str.ofString "self", .local), (PySem.Str.ofString "code", .local), (PySem.Str.ofString "__class__", .free), (PySem.Str.ofString "super", .globalImplicit)], isGenerator := false, isCoroutine := false, more := [] }
theorem erS_super : erS.names.lookup ("super" : Str) = some .globalImplicit := by decide +kernel
theorem erS_class : erS.names.lookup ("__class__" : Str) = some .free := by decide +kernel
theorem erS_self : erS.names.lookup ("self" : Str) = some .local := by decide +kernel
theorem erS_code : erS.names.lookup ("code" : Str) = some .local := by decide +kernel
/-- what the written part says of an error's class nm, at C; D: CallError's own place, fI: its __init__ -/
structure ErrTxt (P : Program) (K : Frag) (mg : Str → Option Value) (nm : Str) (C D fI : Addr) : Prop where
  gC : mg nm = some (.ref C)
  cls : ∃ nm q N bs bm sn sub ab col dd k0 k1 k2 k3 k5, K.lookup C = some (excClassObj nm q C N bs bm true sn sub ab col dd k0 k1 k2 k3 k5 "ValueError.__new__") ∧ refsVE bm = true
  sa : findIn K (.ref C) "__setattr__" = some (some (.builtin "object.__setattr__"))
  ga : findIn K (.ref C) "__getattribute__" = some (some (.builtin "BaseException.__getattribute__"))
  gg : findIn K (.ref C) "__getattr__" = some none
  noN : findIn K (.ref C) "code" = some none
  iC : findIn K (.ref C) "__init__" = some (some (.ref fI))
  tC : typeIn K (.ref fI) = some (.type "function")
  kC : keepIn K (.ref C) = true
  exC : subIn K (.ref C) (.type "BaseException") = some true
  veC : subIn K (.ref C) (.type "ValueError") = some true
  tyC : typeIn K (.ref C) = some (.type "type")
  hdC : hasDictIn K C = true
  exI : excInitIn K C veTail "ValueError.__new__" = true
  sup : ks_superIn K C D "__init__" = some (some (.builtin "ValueError.__init__"))
  clD : ∃ cdD, clsIn K D = some cdD
  sbD : mroIn K C (.ref D) = some true
  noS : mg "super" = none
  noY : nsIn K cStatics "thirdparty.any" = some none
  top : (P.main.scope.names.lookup ("super" : Str)).isSome = false
  fn : ∃ (oc : Value) (od : Option Addr) (doc pm : Value) (an : Option Addr) (cda cc : Addr) (ct : Value) (osl : Array (Option Value)) (p1 p2 a1 a2 a3 a4 a5 a6 q1 q2 q3 q4 : Pos) (ccl : Value) (cdd : Option Addr) (vs : Array Value) (ccs : Array (Option Value)) (file : Str) (tf : Tok) (cl : Value) (cld : Option Addr) (csl : Array (Option Value)),
    (a3.endLine == a5.line) = true ∧ K.lookup fI = some ⟨oc, od, .func (ksFn "__init__" "CallError.__init__" (erA p1 p2) (erB a1 a2 a3 a4 a5 a6 q1 q2 q3 q4) erS .none .none doc pm an (.ref cda) ct cc), osl⟩ ∧ codeIn K (.ref cda) "CallError.__init__" = true ∧
    K.lookup cda = some ⟨ccl, cdd, .fields vs, ccs⟩ ∧ vs[2]? = some (.str file tf) ∧ ((P.main.file : Str) == file) = true ∧ K.lookup cc = some ⟨cl, cld, .cell (some (.ref D)), csl⟩
theorem one_size (v : Value) : [v].length ≤ sizeLine := by
  rw [sizeLine_eq]
  exact (by decide : 1 ≤ 16777216)
theorem kept_but {K : Frag} {h h' : Heap} {x : Addr} (X : K.In h) (hx : K.lookup x = none) (k : ∀ b o, b ≠ x → h.get? b = some o → h'.get? b = some o) : K.In h' := fun a o e =>
  k a o (fun z => by rw [z, hx] at e; cases e) (X a o e)
theorem ldX {M : Model} {s : Shared} {env : Env} {A : Around} {m : Str → Option Value} {x : Str} {pos : Pos} {v : Value} {Q : Value → Shared → Prop} {E : Value → Shared → Prop} (hn : s.heap.Ns env.locals m) (hv : m x = some v) (h : Q v s)
    (hk : env.scope.kind = .function := by rfl) (hl : env.kindOf x = some .local := by rfl) (hd : (x == ("__debug__" : Str)) = false := by decide) : wpAny M A (eval (.Name x pos) env) Q E s := wpAny_Name (wpAny_loadName_local hk hl hn hv h) hd
/-- what __init__ leaves of a fresh exception at x -/
structure ErrEnd (h h' : Heap) (x C dx : Addr) (v : Value) : Prop where
  keep : ∀ b o, b ≠ x → h.get? b = some o → h'.get? b = some o
  obj : ∃ t1, h'.get? x = some { cls := .ref C, dict := some dx, data := .fields #[.ref t1, .none, .none, .none, .bool false, .none] }
  dbig : h.objs.size ≤ dx
  dne : dx ≠ x
  ns : h'.Ns1 dx (fun y => if y = "code" then some v else none)
/-- a made one -/
structure ErrMade (h h' : Heap) (e C d : Addr) (v : Value) : Prop where
  keep : ∀ b o, h.get? b = some o → h'.get? b = some o
  new : h.objs.size ≤ e
  obj : ∃ oe vs, h'.get? e = some oe ∧ oe.cls = .ref C ∧ oe.dict = some d ∧ oe.data = .fields vs ∧ vs[1]? = some .none
  dbig : h.objs.size ≤ d
  dne : d ≠ e
  ns : h'.Ns1 d (fun y => if y = "code" then some v else none)
section
variable {P : Program} {w : World} {A : Around} {E : Value → Shared → Prop} {R : Result → Shared → Prop} {s : Shared} {K : Frag} {mg : Str → Option Value} {nm : Str} {C D fI : Addr}
theorem at_method {M : Model} {c : Code} {A : Around} {o e : Expr} {name : Str} {apos pos : Pos} {env : Env} {Q : Value → Shared → Prop} {E : Value → Shared → Prop} {s : Shared} (hline : (apos.endLine == pos.line) = true)
    (h : _root_.PySem.wpAt M A c (attributeBase o name env (eval o env)) (fun ov s₁ => wpAny M A (getMethod ov name (do return (← importBound o env).getD true)) (fun fx s₂ => wpAny M A (callWith pos fx.1 fx.2 (backTo pos (starEach [e] env)) []) Q E s₂) E s₁) E s)
    (hfew : methodCallForm 1 (backTo pos (starEach [e] env)) (backToKw pos (keywordEach [] env)) = true := by rfl) :
    _root_.PySem.wpAt M A c (eval (.Call (.Attribute o name apos) [e] [] pos) env) Q E s := by
  rw [arm_eval_Call]
  refine _root_.PySem.wpAt_bind (ks_wpAt_mono h (fun ov s₁ h₁ => wpAt_of_wpAny (wpAny_bind (wpAny_standAt ?_))) fun _ _ x => x)
  have hpos : methodCallPos true o env apos pos = pure pos := by unfold methodCallPos; simp [hline]
  show wpAny _ _ (methodCall o name apos pos env ov 1 (backTo pos (starEach [e] env)) (backToKw pos (keywordEach [] env))) _ _ _
  unfold methodCall
  rw [hfew]
  refine wpAny_bind (wpAny_holding (wpAny_mono h₁ (fun fx s₂ h₂ => ?_) fun _ _ x => x))
  exact wpAny_bind (wpAny_of_eq hpos h₂)
/-- super() in the body of __init__ -/
theorem err_super (T : ErrTxt P K mg nm C D fI) {body : List Stmt} {q : Str} {L cc cda x : Addr} {attr : Str} {whole : Sem Value} {fd : FuncData} {ar : Arg} {vs : Array Value} {file : Str} {tf : Tok} {oc ccl cl : Value} {od cdd cld : Option Addr} {osl ccs csl : Array (Option Value)} {ox : Obj} {mb m : Str → Option Value} {p0 p1 : Pos} {Q : Value → Shared → Prop}
    (X : K.In s.heap) (hg : s.heap.Ns mainGlobals mg) (hb : s.heap.Ns builtinsNs mb) (hmb : mb "super" = bootBuiltins "super")
    (hf : K.lookup fI = some ⟨oc, od, .func fd, osl⟩) (hp : (fd.params.posonlyargs ++ fd.params.args).head? = some ar) (hn : s.heap.Ns L m) (hv : m ar.arg = some (.ref x)) (hx : s.heap.get? x = some ox) (hxc : ox.cls = .ref C) (hnc : ∀ c, ox.data ≠ .cls c)
    (hcode : K.lookup cda = some ⟨ccl, cdd, .fields vs, ccs⟩) (hvs : vs[2]? = some (.str file tf)) (hfile : ((P.main.file : Str) == file) = true) (hcell : K.lookup cc = some ⟨cl, cld, .cell (some (.ref D)), csl⟩)
    (hka : erS.names.lookup ar.arg = some .local) (hat : (attr == ("__class__" : Str)) = false)
    (h : ∀ h', h'.get? s.heap.objs.size = some (ks_superObj D x C) → (∀ y o, s.heap.get? y = some o → h'.get? y = some o) → Q (.ref s.heap.objs.size) { s with heap := h' }) :
    _root_.PySem.wpAt (model P w) A (.func body (ksEnv q erS L fI (.ref cda) cc)) (attributeBase (.Call (.Name "super" p0) [] [] p1) attr (ksEnv q erS L fI (.ref cda) cc) whole) Q E s := by
  obtain ⟨cdD, hD⟩ := T.clD
  obtain ⟨oD, hD1, hD2⟩ : ∃ oD, s.heap.get? D = some oD ∧ oD.data = .cls cdD := by
    unfold clsIn at hD
    split at hD
    · rename_i c d cd' sl ho
      cases hD
      exact ⟨_, X _ _ ho, rfl⟩
    · cases hD
  refine ks_wpAt_super_base (env := ksEnv q erS L fI (.ref cda) cc) erS_super erS_class hat rfl (X _ _ hf) rfl hp rfl (X _ _ hcode) rfl hvs hfile T.top ?_
  refine ks_loadName_global rfl erS_super (loadGlobal_builtin (env := ksEnv q erS L fI (.ref cda) cc) hg T.noS hb (hmb.trans (by first | rfl | kernel_rfl)) ⟨rfl, ?_⟩)
  refine wpAny_loadName_free (by rfl) erS_class rfl ⟨_, X _ _ hcell, rfl⟩ ?_
  refine wpAny_loadName_local (by rfl) hka hn hv ?_
  refine ks_wpAny_isType_cls hD1 hD2 ⟨rfl, ?_⟩
  obtain ⟨hh, g, d, t, os⟩ := s
  exact ks_wpAny_call_super hD1 hD2 hx hxc hnc (looks_mroIn X T.sbD) h
/-- the built-in's __init__, bound to the exception, is called -/
theorem err_bound (T : ErrTxt P K mg nm C D fI) {u x t0 : Addr} {rest : List Value} {Q : Value → Shared → Prop} (X : K.In s.heap) (hu : s.heap.get? u = some (kxs_mw "ValueError.__init__" x)) (hx : s.heap.get? x = some (excO C t0)) (hz : rest.length ≤ sizeLine)
    (hq : ∀ h' t1, (∀ b o, b ≠ x → s.heap.get? b = some o → h'.get? b = some o) → h'.get? x = some (excO C t1) → Q .none { s with heap := h' }) :
    wpAny (model P w) A (call (.ref u) rest) Q E s := by
  obtain ⟨nm, N', qn, bs, bm, hdct, sn, sub, ab, col, dd, k0, k1, k2, k3, k5, hC, hT⟩ := excInit_of X T.exI
  obtain ⟨hh, g, d, tk, os⟩ := s
  refine wpAny_call (codeAny_of_tree ?_)
  show wpAny _ A.in1 (callAny (.ref u) ⟨rest, []⟩) _ _ _
  simp only [callAny]
  refine wpAny_bind (wpAny_load hu ?_)
  simp only [kxs_mw, show (Value.type "method-wrapper" == Value.type "method" || Value.type "method-wrapper" == Value.type "builtin_function_or_method" || Value.type "method-wrapper" == Value.type "method-wrapper") = true by decide, if_true]
  refine KFB.if_so (by decide) ?_
  refine wpAny_bind (check_bound_init F.excBase_ValueError.toExcCallFacts hC hx rfl ?_)
  refine wpAny_bind (wpAny_pure (wpAny_pure ?_))
  refine ⟨plainId_quiet F.excBase_ValueError.init.plain _, codeAny_builtin F.excBase_ValueError.initEntry ?_⟩
  exact exc_init_tree (cls := .ref C) (t0 := t0) (dv := none) (c2 := .none) (c3 := .none) (b4 := .bool false) hx hz fun h' k e' t' => hq h' _ k e'
theorem err_init (T : ErrTxt P K mg nm C D fI) {x t0 : Addr} {v : Value} {mb : Str → Option Value} (X : K.In s.heap) (hlim : s.heap.NoLimit) (hg : s.heap.Ns mainGlobals mg) (hb : s.heap.Ns builtinsNs mb) (hmb : mb "super" = bootBuiltins "super") (hx : s.heap.get? x = some (excO C t0)) (hnx : K.lookup x = none) (hroom : A.depth < recursionLimit)
    (hq : ∀ h' tk dx, ErrEnd s.heap h' x C dx v → R (.ok (.ret .none)) { s with heap := h', toks := tk }) :
    codeAny (model P w) A (.call (.ref fI) ⟨[.ref x, v], []⟩) R s := by
  obtain ⟨oc, od, doc, pm, an, cda, cc, ct, osl, p1, p2, a1, a2, a3, a4, a5, a6, q1, q2, q3, q4, ccl, cdd, vs, ccs, file, tf, cl, cld, csl, hline, ho, hcd, hcode, hvs, hfile, hcell⟩ := T.fn
  obtain ⟨nm, q, N, bs, bm, sn, sub, ab, col, dd, k0, k1, k2, k3, k5, hC, hbm⟩ := T.cls
  have hcl : clsIn K C = some { name := nm, bases := bs, mro := .ref C :: bm, ns := N, qualname := q, hasDict := true, slotNames := sn, subclasses := sub, abstract := ab, collection := col, hasDel := false } := by unfold clsIn; rw [hC] <;> rfl
  have hk1 : ∀ y ∈ erS.names, y.2 ≠ .cell := by decide
  have hk2 : ∀ y ∈ [(("self" : Str), Value.ref x), ("code", v)], erS.names.lookup y.1 = some .local := fun y hy => by
    rcases List.mem_cons.mp hy with rfl | hy
    · exact erS_self
    · rcases List.mem_cons.mp hy with rfl | hy
      · exact erS_code
      · cases hy
  refine ks_codeAny_call_defAt (fd := ksFn "__init__" "CallError.__init__" (erA p1 p2) (erB a1 a2 a3 a4 a5 a6 q1 q2 q3 q4) erS .none .none doc pm an (.ref cda) ct cc) (binds := [("self", .ref x), ("code", v)]) hroom (X _ _ ho) rfl hlim (codeRec_of X hcd) rfl
    (BindsTo.of_eq (by first | rfl | with_unfolding_all rfl)) hk1 hk2 (fun h₁ hns k => ?_) rfl rfl rfl
  have hxL : s.heap.objs.size ≠ x := Nat.ne_of_gt (Heap.lt_size hx)
  have X₁ : K.In h₁ := X.keeps k
  have hx₁ := k _ _ hx
  have z : s.heap.objs.size < h₁.objs.size := hns.lt
  obtain ⟨L, hL⟩ : ∃ L, L = s.heap.objs.size := ⟨_, rfl⟩
  rw [← hL] at hns hxL z ⊢
  show _root_.PySem.wpAt _ _ (.func _ (ksEnv "CallError.__init__" erS L fI (.ref cda) cc)) (execs (erB a1 a2 a3 a4 a5 a6 q1 q2 q3 q4) (ksEnv "CallError.__init__" erS L fI (.ref cda) cc)) _ _ _
  -- super().__init__(code)
  unfold erB
  refine ks_wpAt_execs_cons (ks_wpAt_Expr_any (at_method (e := .Name "code" a4) (env := ksEnv "CallError.__init__" erS L fI (.ref cda) cc) hline ?_))
  refine err_super T (ar := { arg := "self", annotation := none, pos := p1 }) (m := fun y => [(("self" : Str), Value.ref x), ("code", v)].reverse.lookup y) X₁ (hg.keeps k) (hb.keeps k) hmb ho rfl hns (by first | rfl | with_unfolding_all rfl | kernel_rfl) hx₁ rfl (fun c => by intro e; cases e) hcode hvs hfile hcell erS_self (by decide) ?_
  intro h₂ hso k2
  have X₂ : K.In h₂ := X₁.keeps k2
  have hx₂ := k2 _ _ hx₁
  have I₂ : InstAt h₂ x (excO C t0) C none := ⟨hx₂, rfl, rfl, trivial⟩
  refine kxs_getMethod kxs_ValueError (so := h₁.objs.size) (D := D) (x := x) (C := C) hso (looks_opaque X₂ T.noY) (l₀ := .ref C :: bm) ?_ (l := ((Value.ref C :: bm).dropWhile (· != .ref D)).drop 1) rfl X₂ ?_ (I₂.type.andThen (looks_subIn X₂ T.veC)) (ks_ne X₂ I₂ hcl) (by decide) ?_
  · exact fun A Q E s k q => wpAny_bind ((looks_clsIn X₂ hcl) A _ E s k (wpAny_pure q))
  · have := T.sup
    unfold ks_superIn at this
    rw [hcl] at this
    exact this
  have k3 : ∀ b o, h₂.get? b = some o → (h₂.push (kxs_mw "ValueError.__init__" x)).get? b = some o := fun b o e => Heap.get?_push_of_some _ e
  have hu : (h₂.push (kxs_mw "ValueError.__init__" x)).get? h₂.objs.size = some (kxs_mw "ValueError.__init__" x) := Heap.get?_push_at rfl rfl
  have hns3 := (hns.keeps k2).keeps k3
  refine kxs_callWith (i := "ValueError.__init__") (x := x) (by rfl) (evalArgs_plain ?_)
  refine spliced_more (ldX (v := v) hns3 (by first | rfl | with_unfolding_all rfl | kernel_rfl) (spliced_none ⟨hu, ?_⟩)) (by rfl)
  refine err_bound T (X₂.keeps k3) hu (k3 _ _ hx₂) (one_size v) ?_
  intro h₄ t1 k4 hx₄
  have X₄ : K.In h₄ := kept_but (X₂.keeps k3) hnx k4
  obtain ⟨oL, es, ep, hoL, rL⟩ := hns3
  have hns4 : h₄.Ns L (fun y => [(("self" : Str), Value.ref x), ("code", v)].reverse.lookup y) := ⟨oL, es, ep, k4 _ _ hxL hoL, rL⟩
  have kAll : ∀ b o, b ≠ x → s.heap.get? b = some o → h₄.get? b = some o := fun b o hb e => k4 b o hb (k3 b o (k2 b o (k b o e)))
  -- self.code = code
  refine ks_wpAt_execs_cons (wpAt_of_wpAny (plainObj_wpAny_Assign_Attribute ?_))
  refine ldX (v := v) hns4 (by first | rfl | with_unfolding_all rfl | kernel_rfl) (ldX (v := .ref x) hns4 (by first | rfl | with_unfolding_all rfl | kernel_rfl) ?_)
  refine set_plain X₄ (ox := excO C t1) (od := none) ⟨hx₄, rfl, rfl, trivial⟩ T.sa ?_
  refine exc_osa X₄ hx₄ hcl (show refsVE (.ref C :: bm) = true from hbm) rfl T.noN (fun h₅ tk₅ dx k₅ dn dne hx₅ hn₅ => ?_)
  have z4 : L < h₄.objs.size := hns4.lt
  refine wpAt_of_wpAny ?_
  exact wpAny_execs_nil (hq h₅ _ dx ⟨fun b o hb e => k₅ b o hb (kAll b o hb e), ⟨t1, hx₅⟩, by rw [← hL]; exact Nat.le_of_lt (Nat.lt_of_lt_of_le z4 dn), dne, hn₅⟩)
theorem err_made (T : ErrTxt P K mg nm C D fI) {v : Value} {mb : Str → Option Value} (X : K.In s.heap) (hlim : s.heap.NoLimit) (hg : s.heap.Ns mainGlobals mg) (hb : s.heap.Ns builtinsNs mb) (hmb : mb "super" = bootBuiltins "super") (hroom : A.depth + 1 < recursionLimit)
    (hq : ∀ h' tk e d, ErrMade s.heap h' e C d v → R (.ok (.ret (.ref e))) { s with heap := h', toks := tk }) :
    codeAny (model P w) A (.call (.ref C) ⟨[v], []⟩) R s := by
  obtain ⟨nm, q, N, bs, bm, sn, sub, ab, col, dd, k0, k1, k2, k3, k5, hC, hbm⟩ := T.cls
  obtain ⟨hp, g, dr, tk, os⟩ := s
  have k : ∀ b o, hp.get? b = some o → ((hp.push (kdv_tup [v])).push (excO C hp.objs.size)).get? b = some o := fun b o e => Heap.get?_push_of_some _ (Heap.get?_push_of_some _ e)
  have hget : ((hp.push (kdv_tup [v])).push (excO C hp.objs.size)).get? (hp.objs.size + 1) = some (excO C hp.objs.size) := by heap_get
  have hnx : K.lookup (hp.objs.size + 1) = none := by
    cases e : K.lookup (hp.objs.size + 1) with
    | none => rfl
    | some o =>
      have z : hp.get? (hp.objs.size + 1) = some o := X _ _ e
      exact absurd (Nat.lt_of_succ_lt (Heap.lt_size z)) (Nat.lt_irrefl _)
  refine call_own F.excBase_ValueError (fun X => refsVE_contains X bm hbm) (X _ _ hC) (looks_findIn X T.iC) (fun self => bind_fn X self T.tC) (one_size v) ?_
  refine err_init (s := ⟨(hp.push (kdv_tup [v])).push (excO C hp.objs.size), g, dr, tk, os⟩) T (X.keeps k) (hlim.keeps k) (hg.keeps k) (hb.keeps k) hmb hget hnx ?_ fun h' tk' dx ⟨k', ⟨t1, hx⟩, dn, dne, hns⟩ => ?_
  · show A.depth + 1 < recursionLimit
    exact hroom
  · have old : ∀ b o, hp.get? b = some o → h'.get? b = some o := fun b o e => k' b o (Nat.ne_of_lt (Nat.lt_succ_of_lt (Heap.lt_size e))) (k b o e)
    have z : hp.objs.size + 1 + 1 ≤ dx := by
      first
        | (simpa only [Heap.size_push] using dn)
        | exact dn
        | (have q := dn; rw [Heap.size_push, Heap.size_push] at q; exact q)
    exact ⟨rfl, hq h' tk' (hp.objs.size + 1) dx ⟨old, Nat.le_succ _, ⟨_, _, hx, rfl, rfl, rfl, rfl⟩, Nat.le_trans (Nat.le_trans (Nat.le_succ _) (Nat.le_succ _)) z, dne, hns⟩⟩
end
end Dn
namespace Dn
open PySem PySem.Spec PyProof.Rows L2
theorem relO_code {v : V} {v' : Value} (r : RelV v v') (f : Str) : RelO (List.lookup f [(("code" : Str), v)]) (if f = "code" then some v' else none) := by
  by_cases hw : f = "code"
  · subst hw
    rw [if_pos rfl]
    have q : List.lookup ("code" : Str) [(("code" : Str), v)] = some v := by simp [List.lookup]
    rw [q]
    exact r
  · rw [if_neg hw]
    have qw : (f == ("code" : Str)) = false := by simpa using hw
    have q2 : List.lookup f [(("code" : Str), v)] = none := by simp [List.lookup, qw]
    rw [q2]
    trivial
section
variable {X : Cx} {nm : Str} {C D fI : Addr}
/-- nm(e) -/
def tMkErr (C : Addr) (ta : TA) : L2.St → Hp → XK → Prop := fun σ H Q => ta σ H fun vs H1 => ∃ v, vs = [v] ∧ ∀ d, H1 d = none → Q (.ref C) (some d) (upd H1 d (.xd [(("code" : Str), v)]))
theorem pmk_err {a : Expr} {ta : TA} {p pos : Pos} {k : Nat} (T : ErrTxt X.prog X.K X.mg nm C D fI) (hr : Room (k + 1) X.A) (ha : PA X [a] ta) (hg : Gl X nm := by rfl) (hdb : (nm == ("__debug__" : Str)) = false := by decide)
    (he : starEach (a :: []) X.env = (false, eval a X.env) :: starEach [] X.env := by rfl) (hpl : (backTo pos (starEach [] X.env)).any (·.1) = false := by rfl) :
    PMk X (.Call (.Name nm p) [a] [] pos) (tMkErr C ta) := by
  intro pins s σ H Q I h
  refine wpAny_Call_Name_kw (ld_glob I hg T.gC ?_ hdb)
  refine PySem.W.callWith_K (h₀ := X.base) I.ok.mod.kin T.kC (thn (ha.run pos pins s σ H _ I h) fun us s1 hh => ?_) he hpl
  obtain ⟨vs, H1, I1, r1, v, ev, q1⟩ := hh
  subst ev
  refine ⟨I1.kIn, ?_⟩
  cases r1 with
  | cons rv rn =>
    rename_i v' us'
    cases rn
    show wpAny _ _ (call (.ref C) [v']) _ _ _
    have hlim := I1.nolimit
    obtain ⟨mb, hblt, hmb⟩ := I1.ok.mod.blt
    have hg1 := I1.ok.mod.glob.keeps I1.bk
    have hb1 := hblt.keeps I1.bk
    obtain ⟨hp, g, dr, tk, os⟩ := s1
    refine wpAny_call (err_made T I1.kIn hlim hg1 hb1 (hmb "super" (by decide)) (by have := hr.dp; omega) fun h' tk' e d M => ?_)
    show MkP X pins σ Q (.ref e) ⟨h', g, dr, tk', os⟩
    obtain ⟨oe, fv, hoe, hc, hd, hdat, h1⟩ := M.obj
    have hns := M.ns
    obtain ⟨G', g1, g2⟩ := restrict h' fun b => decide (b ≠ e)
    have gk : ∀ b, b ≠ e → G'.get? b = h'.get? b := fun b hb => g1 b (decide_eq_true hb)
    have ge : G'.get? e = none := g2 e (by simp)
    have old : ∀ b o, hp.get? b = some o → G'.get? b = some o := fun b o q => (gk b (Nat.ne_of_lt (Nat.lt_of_lt_of_le (Heap.lt_size q) M.new))).trans (M.keep b o q)
    have ob : ObjOk X.prog X.w (upd H1 d (.xd [(("code" : Str), v)])) G' d (.xd [(("code" : Str), v)]) :=
      ⟨_, hns.at (fun o q => (gk d M.dne).trans q), fun f => relO_code rv f⟩
    have J : Inv X pins σ (upd H1 d (.xd [(("code" : Str), v)])) ⟨G', g, dr, tk', os⟩ := I1.laid (t' := tk') old M.dbig ob
    refine ⟨e, oe, fv, ⟨G', g, dr, tk', os⟩, _, .ref C, some d, rfl, J, fun b o q => ?_, ge, hoe, ⟨hc, hd⟩, hdat, h1, ?_, rfl, I1.bare, raises_own T.exC T.tyC, q1 d (I1.hok.fresh M.dbig)⟩
    · by_cases hb : b = e
      · have q' : G'.get? b = some o := q
        rw [hb, ge] at q'; cases q'
      · exact (gk b hb).symm.trans q
    · rw [upd_ne (Ne.symm M.dne)]
      exact I1.hok.fresh M.new
/-- raise nm(m) -/
def sRaise (nm : Str) (m : EM) : SM := fun vs st => (m vs st).thn vs fun d st => .exc ⟨nm, [("code", d)]⟩ vs st
theorem st_raise {W : WX} {a : Expr} {m : EM} {p pos pos2 : Pos} {k : Nat} (hc : X.calm = true) (T : ErrTxt X.prog X.K X.mg nm C D fI) (hr : Room (k + 1) X.A) (tk : Takes X W) (ha : ME X W a m) (hg : Gl X nm := by rfl) (hdb : (nm == ("__debug__" : Str)) = false := by decide)
    (he : starEach (a :: []) X.env = (false, eval a X.env) :: starEach [] X.env := by rfl) (hpl : (backTo pos (starEach [] X.env)).any (·.1) = false := by rfl) :
    MS X W (.Raise (some (.Call (.Name nm p) [a] [] pos)) none pos2) (sRaise nm m) := (ps_raise hc tk (pmk_err T hr (ma_cons ha ma_nil he) hg hdb he hpl)).of fun E σ H h => by
  obtain ⟨vs, st, μ, G, F, re, k, h⟩ := h
  refine ⟨vs, st, μ, G, F, re, k, ?_⟩
  unfold sRaise at h
  unfold aCons aNil
  cases hd : m vs st with
  | bad => rw [hd] at h; exact h.elim
  | exc ex st1 => rw [hd] at h; exact fun μ1 G1 H1 cls dd f1 k1 x1 => h μ1 G1 H1 σ cls dd f1 k1 (re.fut f1) x1
  | ok d st1 =>
    rw [hd] at h
    intro μ1 G1 H1 f1 k1 ws rws
    obtain ⟨w, r, rfl, rw1, rr⟩ := reps_cons rws
    cases reps_nil rr
    refine ⟨w, rfl, fun d hd => ?_⟩
    have kn := k1.learn (o := .xd [(("code" : Str), w)]) hd
    have fut : Fut μ1 G1 μ1 (upd G1 d (.xd [(("code" : Str), w)])) := .know (.new (k1.ex.free hd))
    refine h _ _ _ σ _ _ (f1.trans fut) kn (re.fut (f1.trans fut)) ⟨C, rfl, T.gC, [(("code" : Str), w)], upd_same, w, [], rfl, rw1.fut fut, rfl⟩
end
end Dn
/-! try: .. except X as e: .. -/
namespace Dn
open PySem PySem.Spec PyProof.Rows L2
/-- what does not depend on where the exception stands -/
noncomputable def unif (f : Addr → Addr → Rs) : Rs := open Classical in if ∀ a b c d, f a b = f c d then f 0 0 else .bad
theorem unif_of {f : Addr → Addr → Rs} {r : Rs} (h : ∀ a b, f a b = r) : unif f = r := by
  unfold unif
  rw [if_pos fun a b c d => (h a b).trans (h c d).symm]
  exact h 0 0
theorem unif_bad {f : Addr → Addr → Rs} (a b : Addr) : unif f = f a b ∨ unif f = .bad := by
  unfold unif
  by_cases h : ∀ a b c d, f a b = f c d
  · rw [if_pos h]; exact .inl (h _ _ _ _)
  · rw [if_neg h]; exact .inr rfl
/-- the name of the exception is gone behind the suite -/
def dropI (i : Nat) : Rs → Rs
  | .nx vs st => .nx (vs.set i none) st
  | .ret d st => .ret d st
  | .brk vs st => .brk (vs.set i none) st
  | .ct vs st => .ct (vs.set i none) st
  | _ => .bad
/-- its fields -/
def exD (e : Exn) : Option (List D) := match e.fs with
  | [(n, d)] => if n = "code" then some [d] else none
  | _ => none
/-- what a clause takes: its own class; CallError takes all -/
def catches (c x : Str) : Bool := c == x || x == "CallError"
noncomputable def sTryAs (names : List Str) (x : Str) (i : Nat) (b : SM) (h : Addr → Addr → SM) : SM := fun vs st => match b vs st with
  | .exc e vs1 st1 => if names.contains e.c = true then (if catches e.c x = true then (match exD e with
      | some ds => unif fun a dd => dropI i (h a dd (vs1.set i (some (.exn a dd ds))) st1)
      | none => .bad) else .exc e vs1 st1) else .bad
  | r => r
noncomputable def sTryOn (names : List Str) (x : Str) (b : SM) (h : SM) : SM := fun vs st => match b vs st with
  | .exc e vs1 st1 => if names.contains e.c = true then (if catches e.c x = true then (match h vs1 st1 with
      | .exc _ _ _ => .bad
      | r => r) else .exc e vs1 st1) else .bad
  | r => r
/-- e.code, e the exception of this suite -/
def eExn (i : Nat) (a dd : Addr) : EM := fun vs st => match getV vs i with
  | some (.exn a' dd' (d :: ds)) => if a' = a ∧ dd' = dd then .ok d st else .bad
  | _ => .bad
/-- what is needed for reading a field of an error of the class at C -/
structure ErrFld (K : PySem.W.Frag) (C : Addr) : Prop where
  ga : PySem.W.findIn K (.ref C) "__getattribute__" = some (some (.builtin "BaseException.__getattribute__"))
  gg : PySem.W.findIn K (.ref C) "__getattr__" = some none
  exC : PySem.W.subIn K (.ref C) (.type "BaseException") = some true
  hdC : PySem.W.hasDictIn K C = true
  noN : PySem.W.findIn K (.ref C) "code" = some none
theorem ErrTxt.fld {P : Program} {K : PySem.W.Frag} {mg : Str → Option Value} {nm : Str} {C D fI : Addr} (T : ErrTxt P K mg nm C D fI) : ErrFld K C := ⟨T.ga, T.gg, T.exC, T.hdC, T.noN⟩
section
variable {X : Cx}
theorem m_code {a : Addr} {oe : Obj} {C dd : Addr} {pn : List (Addr × Obj)} {W : WX} {x : Str} {np pos : Pos} {i : Nat} (T : ErrFld X.K C) (hz : Zc (.ref C) (some dd) oe) (hf : ∃ vs, oe.data = .fields vs) (hN : (X.suite a ((a, oe) :: pn)).N[i]? = some x := by rfl)
    (hv : Vis (X.suite a ((a, oe) :: pn)).env.scope x := by first | exact Or.inl rfl | exact Or.inr (Or.inl rfl) | exact Or.inr (Or.inr rfl)) (hd : (x == ("__debug__" : Str)) = false := by decide) (hcd : (x == ("__classdict__" : Str)) = false := by decide)
    (hb : attributeBase (.Name x np) "code" X.env (eval (.Name x np) X.env) = eval (.Name x np) X.env := by rfl) :
    ME (X.suite a ((a, oe) :: pn)) W (.Attribute (.Name x np) "code" pos) (eExn i a dd) := by
  refine ⟨fun pins s σ H Q I h => ?_⟩
  refine attr_of hb (thn ((pe_var (X := X.suite a ((a, oe) :: pn)) hN hv hd hcd).run pins s σ H (fun v H' => H' = H ∧ σ[i]? = some (some v)) I ?_) fun u s1 hh => ?_)
  · obtain ⟨vs, st, μ, G, F, re, k, h⟩ := h
    unfold eExn getV at h
    cases hv : vs[i]? with
    | none => rw [hv] at h; exact h.elim
    | some o =>
      cases o with
      | none => rw [hv] at h; exact h.elim
      | some d =>
        obtain ⟨w, hw, _⟩ := re.get i d hv
        exact ⟨w, hw, rfl, hw⟩
  obtain ⟨v, H1, I1, rx, rfl, hσ⟩ := hh
  obtain ⟨vs, st, μ, G, F, re, k, h⟩ := h
  unfold eExn getV at h
  cases hv : vs[i]? with
  | none => rw [hv] at h; exact h.elim
  | some o =>
    cases o with
    | none => rw [hv] at h; exact h.elim
    | some d =>
      rw [hv] at h
      obtain ⟨w, hw, rw1⟩ := re.get i d hv
      rw [hσ] at hw
      cases hw
      cases d with
      | exn a' dd' ds =>
        cases ds with
        | nil => exact h.elim
        | cons d ds =>
          have h' : Done X.K X.mg W σ μ G F (if a' = a ∧ dd' = dd then Re.ok d st else .bad) (Fin X.K Q) := h
          by_cases hc : a' = a ∧ dd' = dd
          · obtain ⟨rfl, rfl⟩ := hc
            rw [if_pos ⟨rfl, rfl⟩] at h'
            obtain ⟨ws, rfl, hg, rs⟩ := rep_exn rw1
            obtain ⟨w, ws', rfl, rw2, _⟩ := reps_cons rs
            obtain rfl : u = Value.ref a' := rx
            obtain ⟨ha, _⟩ := I1.pin (a', oe) (List.mem_append_left _ List.mem_cons_self)
            obtain ⟨fv, hd⟩ := hf
            have hgs : H1 dd' = some (.xd (exN.zip (w :: ws'))) := k.ex _ _ hg
            obtain ⟨mA, hns, hr⟩ := I1.hok dd' _ hgs
            obtain ⟨od, ho, hl⟩ := lookIn_ns hns
            have l : List.lookup ("code" : Str) (exN.zip (w :: ws')) = some w := by simp [exN, List.lookup]
            obtain ⟨u, hu, ru⟩ := RelO.some_of (v := w) (o := mA "code") (by rw [← l]; exact hr "code")
            have J : PySem.W.InstAt s1.heap a' oe C (some od) := ⟨ha, hz.1, by unfold PySem.W.notCls; rw [hd] <;> rfl, by rw [hz.2]; exact ho⟩
            exact HandSPX.exc_get I1.kIn J T.ga T.gg T.exC (PySem.W.findObj_own T.hdC T.noN rfl (by rw [hl, hu])) (handed_of ru) ⟨w, H1, I1.tok _, ru, fin_here k h' rw2⟩
          · rw [if_neg hc] at h'; exact h'.elim
      | _ => exact h.elim
theorem RepE.clear {K : PySem.W.Frag} {μ : List Addr} {G : Hp} {vs : Vars} {σ : L2.St} {i : Nat} (re : RepE K μ G vs σ) : RepE K μ G (vs.set i none) (σ.set i none) := by
  refine ⟨by simp [re.len], fun j d e => ?_⟩
  by_cases hij : i = j
  · subst hij
    rw [List.getElem?_set] at e
    split at e
    · split at e <;> cases e
    · exact absurd rfl ‹_›
  · rw [List.getElem?_set_ne hij] at e ⊢
    exact re.get j d e
theorem RepX.get {K : PySem.W.Frag} {mg : Str → Option Value} {μ : List Addr} {G : Hp} {e : Exn} {cls : Value} {d : Option Addr} {ds : List D} {C : Addr} (h : RepX K mg μ G e cls d) (hC : mg e.c = some (.ref C)) (hx : exD e = some ds) (a : Addr) :
    cls = .ref C ∧ ∃ dd, d = some dd ∧ Rep K μ G (.exn a dd ds) (.ref a) := by
  obtain ⟨C', rfl, e2, h⟩ := h
  rw [hC] at e2
  cases e2
  refine ⟨rfl, ?_⟩
  unfold exD at hx
  split at hx
  · rename_i n d' hfs
    split at hx
    · rename_i hn
      cases hx
      subst hn
      cases d with
      | none =>
        rw [hfs] at h
        cases h
      | some dd =>
        obtain ⟨gs, hg, hr⟩ := h
        rw [hfs] at hr
        obtain ⟨v, s, rfl, rv, rfl⟩ := hr
        exact ⟨dd, rfl, .exn (vs := [v]) hg (.cons rv .nil)⟩
    · cases hx
  · cases hx
/-- what is known of the errors that may come: their classes, and whether the clause takes them -/
def ErrsOk (X : Cx) (names : List Str) (x : Str) (cv : Value) : Prop := ∀ c ∈ names, ∃ C, X.mg c = some (.ref C) ∧ ErrFld X.K C ∧ PySem.W.exmOne X.K (.ref C) cv = some (catches c x)
variable {W : WX} {x n : Str} {c : Value} {i : Nat} {body suite : List Stmt} {b₀ : Stmt} {np pos pos' : Pos} {mb : SM} {names : List Str}
theorem st_try_as {hm : Addr → Addr → SM} (hs : X.stack = X.env :: X.outer) (hf : X.env.frame = some X.env.locals) (hN : X.N.Nodup) (hi : X.N[i]? = some n) (hln : X.env.kindOf n = some .local) (hc : Names X x c) (tk : Takes X W) (he : ErrsOk X names x c)
    (hb : ∀ (W : WX) (pn : List (Addr × Obj)) (xe : Value → Shared → Prop), Takes (X.tr pn xe) W → PassesOwn (model X.prog X.w) X.A X.env xe → MSs (X.tr pn xe) W body mb)
    (hsu : ∀ (a : Addr) (oe : Obj) (C dd : Addr) (pn : List (Addr × Obj)), ErrFld X.K C → Zc (.ref C) (some dd) oe → (∃ vs, oe.data = .fields vs) → MSs (X.suite a ((a, oe) :: pn)) (fun _ _ _ _ => False) (b₀ :: suite) (hm a dd)) :
    MS X W (.Try body [.ExceptHandler (some (.Name x np)) (some n) (b₀ :: suite) pos'] [] [] pos) (sTryAs names x i mb hm) := by
  refine (ps_try_as (tb := fun W => tS X.K X.mg W mb) (ts := fun a cls d => fun E σ H => ∃ C dd, cls = .ref C ∧ d = some dd ∧ ErrFld X.K C ∧ tS X.K X.mg (fun _ _ _ _ => False) (hm a dd) E σ H) (Wout := W) hs hf hN hi hln hc tk hb
    (fun a oe cls d pn hz hv => ⟨fun pins s σ H D I ⟨C, dd, e1, e2, ef, h⟩ => by subst e1; subst e2; exact (hsu a oe C dd pn ef hz hv).run pins s σ H D I h⟩)).of fun E σ H h => ?_
  obtain ⟨vs, st, μ, G, F, re, k, h⟩ := h
  refine ⟨vs, st, μ, G, F, re, k, ?_⟩
  unfold sTryAs at h
  cases hr : mb vs st with
  | bad => rw [hr] at h; exact h
  | nx _ _ => rw [hr] at h; exact h
  | ret _ _ => rw [hr] at h; exact h
  | brk _ _ => rw [hr] at h; exact h
  | ct _ _ => rw [hr] at h; exact h
  | exc e vs1 st1 =>
    rw [hr] at h
    intro μ1 G1 H1 σ1 cls dd f1 k1 re1 x1
    have h : DoneS X.K X.mg W μ G F (if names.contains e.c = true then (if catches e.c x = true then (match exD e with
      | some ds => unif fun a dd => dropI i (hm a dd (vs1.set i (some (.exn a dd ds))) st1)
      | none => .bad) else .exc e vs1 st1) else .bad) E := h
    by_cases hn : names.contains e.c = true
    · rw [if_pos hn] at h
      obtain ⟨C, hC, hfl, hex⟩ := he e.c (by simpa using hn)
      obtain ⟨C', rfl, e2, hx⟩ := id x1
      rw [hC] at e2
      cases e2
      refine ⟨catches e.c x, hex, fun hy a ha => ?_, fun hno => ?_⟩
      · rw [if_pos hy] at h
        cases hd : exD e with
        | none => rw [hd] at h; exact h.elim
        | some ds =>
          rw [hd] at h
          obtain ⟨_, d1, rfl, rx⟩ := x1.get hC hd a
          refine ⟨C, d1, rfl, rfl, hfl, vs1.set i (some (.exn a d1 ds)), st1, μ1, G1, F, re1.set rx i, k1, ?_⟩
          have h : DoneS X.K X.mg W μ1 G1 F (unif fun a dd => dropI i (hm a dd (vs1.set i (some (.exn a dd ds))) st1)) E := DoneS.fut f1 h
          rcases unif_bad (f := fun a dd => dropI i (hm a dd (vs1.set i (some (.exn a dd ds))) st1)) a d1 with q | q
          · rw [q] at h
            cases hh : hm a d1 (vs1.set i (some (.exn a d1 ds))) st1 with
            | bad => rw [hh] at h; exact h.elim
            | exc _ _ _ => rw [hh] at h; exact h.elim
            | ret d st => rw [hh] at h; exact h
            | nx vs2 st2 => rw [hh] at h; exact fun a b c d e f g => h a b c _ e f g.clear
            | brk vs2 st2 => rw [hh] at h; exact fun a b c d e f g => h a b c _ e f g.clear
            | ct vs2 st2 => rw [hh] at h; exact fun a b c d e f g => h a b c _ e f g.clear
          · rw [q] at h; exact h.elim
      · rw [if_neg (by rw [hno]; decide)] at h
        exact h μ1 G1 H1 σ1 _ dd f1 k1 re1 x1
    · rw [if_neg hn] at h; exact h.elim
theorem st_try_on {hm : SM} (hs : X.stack = X.env :: X.outer) (hf : X.env.frame = some X.env.locals) (hc : Names X x c) (tk : Takes X W) (he : ErrsOk X names x c)
    (hb : ∀ (W : WX) (pn : List (Addr × Obj)) (xe : Value → Shared → Prop), Takes (X.tr pn xe) W → PassesOwn (model X.prog X.w) X.A X.env xe → MSs (X.tr pn xe) W body mb)
    (hsu : ∀ (a : Addr) (oe : Obj) (pn : List (Addr × Obj)), MSs (X.suite a ((a, oe) :: pn)) (fun _ _ _ _ => False) (b₀ :: suite) hm) :
    MS X W (.Try body [.ExceptHandler (some (.Name x np)) none (b₀ :: suite) pos'] [] [] pos) (sTryOn names x mb hm) := by
  refine (ps_try_only (tb := fun W => tS X.K X.mg W mb) (ts := fun a cls d => tS X.K X.mg (fun _ _ _ _ => False) hm) (Wout := W) hs hf hc tk hb (fun a oe cls d pn hz hv => hsu a oe pn)).of fun E σ H h => ?_
  obtain ⟨vs, st, μ, G, F, re, k, h⟩ := h
  refine ⟨vs, st, μ, G, F, re, k, ?_⟩
  unfold sTryOn at h
  cases hr : mb vs st with
  | bad => rw [hr] at h; exact h
  | nx _ _ => rw [hr] at h; exact h
  | ret _ _ => rw [hr] at h; exact h
  | brk _ _ => rw [hr] at h; exact h
  | ct _ _ => rw [hr] at h; exact h
  | exc e vs1 st1 =>
    rw [hr] at h
    intro μ1 G1 H1 σ1 cls dd f1 k1 re1 x1
    have h : DoneS X.K X.mg W μ G F (if names.contains e.c = true then (if catches e.c x = true then (match hm vs1 st1 with
      | .exc _ _ _ => .bad
      | r => r) else .exc e vs1 st1) else .bad) E := h
    by_cases hn : names.contains e.c = true
    · rw [if_pos hn] at h
      obtain ⟨C, hC, hfl, hex⟩ := he e.c (by simpa using hn)
      obtain ⟨C', rfl, e2, hx⟩ := id x1
      rw [hC] at e2
      cases e2
      refine ⟨catches e.c x, hex, fun hy a ha => ?_, fun hno => ?_⟩
      · rw [if_pos hy] at h
        refine ⟨vs1, st1, μ1, G1, F, re1, k1, ?_⟩
        have h := DoneS.fut f1 h
        cases hh : hm vs1 st1 with
        | exc _ _ _ => rw [hh] at h; exact h.elim
        | bad => rw [hh] at h; exact h
        | nx _ _ => rw [hh] at h; exact h
        | ret _ _ => rw [hh] at h; exact h
        | brk _ _ => rw [hh] at h; exact h
        | ct _ _ => rw [hh] at h; exact h
      · rw [if_neg (by rw [hno]; decide)] at h
        exact h μ1 G1 H1 σ1 _ dd f1 k1 re1 x1
    · rw [if_neg hn] at h; exact h.elim
end
end Dn
/-! Answers that may be exceptions. -/
namespace Dn
open PySem PySem.Spec PyProof.Rows L2
def wpXQ {α : Type} (r : Re α) (Q : α → Store → Prop) (E : Exn → Store → Prop) : Prop := match r with
  | .ok a st => Q a st
  | .exc e st => E e st
  | _ => False
structure wpX {α : Type} (r : Re α) (Q : α → Store → Prop) (E : Exn → Store → Prop) (_ : Lk Q := Unit.unit) (_ : Lk E := Unit.unit) : Prop where
  of : wpXQ r Q E
def wpSXQ (r : Rs) (P : Po) (E : Exn → Vars → Store → Prop) : Prop := match r with
  | .nx vs st => P.n vs st
  | .ret d st => P.r d st
  | .brk vs st => P.b vs st
  | .ct vs st => P.c vs st
  | .exc e vs st => E e vs st
  | _ => False
structure wpSX (r : Rs) (P : Po) (E : Exn → Vars → Store → Prop) (_ : Lk P := Unit.unit) (_ : Lk E := Unit.unit) : Prop where
  of : wpSXQ r P E
theorem wpX_q {α : Type} {r : Re α} {Q : α → Store → Prop} {E : Exn → Store → Prop} : wpX r Q E = wpXQ r Q E := propext ⟨fun h => h.of, fun h => ⟨h⟩⟩
theorem wpSX_q {r : Rs} {P : Po} {E : Exn → Vars → Store → Prop} : wpSX r P E = wpSXQ r P E := propext ⟨fun h => h.of, fun h => ⟨h⟩⟩
section
variable {α β : Type} {r : Re α} {Q Q' : α → Store → Prop} {E E' : Exn → Store → Prop}
theorem wpX_mono (h : wpX r Q E) (k : ∀ a st, Q a st → Q' a st) (k2 : ∀ e st, E e st → E' e st) : wpX r Q' E' := by
  cases r with
  | ok a st => exact ⟨k a st h.of⟩
  | exc e st => exact ⟨k2 e st h.of⟩
  | bad => exact ⟨h.of⟩
@[simp] theorem wpX_ok {a : α} {st : Store} : wpX (.ok a st) Q E = Q a st := by rw [wpX_q]; rfl
@[simp] theorem wpX_exc {e : Exn} {st : Store} : wpX (.exc e st : Re α) Q E = E e st := by rw [wpX_q]; rfl
theorem wpX_bad : wpX (.bad : Re α) Q E = False := by rw [wpX_q]; rfl
@[simp] theorem wpX_bind {k : α → Store → Re β} {Q : β → Store → Prop} : wpX (r.bind k) Q E = wpX r (fun a st => wpX (k a st) Q E) E := by
  cases r with
  | bad => rw [wpX_bad]; exact wpX_bad
  | exc e st => rw [wpX_exc]; exact wpX_exc
  | ok a st => rw [wpX_ok]; rfl
theorem wpX_of (h : wp r Q) : wpX r Q E := by
  cases r with
  | ok a st => rw [wpX_ok]; rw [wp_ok] at h; exact h
  | bad => exact h.of.elim
  | exc _ _ => exact h.of.elim
theorem wp_of (h : wpX r Q fun _ _ => False) : wp r Q := by
  cases r with
  | ok a st => rw [wp_ok]; rw [wpX_ok] at h; exact h
  | bad => exact h.of.elim
  | exc _ _ => exact h.of.elim
theorem wpX_cases (h : wpX r Q E) : (∃ a st, r = .ok a st ∧ Q a st) ∨ ∃ e st, r = .exc e st ∧ E e st := by
  cases r with
  | ok a st => exact .inl ⟨a, st, rfl, h.of⟩
  | exc e st => exact .inr ⟨e, st, rfl, h.of⟩
  | bad => exact h.of.elim
@[simp] theorem wpSX_thn {vs : Vars} {k : α → Store → Rs} {P : Po} {E : Exn → Vars → Store → Prop} : wpSX (r.thn vs k) P E = wpX r (fun a st => wpSX (k a st) P E) (fun e st => E e vs st) := by
  cases r with
  | bad => rw [wpX_bad, wpSX_q]; rfl
  | exc e st => rw [wpX_exc, wpSX_q]; rfl
  | ok a st => rw [wpX_ok]; rfl
end
section
variable {r : Rs} {P P' : Po} {vs : Vars} {st : Store} {d : D} {b : SM} {E E' : Exn → Vars → Store → Prop}
theorem wpSX_mono (h : wpSX r P E) (k1 : ∀ vs st, P.n vs st → P'.n vs st) (k2 : ∀ d st, P.r d st → P'.r d st) (k3 : ∀ vs st, P.b vs st → P'.b vs st) (k4 : ∀ vs st, P.c vs st → P'.c vs st) (k5 : ∀ e vs st, E e vs st → E' e vs st) : wpSX r P' E' := by
  cases r with
  | nx vs st => exact ⟨k1 _ _ h.of⟩
  | ret d st => exact ⟨k2 _ _ h.of⟩
  | brk vs st => exact ⟨k3 _ _ h.of⟩
  | ct vs st => exact ⟨k4 _ _ h.of⟩
  | exc e vs st => exact ⟨k5 _ _ _ h.of⟩
  | bad => exact ⟨h.of⟩
@[simp] theorem wpSX_nx : wpSX (.nx vs st) P E = P.n vs st := wpSX_q
@[simp] theorem wpSX_ret : wpSX (.ret d st) P E = P.r d st := wpSX_q
@[simp] theorem wpSX_brk : wpSX (.brk vs st) P E = P.b vs st := wpSX_q
@[simp] theorem wpSX_ct : wpSX (.ct vs st) P E = P.c vs st := wpSX_q
@[simp] theorem wpSX_exc {e : Exn} : wpSX (.exc e vs st) P E = E e vs st := wpSX_q
theorem wpSX_bad : wpSX .bad P E = False := wpSX_q
@[simp] theorem wpSX_seq : wpSX (r.seq b) P E = wpSX r { P with n := fun vs st => wpSX (b vs st) P E } E := by
  cases r with
  | nx vs st => rw [wpSX_nx]; rfl
  | bad => rw [wpSX_bad]; exact wpSX_bad
  | ret d st => rw [wpSX_ret]; exact wpSX_ret
  | brk d st => rw [wpSX_brk]; exact wpSX_brk
  | ct d st => rw [wpSX_ct]; exact wpSX_ct
  | exc e d st => rw [wpSX_exc]; exact wpSX_exc
theorem wpSX_of (h : wpS r P) : wpSX r P E := by
  cases r with
  | nx vs st => exact ⟨h.of⟩
  | ret d st => exact ⟨h.of⟩
  | brk vs st => exact ⟨h.of⟩
  | ct vs st => exact ⟨h.of⟩
  | exc e vs st => exact h.of.elim
  | bad => exact h.of.elim
theorem wpS_of (h : wpSX r P fun _ _ _ => False) : wpS r P := by
  cases r with
  | nx vs st => exact ⟨h.of⟩
  | ret d st => exact ⟨h.of⟩
  | brk vs st => exact ⟨h.of⟩
  | ct vs st => exact ⟨h.of⟩
  | exc e vs st => exact h.of.elim
  | bad => exact h.of.elim
end
@[simp] theorem sRaise_eq {nm : Str} {m : EM} {vs : Vars} {st : Store} : sRaise nm m vs st = (m vs st).thn vs fun d st => .exc ⟨nm, [("code", d)]⟩ vs st := rfl
theorem gc_exn {st0 : Store} {e : Exn} {st : Store} (k : keepOk st0 st) (h : (e.fs.all fun p => lf p.2) = true) : gcExc st0 e st = .exc e (st.take st0.length) := by
  unfold gcExc
  rw [if_pos ⟨k, List.all_eq_true.mpr fun p hp => locsLt_mono (Nat.zero_le _) (List.all_eq_true.mp h p hp)⟩]
@[simp] theorem gc_exn_app {st0 l : Store} {c : Str} {d : D} (h : lf d = true) : gcExc st0 ⟨c, [("code", d)]⟩ (st0 ++ l) = .exc ⟨c, [("code", d)]⟩ st0 := by
  rw [gc_exn keepOk_app (by simp [h]), List.take_left']; rfl
@[simp] theorem gc_exn_same {st0 : Store} {c : Str} {d : D} (h : lf d = true) : gcExc st0 ⟨c, [("code", d)]⟩ st0 = .exc ⟨c, [("code", d)]⟩ st0 := by
  have := gc_exn_app (st0 := st0) (l := []) (c := c) h
  rw [List.append_nil] at this
  exact this
theorem wpX_fnD {n : Nat} {s : SM} {ds : List D} {st : Store} {Q : D → Store → Prop} {E : Exn → Store → Prop} : wpX (fnD n s ds st) Q E = wpSX (s (vars n ds) st) ⟨fun _ st' => wpX (gcRet st .non st') Q E, fun d st' => wpX (gcRet st d st') Q E, fun _ _ => False, fun _ _ => False⟩ (fun e _ st' => wpX (gcExc st e st') Q E) := by
  unfold fnD
  cases s (vars n ds) st with
  | exc e vs' st' => rw [wpSX_exc]
  | nx vs' st' => rw [wpSX_nx]
  | ret d st' => rw [wpSX_ret]
  | bad => rw [wpSX_bad]; exact wpX_bad
  | brk vs' st' => rw [wpSX_brk]; exact wpX_bad
  | ct vs' st' => rw [wpSX_ct]; exact wpX_bad
theorem wpX_fnK {n : Nat} {s : SM} {ds : List D} {st : Store} {Q : D → Store → Prop} {E : Exn → Store → Prop} : wpX (fnK n s ds st) Q E = wpSX (s (vars n ds) st) ⟨fun _ st' => Q .non st', fun d st' => Q d st', fun _ _ => False, fun _ _ => False⟩ (fun e _ st' => E e st') := by
  unfold fnK
  cases s (vars n ds) st with
  | exc e vs' st' => rw [wpSX_exc]; exact wpX_exc
  | nx vs' st' => rw [wpSX_nx]; exact wpX_ok
  | ret d st' => rw [wpSX_ret]; exact wpX_ok
  | bad => rw [wpSX_bad]; exact wpX_bad
  | brk vs' st' => rw [wpSX_brk]; exact wpX_bad
  | ct vs' st' => rw [wpSX_ct]; exact wpX_bad
theorem wpX_eq {α : Type} {r : Re α} {e : Exn} {st : Store} (h : wpX r (fun _ _ => False) fun x s => x = e ∧ s = st) : r = .exc e st := by
  cases r with
  | exc x s => obtain ⟨⟨rfl, rfl⟩⟩ := h; rfl
  | ok a s => exact h.of.elim
  | bad => exact h.of.elim
theorem wpSX_onS {bb : Bool} {t f : Rs} {P : Po} {E : Exn → Vars → Store → Prop} : wpSX (onS (.bl bb) t f) P E ↔ (bb = true → wpSX t P E) ∧ (bb = false → wpSX f P E) := by cases bb <;> simp
/-- a try whose clause takes it -/
theorem wpS_try {names : List Str} {x : Str} {i : Nat} {b : SM} {h : Addr → Addr → SM} {vs : Vars} {st : Store} {P : Po}
    (hb : wpSX (b vs st) P fun e vs1 st1 => names.contains e.c = true ∧ catches e.c x = true ∧ ∃ ds r, exD e = some ds ∧ (∀ a dd, dropI i (h a dd (vs1.set i (some (.exn a dd ds))) st1) = r) ∧ wpS r P) : wpS (sTryAs names x i b h vs st) P := by
  unfold sTryAs
  cases hr : b vs st with
  | bad => rw [hr] at hb; exact hb.of.elim
  | exc e vs1 st1 =>
    rw [hr, wpSX_exc] at hb
    obtain ⟨h1, h2, ds, r, h3, h4, h5⟩ := hb
    simp only [h1, h2, h3, if_true]
    rw [unif_of h4]
    exact h5
  | nx _ _ => rw [hr] at hb; exact ⟨hb.of⟩
  | ret _ _ => rw [hr] at hb; exact ⟨hb.of⟩
  | brk _ _ => rw [hr] at hb; exact ⟨hb.of⟩
  | ct _ _ => rw [hr] at hb; exact ⟨hb.of⟩
theorem wpS_tryOn {names : List Str} {x : Str} {b h : SM} {vs : Vars} {st : Store} {P : Po}
    (hb : wpSX (b vs st) P fun e vs1 st1 => names.contains e.c = true ∧ catches e.c x = true ∧ wpS (h vs1 st1) P) : wpS (sTryOn names x b h vs st) P := by
  unfold sTryOn
  cases hr : b vs st with
  | bad => rw [hr] at hb; exact hb.of.elim
  | exc e vs1 st1 =>
    rw [hr, wpSX_exc] at hb
    obtain ⟨h1, h2, h3⟩ := hb
    simp only [h1, h2, if_true]
    cases hh : h vs1 st1 with
    | exc _ _ _ => rw [hh] at h3; exact h3.of.elim
    | bad => rw [hh] at h3; exact h3
    | nx _ _ => rw [hh] at h3; exact h3
    | ret _ _ => rw [hh] at h3; exact h3
    | brk _ _ => rw [hh] at h3; exact h3
    | ct _ _ => rw [hh] at h3; exact h3
  | nx _ _ => rw [hr] at hb; exact ⟨hb.of⟩
  | ret _ _ => rw [hr] at hb; exact ⟨hb.of⟩
  | brk _ _ => rw [hr] at hb; exact ⟨hb.of⟩
  | ct _ _ => rw [hr] at hb; exact ⟨hb.of⟩
@[simp] theorem dropI_nx {i : Nat} {vs : Vars} {st : Store} : dropI i (.nx vs st) = .nx (vs.set i none) st := rfl
@[simp] theorem dropI_ret {i : Nat} {d : D} {st : Store} : dropI i (.ret d st) = .ret d st := rfl
@[simp] theorem exD_one {c : Str} {d : D} : exD ⟨c, [("code", d)]⟩ = some [d] := rfl
@[simp] theorem eExn_eq {i : Nat} {a dd : Addr} {vs : Vars} {st : Store} : eExn i a dd vs st = match getV vs i with
  | some (.exn a' dd' (d :: ds)) => if a' = a ∧ dd' = dd then .ok d st else .bad
  | _ => .bad := rfl
theorem forGo_wpX {g : TM} {b : SM} {fg : List Nat} {gd : Store → Prop} {P : Po} {E : Exn → Vars → Store → Prop} (Inv : List D → Vars → Store → Prop)
    (hg : ∀ r vs st, Inv r vs st → gd st)
    (step : ∀ d r vs st, Inv (d :: r) vs st → ∃ vs1, g d vs = some vs1 ∧ wpSX (b vs1 st) ⟨fun vs2 st2 => Inv r (drp fg vs2) st2, P.r, fun vs2 st2 => P.n (drp fg vs2) st2, fun vs2 st2 => Inv r (drp fg vs2) st2⟩ E)
    (fin : ∀ vs st, Inv [] vs st → P.n vs st) : ∀ (ds : List D) (vs : Vars) (st : Store), Inv ds vs st → wpSX (forGo g b fg gd ds vs st) P E
  | [], vs, st, h => by
    unfold forGo
    rw [if_pos (hg _ _ _ h)]
    exact ⟨fin _ _ h⟩
  | d :: ds, vs, st, h => by
    unfold forGo
    rw [if_pos (hg _ _ _ h)]
    obtain ⟨vs1, e, w⟩ := step d ds vs st h
    rw [e]
    simp only
    cases hb : b vs1 st with
    | nx vs2 st2 => rw [hb] at w; exact forGo_wpX Inv hg step fin ds _ _ w.of
    | ct vs2 st2 => rw [hb] at w; exact forGo_wpX Inv hg step fin ds _ _ w.of
    | brk vs2 st2 => rw [hb] at w; exact ⟨w.of⟩
    | ret d2 st2 => rw [hb] at w; exact ⟨w.of⟩
    | bad => rw [hb] at w; exact w.of.elim
    | exc e vs2 st2 => rw [hb] at w; exact ⟨w.of⟩
theorem sFor_wpX {im : IM} {g : TM} {b : SM} {fg : List Nat} {vs : Vars} {st : Store} {P : Po} {E : Exn → Vars → Store → Prop} :
    wpSX (sFor im g b fg vs st) P E = wpX (im vs st) (fun it st => wpSX (forGo g b fg (grd it) it.1 (drp fg vs) st) P E) (fun e st => E e vs st) := by
  unfold sFor
  exact wpSX_thn
/-- a loop step by step -/
theorem forGo_nil {g : TM} {b : SM} {fg : List Nat} {gd : Store → Prop} {vs : Vars} {st : Store} (h : gd st) : forGo g b fg gd [] vs st = .nx vs st := by
  unfold forGo
  rw [if_pos h]
theorem forGo_cons {g : TM} {b : SM} {fg : List Nat} {gd : Store → Prop} {d : D} {ds : List D} {vs vs1 : Vars} {st : Store} {P : Po} {E : Exn → Vars → Store → Prop} (h : gd st) (hg : g d vs = some vs1)
    (hb : wpSX (b vs1 st) ⟨fun vs2 st2 => wpSX (forGo g b fg gd ds (drp fg vs2) st2) P E, P.r, fun vs2 st2 => P.n (drp fg vs2) st2, fun vs2 st2 => wpSX (forGo g b fg gd ds (drp fg vs2) st2) P E⟩ E) : wpSX (forGo g b fg gd (d :: ds) vs st) P E := by
  rw [forGo, if_pos h, hg]
  simp only
  cases hb1 : b vs1 st with
  | nx vs2 st2 => rw [hb1] at hb; exact hb.of
  | ct vs2 st2 => rw [hb1] at hb; exact hb.of
  | brk vs2 st2 => rw [hb1] at hb; exact ⟨hb.of⟩
  | ret d2 st2 => rw [hb1] at hb; exact ⟨hb.of⟩
  | bad => rw [hb1] at hb; exact hb.of.elim
  | exc e vs2 st2 => rw [hb1] at hb; exact ⟨hb.of⟩
end Dn
/-! Own errors: what the written part says of them. -/
namespace Dn
open PySem PySem.Spec PyProof.Rows L2 PySem.W PySem.HandSPX
def ErrT (P : Program) (K : PySem.W.Frag) (mg : Str → Option Value) (nm : Str) : Prop := ∃ C D fI, ErrTxt P K mg nm C D fI
/-- c's exceptions before a clause that names x -/
def ExmT (K : PySem.W.Frag) (mg : Str → Option Value) (c x : Str) : Prop := ∃ C Cx, mg c = some (.ref C) ∧ mg x = some (.ref Cx) ∧ ErrFld K C ∧ PySem.W.exmOne K (.ref C) (.ref Cx) = some (catches c x)
theorem errs_nil {X : Cx} {x : Str} {cv : Value} : ErrsOk X [] x cv := fun _ h => nomatch h
theorem errs_cons {X : Cx} {c x : Str} {l : List Str} {cv : Value} (hx : X.mg x = some cv) (h : ExmT X.K X.mg c x) (r : ErrsOk X l x cv) : ErrsOk X (c :: l) x cv := fun c' h' => by
  rcases List.mem_cons.mp h' with rfl | h'
  · obtain ⟨C, Cx, h1, h2, h3, h4⟩ := h
    rw [hx] at h2
    cases h2
    exact ⟨C, h1, h3, h4⟩
  · exact r c' h'
/-- all of a list of names before a clause -/
def ExmsT (K : PySem.W.Frag) (mg : Str → Option Value) (l : List Str) (x : Str) : Prop := (∃ Cx, mg x = some (.ref Cx)) ∧ ∀ c ∈ l, ExmT K mg c x
theorem ExmsT.ok {X : Cx} {l : List Str} {x : Str} (h : ExmsT X.K X.mg l x) : ∃ cv, X.mg x = some cv ∧ ErrsOk X l x cv := by
  obtain ⟨⟨Cx, hx⟩, h⟩ := h
  refine ⟨_, hx, ?_⟩
  induction l with
  | nil => exact errs_nil
  | cons c l ih => exact errs_cons hx (h c List.mem_cons_self) (ih fun c' h' => h c' (List.mem_cons_of_mem _ h'))
section
variable {X : Cx} {W : WX} {x n : Str} {i : Nat} {body suite : List Stmt} {b₀ : Stmt} {np pos pos' pos2 p : Pos} {mb : SM} {names : List Str} {nm : Str} {a : Expr} {m : EM} {k : Nat}
theorem st_raiseE (hc : X.calm = true) (T : ErrT X.prog X.K X.mg nm) (hr : Room (k + 1) X.A) (tk : Takes X W) (ha : ME X W a m) (hg : Gl X nm := by rfl) (hdb : (nm == ("__debug__" : Str)) = false := by decide)
    (he : starEach (a :: []) X.env = (false, eval a X.env) :: starEach [] X.env := by rfl) (hpl : (backTo pos (starEach [] X.env)).any (·.1) = false := by rfl) :
    MS X W (.Raise (some (.Call (.Name nm p) [a] [] pos)) none pos2) (sRaise nm m) := by
  obtain ⟨C, D, fI, T⟩ := T
  exact st_raise hc T hr tk ha hg hdb he hpl
theorem st_try_asE {hm : Addr → Addr → SM} (hs : X.stack = X.env :: X.outer) (hf : X.env.frame = some X.env.locals) (hN : X.N.Nodup) (hi : X.N[i]? = some n) (hln : X.env.kindOf n = some .local) (T : ExmsT X.K X.mg names x) (tk : Takes X W)
    (hb : ∀ (W : WX) (pn : List (Addr × Obj)) (xe : Value → Shared → Prop), Takes (X.tr pn xe) W → PassesOwn (model X.prog X.w) X.A X.env xe → MSs (X.tr pn xe) W body mb)
    (hsu : ∀ (a : Addr) (oe : Obj) (C dd : Addr) (pn : List (Addr × Obj)), ErrFld X.K C → Zc (.ref C) (some dd) oe → (∃ vs, oe.data = .fields vs) → MSs (X.suite a ((a, oe) :: pn)) (fun _ _ _ _ => False) (b₀ :: suite) (hm a dd))
    (hg : Gl X x := by rfl) (hdb : (x == ("__debug__" : Str)) = false := by decide) :
    MS X W (.Try body [.ExceptHandler (some (.Name x np)) (some n) (b₀ :: suite) pos'] [] [] pos) (sTryAs names x i mb hm) := by
  obtain ⟨cv, hx, he⟩ := T.ok
  exact st_try_as hs hf hN hi hln ⟨hg, hdb, .inl hx⟩ tk he hb hsu
theorem st_try_onE {hm : SM} (hs : X.stack = X.env :: X.outer) (hf : X.env.frame = some X.env.locals) (T : ExmsT X.K X.mg names x) (tk : Takes X W)
    (hb : ∀ (W : WX) (pn : List (Addr × Obj)) (xe : Value → Shared → Prop), Takes (X.tr pn xe) W → PassesOwn (model X.prog X.w) X.A X.env xe → MSs (X.tr pn xe) W body mb)
    (hsu : ∀ (a : Addr) (oe : Obj) (pn : List (Addr × Obj)), MSs (X.suite a ((a, oe) :: pn)) (fun _ _ _ _ => False) (b₀ :: suite) hm)
    (hg : Gl X x := by rfl) (hdb : (x == ("__debug__" : Str)) = false := by decide) :
    MS X W (.Try body [.ExceptHandler (some (.Name x np)) none (b₀ :: suite) pos'] [] [] pos) (sTryOn names x mb hm) := by
  obtain ⟨cv, hx, he⟩ := T.ok
  exact st_try_on hs hf ⟨hg, hdb, .inl hx⟩ tk he hb hsu
end
theorem along_ve (K : Frag) : alongIn K "__init__" veTail = some (some (.builtin "ValueError.__init__")) := by kernel_rfl
theorem err_mk {P : Program} {K : Frag} {h : Heap} {mg : Str → Option Value} {nm n q : Str} {C D fI N : Addr} {bs : List Value} {sn : List Str} {sub : List Value} {ab : Bool} {col : Option Bool} {dd : Option Addr} {m0 m1 m2 m3 m5 : Option Value}
    {oc : Value} {od : Option Addr} {doc pm : Value} {an : Option Addr} {cda cc : Addr} {ct : Value} {osl : Array (Option Value)} {p1 p2 a1 a2 a3 a4 a5 a6 q1 q2 q3 q4 : Pos} {ccl : Value} {cdd : Option Addr} {vs : Array Value} {ccs : Array (Option Value)} {file : Str} {tf : Tok} {cl : Value} {cld : Option Addr} {csl : Array (Option Value)} {cdD : ClassData}
    (X : K.In h) (G : h.Ns mainGlobals mg)
    (aC : nsIn K mainGlobals nm = some (some (.ref C)))
    (xC : K.lookup C = some (excClassObj n q C N bs (.ref D :: veTail) true sn sub ab col dd m0 m1 m2 m3 m5 "ValueError.__new__"))
    (sa : findIn K (.ref C) "__setattr__" = some (some (.builtin "object.__setattr__"))) (ga : findIn K (.ref C) "__getattribute__" = some (some (.builtin "BaseException.__getattribute__"))) (gg : findIn K (.ref C) "__getattr__" = some none) (nb : findIn K (.ref C) "code" = some none)
    (iC : findIn K (.ref C) "__init__" = some (some (.ref fI))) (tI : typeIn K (.ref fI) = some (.type "function"))
    (lI : K.lookup fI = some ⟨oc, od, .func (ksFn "__init__" "CallError.__init__" (erA p1 p2) (erB a1 a2 a3 a4 a5 a6 q1 q2 q3 q4) erS .none .none doc pm an (.ref cda) ct cc), osl⟩) (cI : codeIn K (.ref cda) "CallError.__init__" = true)
    (lc : K.lookup cda = some ⟨ccl, cdd, .fields vs, ccs⟩) (lcc : K.lookup cc = some ⟨cl, cld, .cell (some (.ref D)), csl⟩)
    (kC : keepIn K (.ref C) = true) (eC : subIn K (.ref C) (.type "BaseException") = some true) (vC : subIn K (.ref C) (.type "ValueError") = some true) (tC : typeIn K (.ref C) = some (.type "type")) (hC : hasDictIn K C = true)
    (clD : clsIn K D = some cdD) (sbD : mroIn K C (.ref D) = some true) (zs : nsIn K mainGlobals "super" = some none) (zy : nsIn K cStatics "thirdparty.any" = some none)
    (hne : (Value.ref C != Value.ref D) = true) (hv : vs[2]? = some (.str file tf)) (hfile : ((P.main.file : Str) == file) = true) (hline : (a3.endLine == a5.line) = true) (htop : (P.main.scope.names.lookup ("super" : Str)).isSome = false) :
    ErrTxt P K mg nm C D fI :=
  { gC := mg_of X G aC, cls := ⟨n, q, N, bs, _, sn, sub, ab, col, dd, m0, m1, m2, m3, m5, xC, by show refsVE veTail = true; decide +kernel⟩, sa := sa, ga := ga, gg := gg, noN := nb, iC := iC, tC := tI, kC := kC, exC := eC, veC := vC, tyC := tC, hdC := hC,
    exI := by
      unfold excInitIn
      rw [xC]
      have e : excTail veTail (Value.ref D :: veTail) = true := by
        show excTail veTail veTail = true
        decide +kernel
      simp [excClassObj, e],
    sup := by
      have hcl : (clsIn K C).map (·.mro) = some (.ref C :: .ref D :: veTail) := by unfold clsIn; rw [xC] <;> rfl
      unfold ks_superIn
      cases hc : clsIn K C with
      | none => rw [hc] at hcl; cases hcl
      | some cd =>
        rw [hc] at hcl
        have e : cd.mro = .ref C :: .ref D :: veTail := Option.some.inj hcl
        show alongIn K "__init__" ((cd.mro.dropWhile (· != .ref D)).drop 1) = _
        rw [e, List.dropWhile_cons, if_pos hne, List.dropWhile_cons, if_neg (by simp)]
        exact along_ve K,
    clD := ⟨cdD, clD⟩, sbD := sbD, noS := mg_none_of X G zs, noY := zy, top := htop,
    fn := ⟨_, _, _, _, _, _, _, _, _, _, _, _, _, _, _, _, _, _, _, _, _, _, _, _, _, _, _, _, _, _, hline, lI, cI, lc, hv, hfile, lcc⟩ }
theorem exm_of {K : Frag} {C S : Addr} {b : Bool} (h1 : subIn K (.ref S) (.type "BaseException") = some true) (h2 : isClsIn K S = true) (h3 : typeIn K (.ref S) = some (.type "type")) (h4 : subIn K (.ref C) (.ref S) = some b) : exmOne K (.ref C) (.ref S) = some b := by
  have e1 : (subIn K (.ref S) (.type "BaseException") == some true) = true := by rw [h1] <;> rfl
  have e2 : ((clsIn K S).isSome && typeIn K (.ref S) == some (.type "type")) = true := by
    have h2' : (clsIn K S).isSome = true := h2
    rw [h2', h3] <;> rfl
  show (if (subIn K (.ref S) (.type "BaseException") == some true) = true then (if ((clsIn K S).isSome && typeIn K (.ref S) == some (.type "type")) = true then subIn K (.ref C) (.ref S) else none) else none) = some b
  rw [if_pos e1, if_pos e2]
  exact h4
theorem exm_mk {P : Program} {K : Frag} {mg : Str → Option Value} {c x : Str} {C D fI S : Addr} {b : Bool} (T : ErrTxt P K mg c C D fI) (hx : mg x = some (.ref S)) (h1 : subIn K (.ref S) (.type "BaseException") = some true) (h2 : isClsIn K S = true) (h3 : typeIn K (.ref S) = some (.type "type")) (h4 : subIn K (.ref C) (.ref S) = some b)
    (hb : catches c x = b := by decide +kernel) : ExmT K mg c x := ⟨C, S, T.gC, hx, T.fld, by rw [hb]; exact exm_of h1 h2 h3 h4⟩
end Dn
/-! Instances of own classes: fields, methods, new ones. -/
namespace Dn
open PySem PySem.Spec PyProof.Rows L2
/-- classes and the names of their fields -/
abbrev Flds := List (Str × List Str)
def FldsT (K : PySem.W.Frag) (mg : Str → Option Value) (tab : Flds) : Prop := ∀ p ∈ tab, ∃ C, mg p.1 = some (.ref C) ∧ Cls K C ∧ ∀ f ∈ p.2, NoAttr K C f
def hasF (tab : Flds) (c f : Str) : Bool := tab.any fun p => p.1 == c && p.2.contains f
theorem FldsT.get {K : PySem.W.Frag} {mg : Str → Option Value} {tab : Flds} (h : FldsT K mg tab) {c f : Str} {C : Addr} (hC : mg c = some (.ref C)) (hf : hasF tab c f = true) : Cls K C ∧ NoAttr K C f := by
  unfold hasF at hf
  obtain ⟨p, hp, hq⟩ := List.any_eq_true.mp hf
  rw [Bool.and_eq_true] at hq
  obtain ⟨C', h1, h2, h3⟩ := h p hp
  have e : p.1 = c := by simpa using hq.1
  rw [e, hC] at h1
  cases h1
  exact ⟨h2, h3 f (by simpa using hq.2)⟩
def insAt (st : Store) (x : D) : Option (Str × List (Str × D)) := match x with
  | .loc n => match cell st n with
    | some (.ins c fs) => some (c, fs)
    | _ => none
  | _ => none
theorem insAt_is {st : Store} {x : D} {c : Str} {fs : List (Str × D)} (h : insAt st x = some (c, fs)) : ∃ n, x = .loc n ∧ cell st n = some (.ins c fs) := by
  cases x with
  | loc n =>
    refine ⟨n, rfl, ?_⟩
    unfold insAt at h
    simp only at h
    split at h
    · rename_i h1
      cases h
      exact h1
    · cases h
  | _ => cases h
def fldD (tab : Flds) (f : Str) (x : D) (st : Store) : Re D := match insAt st x with
  | some (c, fs) => if hasF tab c f = true then (match fs.lookup f with
    | some d => .ok d st
    | none => .bad) else .bad
  | none => .bad
def putD (f : Str) (d : D) : List (Str × D) → List (Str × D)
  | [] => [(f, d)]
  | (g, x) :: r => if g = f then (g, d) :: r else (g, x) :: putD f d r
def putI (tab : Flds) (f : Str) (d x : D) (st : Store) : Option Store := match x with
  | .loc n => match cell st n with
    | some (.ins c fs) => if hasF tab c f = true ∧ fs.length < 900 then some (st.set n (some (.ins c (putD f d fs)))) else none
    | _ => none
  | _ => none
def sFldM (tab : Flds) (f : Str) (mo mv : EM) : SM := fun vs st => (mv vs st).thn vs fun d st => (mo vs st).thn vs fun x st => match putI tab f d x st with
  | some st => .nx vs st
  | none => .bad
def sFldA (tab : Flds) (f : Str) (op : D → D → Store → Re D) (mo mv : EM) : SM := fun vs st => (mo vs st).thn vs fun x st0 => (fldD tab f x st0).thn vs fun v st => (mv vs st).thn vs fun y st => (op v y st).thn vs fun z st' => if (insAt st' x).map (·.1) = (insAt st0 x).map (·.1) then (match putI tab f z x st' with
  | some st => .nx vs st
  | none => .bad) else .bad
def insOk (c m : Str) (x : D) (st : Store) : Bool := match insAt st x with
  | some (c', fs) => c' == c && (fs.lookup m).isNone
  | none => false
def eMeth (c m : Str) (md : FnD) (mo : EM) (ms : EMs) : EM := fun vs st => (mo vs st).bind fun x st => if insOk c m x st = true then (ms vs st).bind fun ds st => md (x :: ds) st else .bad
def eMake (c : Str) (md : FnD) (ms : EMs) : EM := fun vs st => (ms vs st).bind fun ds st => match md (.loc st.length :: ds) (st ++ [some (.ins c [])]) with
  | .ok .non st' => .ok (.loc st.length) st'
  | _ => .bad
section
variable {K : PySem.W.Frag} {mg : Str → Option Value} {μ : List Addr} {G : Hp}
theorem repF_get : ∀ {fs : List (Str × D)} {gs : List (Str × V)} {f : Str} {d : D}, RepF K μ G fs gs → fs.lookup f = some d → ∃ v, gs.lookup f = some v ∧ Rep K μ G d v
  | [], _, _, _, _, e => by cases e
  | (g, x) :: r, gs, f, d, h, e => by
    obtain ⟨v, s, rfl, hv, hr⟩ := h
    rw [List.lookup_cons] at e ⊢
    split at e
    · cases e; exact ⟨v, rfl, hv⟩
    · exact repF_get hr e
theorem repF_none : ∀ {fs : List (Str × D)} {gs : List (Str × V)} {f : Str}, RepF K μ G fs gs → fs.lookup f = none → gs.lookup f = none
  | [], _, _, h, e => by
    have h' : _ = [] := h
    subst h'
    rfl
  | (g, x) :: r, gs, f, h, e => by
    obtain ⟨v, s, rfl, hv, hr⟩ := h
    rw [List.lookup_cons] at e ⊢
    split at e
    · cases e
    · exact repF_none hr e
theorem repF_len : ∀ {fs : List (Str × D)} {gs : List (Str × V)}, RepF K μ G fs gs → gs.length = fs.length
  | [], _, h => by
    have h' : _ = [] := h
    subst h'
    rfl
  | (g, x) :: r, gs, h => by
    obtain ⟨v, s, rfl, hv, hr⟩ := h
    rw [List.length_cons, List.length_cons, repF_len hr]
theorem repF_put {f : Str} {d : D} {v : V} (hd : Rep K μ G d v) : ∀ {fs : List (Str × D)} {gs : List (Str × V)}, RepF K μ G fs gs → RepF K μ G (putD f d fs) (putF f v gs)
  | [], _, h => by
    have h' : _ = [] := h
    subst h'
    exact ⟨v, [], rfl, hd, rfl⟩
  | (g, x) :: r, gs, h => by
    obtain ⟨w, s, rfl, hv, hr⟩ := h
    by_cases e : g = f
    · simp only [putD, putF, if_pos e]
      exact ⟨v, s, rfl, hd, hr⟩
    · simp only [putD, putF, if_neg e]
      exact ⟨w, _, rfl, hv, repF_put hd hr⟩
end
section
variable {X : Cx} {W : WX} {o e : Expr} {es : List Expr} {mo mv : EM} {ms : EMs} {f : Str} {tab : Flds} {pos pos' p apos : Pos}
theorem m_fld (hT : FldsT X.K X.mg tab) (ho : ME X W o mo) (hb : attributeBase o f X.env (eval o X.env) = eval o X.env := by rfl) : ME X W (.Attribute o f pos) (e1 (fldD tab f) mo) := (pe_fld ho hb).of fun σ H Q h => by
  obtain ⟨vs, st, μ, G, F, re, k, h⟩ := h
  refine ⟨vs, st, μ, G, F, re, k, (Done.bind h).mono fun μ1 G1 x st1 H1 f1 k1 h1 v rv => ?_⟩
  unfold fldD at h1
  split at h1
  · rename_i c fs e
    obtain ⟨n, rfl, hc⟩ := insAt_is e
    split at h1
    · rename_i hf
      split at h1
      · rename_i d hd
        obtain ⟨a, rfl, ha⟩ := rep_loc rv
        obtain ⟨a', ob, h1', h2, h3, h4, C, dx, gs, rfl, hC, hr⟩ := k1.cell n _ (cell_some hc)
        rw [ha] at h1'
        cases h1'
        obtain ⟨hc1, hn⟩ := hT.get hC hf
        obtain ⟨w, hw, rw1⟩ := repF_get hr hd
        exact ⟨a, C, dx, gs, w, rfl, h4, hc1, hn, hw, fin_here k1 h1 rw1⟩
      · exact h1.elim
    · exact h1.elim
  · exact h1.elim
theorem put_kn {K : PySem.W.Frag} {mg : Str → Option Value} {μ : List Addr} {G F H : Hp} {st st' : Store} {d x : D} {v w : V} (hT : FldsT K mg tab) (k : Kn K mg μ G F st H) (rx : Rep K μ G x v) (rd : Rep K μ G d w) (h : putI tab f d x st = some st') :
    ∃ a C dx gs, v = .ref a ∧ H a = some (.ins C dx gs) ∧ Cls K C ∧ NoAttr K C f ∧ gs.length < 900 ∧ Kn K mg μ G F st' (upd H a (.ins C dx (putF f w gs))) ∧ ∃ c fs, insAt st x = some (c, fs) ∧ mg c = some (.ref C) := by
  cases x with
  | loc n =>
    unfold putI at h
    simp only at h
    split at h
    · rename_i c fs hc
      split at h
      · rename_i hh
        cases h
        obtain ⟨a, rfl, ha⟩ := rep_loc rx
        obtain ⟨a', ob, h1', h2, h3, h4, C, dx, gs, rfl, hC, hr⟩ := k.cell n _ (cell_some hc)
        rw [ha] at h1'
        cases h1'
        obtain ⟨hc1, hn⟩ := hT.get hC hh.1
        refine ⟨a, C, dx, gs, rfl, h4, hc1, hn, by rw [repF_len hr]; exact hh.2, k.write (cell_some hc) ha ⟨C, dx, _, rfl, hC, repF_put rd hr⟩, c, fs, ?_, hC⟩
        unfold insAt
        simp only [hc]
      · cases h
    · cases h
  | _ => cases h
theorem st_fld (hT : FldsT X.K X.mg tab) (ho : ME X W o mo) (hv : ME X W e mv) (hs : swapsWith e (some (.Attribute o f pos')) pos.line X.env = pure false := by rfl) : MS X W (.Assign [.Attribute o f pos'] e pos) (sFldM tab f mo mv) := (ps_fld ho hv hs).of fun E σ H h => by
  obtain ⟨vs, st, μ, G, F, re, k, h⟩ := h
  refine ⟨vs, st, μ, G, F, re, k, (DoneS.thn re h).mono fun μ1 G1 y st1 H1 f1 k1 h1 v rv => ?_⟩
  have re1 := re.fut f1
  refine ⟨vs, st1, μ1, G1, F, re1, k1, (DoneS.thn re1 h1).mono fun μ2 G2 x st2 H2 f2 k2 h2 u ru => ?_⟩
  split at h2
  · rename_i st3 hp
    obtain ⟨a, C, dx, gs, rfl, hH, hc, hn, hl, k3, _⟩ := put_kn hT k2 ru (rv.fut f2) hp
    refine ⟨a, C, dx, gs, rfl, hH, hc, hn, by omega, ?_⟩
    exact h2 μ2 G2 _ σ (.refl μ2 G2) k3 (re1.fut f2)
  · exact h2.elim
theorem st_flda {op : Operator} {r : R2} {g : D → D → Store → Re D} (hT : FldsT X.K X.mg tab) (hop : OpR X (inplaceOp op) r) (hsf : S2 X.K X.mg g r) (ho : ME X W o mo) (hv : ME X W e mv) : MS X W (.AugAssign (.Attribute o f pos') op e pos) (sFldA tab f g mo mv) :=
  (ps_fldaug (rd := r) ho hv (fun pins s σ H x y u v Q I rx ry h => hop pins s σ H x y u v Q I rx ry h)).of fun E σ H h => by
  obtain ⟨vs, st, μ, G, F, re, k, h⟩ := h
  refine ⟨vs, st, μ, G, F, re, k, (DoneS.thn re h).mono fun μ1 G1 x st1 H1 f1 k1 h1 v rv => ?_⟩
  have re1 := re.fut f1
  unfold fldD at h1
  split at h1
  · rename_i c fs e
    obtain ⟨n, rfl, hc⟩ := insAt_is e
    split at h1
    · rename_i hf
      split at h1
      · rename_i d hd
        obtain ⟨a, rfl, ha⟩ := rep_loc rv
        obtain ⟨a', ob, h1', h2, h3, h4, C, dx, gs, rfl, hC, hr⟩ := k1.cell n _ (cell_some hc)
        rw [ha] at h1'
        cases h1'
        obtain ⟨hc1, hn⟩ := hT.get hC hf
        obtain ⟨w, hw, rw1⟩ := repF_get hr hd
        refine ⟨a, C, dx, gs, w, rfl, h4, hc1, hn, hw, ?_⟩
        have h1 : DoneS X.K X.mg W μ1 G1 F ((mv vs st1).thn vs fun y st => (g d y st).thn vs fun z st' => if (insAt st' (.loc n)).map (·.1) = (insAt st1 (.loc n)).map (·.1) then (match putI tab f z (.loc n) st' with
          | some st => .nx vs st
          | none => .bad) else .bad) E := h1
        refine ⟨vs, st1, μ1, G1, F, re1, k1, (DoneS.thn re1 h1).mono fun μ2 G2 y st2 H2 f2 k2 h2 u ru => ?_⟩
        have re2 := re1.fut f2
        refine hsf W σ μ2 G2 F st2 H2 d y w u _ k2 (rw1.fut f2) ru ((DoneS.thn re2 h2).mono fun μ3 G3 z st3 H3 f3 k3 h3 zz rz => ?_)
        by_cases hsame : (insAt st3 (.loc n)).map (·.1) = (insAt st1 (.loc n)).map (·.1)
        · rw [if_pos hsame] at h3
          split at h3
          · rename_i st4 hp
            obtain ⟨a2, C2, dx2, gs2, e2, hH, hc2, hn2, hl2, k4, c2, fs2, hi2, hm2⟩ := put_kn hT k3 (((rv).fut f2).fut f3) rz hp
            cases e2
            rw [hi2, e] at hsame
            have hcc : c2 = c := Option.some.inj hsame
            rw [hcc, hC] at hm2
            cases hm2
            refine ⟨dx2, gs2, hH, by omega, ?_⟩
            exact h3 μ3 G3 _ σ (.refl μ3 G3) k4 (re2.fut f3)
          · exact h3.elim
        · rw [if_neg hsame] at h3; exact h3.elim
      · exact h1.elim
    · exact h1.elim
  · exact h1.elim
/-- o.m(..), what leaves it goes on -/
theorem pe_methSD {CX : CXT} {k : Nat} {C g : Addr} {fd : FuncData} {ps : List Str} {sp : Sp} {E : L2.St → XK} {m : Str} {pl : Sem Bool} {ta : TE} {t : TA} (he : PE X o ta) (c : Cls X.K C) (hm : Meth X.K C m g) (F : FnOk X.prog X.w X.K X.mg X.base CX k g fd ps sp) (hr : Room k X.A) (hb : Binds X.K fd ps [])
    (hx : ∀ σ, PassesAt CX X σ (E σ)) (ha : PA X (e :: es) t)
    (hst : starEach (e :: es) X.env = (false, eval e X.env) :: starEach es X.env := by rfl) (hpl : (backTo pos (starEach es X.env)).any (·.1) = false := by rfl)
    (ht : eval (.Call (.Attribute o m apos) (e :: es) [] pos) X.env = (do
      let ov ← eval o X.env
      standAt apos.atName
      let (f, first) ← holding [ov] (getMethod ov m pl)
      callWith pos f first (backTo pos (starEach (e :: es) X.env)) (backToKw pos (keywordEach [] X.env))) := by rfl) :
    PE X (.Call (.Attribute o m apos) (e :: es) [] pos) (fun σ H Q => ta σ H fun x H1 => ∃ a dx fs, x = .ref a ∧ H1 a = some (.ins C dx fs) ∧ fs.lookup m = none ∧ t σ H1 fun vs H2 => sp (x :: vs) H2 Q (E σ)) := by
  refine ⟨fun pins s σ H Q I h => ?_⟩
  refine PySem.W.methodCall_KW (pl := pl) (thn (he.run pins s σ H _ I h) fun u s1 ⟨x, H1, I1, rx, a, dx, fs, ex, ea, l, q⟩ => ?_) ht
  subst ex
  obtain rfl : u = Value.ref a := rx
  refine getmeth_ok I1 ea c hm l ?_
  refine PySem.W.callWith_K (first := [.ref a]) (h₀ := X.base) I.ok.mod.kin hm.kp (thn (ha.run pos pins s1 σ H1 _ I1 q) fun us s2 ⟨vs, H2, I2, r, q2⟩ => ⟨I2.kIn, ?_⟩) hst hpl
  exact run_fnSD (us := .ref a :: us) (vs := .ref a :: vs) F hr hb .nil (hx σ) I2 (.cons rfl r) (by rw [List.append_nil]; exact q2)
theorem pe_methSD0 {CX : CXT} {k : Nat} {C g : Addr} {fd : FuncData} {ps : List Str} {sp : Sp} {E : L2.St → XK} {m : Str} {pl : Sem Bool} {ta : TE} (he : PE X o ta) (c : Cls X.K C) (hm : Meth X.K C m g) (F : FnOk X.prog X.w X.K X.mg X.base CX k g fd ps sp) (hr : Room k X.A) (hb : Binds X.K fd ps [])
    (hx : ∀ σ, PassesAt CX X σ (E σ))
    (ht : eval (.Call (.Attribute o m apos) [] [] pos) X.env = (do
      let ov ← eval o X.env
      standAt apos.atName
      let (f, first) ← holding [ov] (getMethod ov m pl)
      callWith pos f first (backTo pos (starEach [] X.env)) (backToKw pos (keywordEach [] X.env))) := by rfl) :
    PE X (.Call (.Attribute o m apos) [] [] pos) (fun σ H Q => ta σ H fun x H1 => ∃ a dx fs, x = .ref a ∧ H1 a = some (.ins C dx fs) ∧ fs.lookup m = none ∧ sp [x] H1 Q (E σ)) := by
  refine ⟨fun pins s σ H Q I h => ?_⟩
  refine PySem.W.methodCall_KW (pl := pl) (thn (he.run pins s σ H _ I h) fun u s1 ⟨x, H1, I1, rx, a, dx, fs, ex, ea, l, q⟩ => ?_) ht
  subst ex
  obtain rfl : u = Value.ref a := rx
  refine getmeth_ok I1 ea c hm l ?_
  refine PySem.W.callWith_K0 I1.kIn hm.kp ?_
  exact run_fnSD (us := [.ref a]) (vs := [.ref a]) F hr hb .nil (hx σ) I1 (.cons rfl .nil) (by rw [List.append_nil]; exact q)
/-- the method m of the class named c -/
def CalM (P : Program) (w : World) (K : PySem.W.Frag) (mg : Str → Option Value) (base : Heap) (c m : Str) (k : Nat) (ps : List Str) (md : FnD) : Prop :=
  ∃ C fa fd, FnM P w K mg base k fa fd ps md ∧ mg c = some (.ref C) ∧ Cls K C ∧ Meth K C m fa ∧ Binds K fd ps []
def CalI (P : Program) (w : World) (K : PySem.W.Frag) (mg : Str → Option Value) (base : Heap) (c : Str) (k : Nat) (ps : List Str) (md : FnD) : Prop :=
  ∃ C fa fd, FnM P w K mg base k fa fd ps md ∧ mg c = some (.ref C) ∧ Mk K C fa ∧ Binds K fd ps []
theorem insOk_rep {K : PySem.W.Frag} {mg : Str → Option Value} {μ : List Addr} {G F H : Hp} {st : Store} {x : D} {v : V} {c m : Str} {C : Addr} (k : Kn K mg μ G F st H) (rx : Rep K μ G x v) (hC : mg c = some (.ref C)) (h : insOk c m x st = true) :
    ∃ a dx gs, v = .ref a ∧ H a = some (.ins C dx gs) ∧ gs.lookup m = none := by
  unfold insOk at h
  split at h
  · rename_i c' fs e
    obtain ⟨n, rfl, hc⟩ := insAt_is e
    rw [Bool.and_eq_true] at h
    have e1 : c' = c := by simpa using h.1
    have e2 : fs.lookup m = none := by simpa using h.2
    obtain ⟨a, rfl, ha⟩ := rep_loc rx
    obtain ⟨a', ob, h1', h2, h3, h4, C', dx, gs, rfl, hC', hr⟩ := k.cell n _ (cell_some hc)
    rw [ha] at h1'
    cases h1'
    rw [e1, hC] at hC'
    cases hC'
    exact ⟨a, dx, gs, rfl, h4, repF_none hr e2⟩
  · cases h
variable {k : Nat} {c m x : Str} {ps : List Str} {md : FnD} {a : Expr}
theorem m_mcal (Ck : CalM X.prog X.w X.K X.mg X.base c m k ps md) (hr : Room k X.A) (tk : Takes X W) (ho : ME X W o mo) (ha : MA X W (e :: es) ms) {pl : Sem Bool} (hms : ALen ms (ps.length - 1) := by repeat constructor) (hps : 1 ≤ ps.length := by decide)
    (hst : starEach (e :: es) X.env = (false, eval e X.env) :: starEach es X.env := by rfl) (hpl : (backTo pos (starEach es X.env)).any (·.1) = false := by rfl)
    (ht : eval (.Call (.Attribute o m apos) (e :: es) [] pos) X.env = (do
      let ov ← eval o X.env
      standAt apos.atName
      let (f, first) ← holding [ov] (getMethod ov m pl)
      callWith pos f first (backTo pos (starEach (e :: es) X.env)) (backToKw pos (keywordEach [] X.env))) := by rfl) : ME X W (.Call (.Attribute o m apos) (e :: es) [] pos) (eMeth c m md mo ms) := by
  obtain ⟨C, fa, fd, Fk, hC, hcl, hm, hb⟩ := Ck
  refine (pe_methSD (pl := pl) ho hcl hm Fk hr hb (fun σ => passAt tk σ) ha hst hpl ht).of fun σ H Q h => ?_
  obtain ⟨vs, st, μ, G, F, re, kn, h⟩ := h
  refine ⟨vs, st, μ, G, F, re, kn, (Done.bind h).mono fun μ1 G1 x st1 H1 f1 k1 h1 v rv => ?_⟩
  by_cases hi : insOk c m x st1 = true
  · rw [if_pos hi] at h1
    obtain ⟨a, dx, gs, rfl, hH, hl⟩ := insOk_rep k1 rv hC hi
    refine ⟨a, dx, gs, rfl, hH, hl, ?_⟩
    cases hd : ms vs st1 with
    | bad => rw [hd] at h1; exact h1.elim
    | exc ex st2 =>
      rw [hd] at h1
      exact ⟨vs, st1, μ1, G1, F, re.fut f1, k1, by rw [hd]; exact h1⟩
    | ok ds st2 =>
      rw [hd] at h1
      refine ⟨vs, st1, μ1, G1, F, re.fut f1, k1, ?_⟩
      rw [hd]
      intro μ2 G2 H2 f2 k2 ws rws
      refine ⟨by rw [List.length_cons, rws.length, hms.len hd]; omega, x :: ds, st2, μ2, G2, F, .cons (rv.fut f2) rws, k2, ?_⟩
      exact done_wish (Done.fut f2 h1) fun cls d H hw => hw
  · rw [if_neg hi] at h1; exact h1.elim
theorem m_mcal0 (Ck : CalM X.prog X.w X.K X.mg X.base c m k ps md) (hr : Room k X.A) (tk : Takes X W) (ho : ME X W o mo) {pl : Sem Bool} (hps : ps.length = 1 := by decide)
    (ht : eval (.Call (.Attribute o m apos) [] [] pos) X.env = (do
      let ov ← eval o X.env
      standAt apos.atName
      let (f, first) ← holding [ov] (getMethod ov m pl)
      callWith pos f first (backTo pos (starEach [] X.env)) (backToKw pos (keywordEach [] X.env))) := by rfl) : ME X W (.Call (.Attribute o m apos) [] [] pos) (eMeth c m md mo aNil) := by
  obtain ⟨C, fa, fd, Fk, hC, hcl, hm, hb⟩ := Ck
  refine (pe_methSD0 (pl := pl) ho hcl hm Fk hr hb (fun σ => passAt tk σ) ht).of fun σ H Q h => ?_
  obtain ⟨vs, st, μ, G, F, re, kn, h⟩ := h
  refine ⟨vs, st, μ, G, F, re, kn, (Done.bind h).mono fun μ1 G1 x st1 H1 f1 k1 h1 v rv => ?_⟩
  by_cases hi : insOk c m x st1 = true
  · rw [if_pos hi] at h1
    obtain ⟨a, dx, gs, rfl, hH, hl⟩ := insOk_rep k1 rv hC hi
    refine ⟨a, dx, gs, rfl, hH, hl, ?_⟩
    refine ⟨by rw [hps]; rfl, [x], st1, μ1, G1, F, .cons rv .nil, k1, ?_⟩
    exact done_wish h1 fun cls d H hw => hw
  · rw [if_neg hi] at h1; exact h1.elim
theorem m_make (Ck : CalI X.prog X.w X.K X.mg X.base c k ps md) (hr : Room (k + 1) X.A) (ha : MA X W (e :: es) ms) (hms : ALen ms (ps.length - 1) := by repeat constructor) (hps : 1 ≤ ps.length := by decide) (hg : Gl X c := by rfl) (hdb : (c == ("__debug__" : Str)) = false := by decide)
    (he : starEach (e :: es) X.env = (false, eval e X.env) :: starEach es X.env := by rfl) (hpl : (backTo pos (starEach es X.env)).any (·.1) = false := by rfl) : ME X W (.Call (.Name c p) (e :: es) [] pos) (eMake c md ms) := by
  obtain ⟨C, fa, fd, Fk, hC, hm, hb⟩ := Ck
  refine (pe_make (dvs := []) (E := fun _ _ _ => False) hm Fk hr hg hC hb .nil (fun pins σ H s e s' I h => ?_) ha hdb he hpl).of fun σ H Q h => ?_
  · obtain ⟨_, _, _, _, _, _, _, _, _, _, _, _, z⟩ := h
    exact z.elim
  obtain ⟨vs, st, μ, G, F, re, kn, h⟩ := h
  unfold eMake at h
  refine ⟨vs, st, μ, G, F, re, kn, ?_⟩
  cases hd : ms vs st with
  | bad => rw [hd] at h; exact h.elim
  | exc ex st2 => rw [hd] at h; exact h
  | ok ds st1 =>
    rw [hd] at h
    intro μ1 G1 H1 f1 k1 ws rws x dx hx hdx hne
    have h : Done X.K X.mg W σ μ G F (match md (.loc st1.length :: ds) (st1 ++ [some (.ins c [])]) with
      | .ok .non st' => Re.ok (.loc st1.length) st'
      | _ => .bad) (Fin X.K Q) := h
    have kj := k1.junk (o := .own (x)) hdx
    have hx2 : upd H1 dx (.own x) x = none := by rw [upd_ne (Ne.symm hne)]; exact hx
    have ka := kj.alloc (o := .ins C dx []) (ob := .ins c []) hx2 ⟨C, dx, [], rfl, hC, rfl⟩
    have fa : Fut μ1 G1 (μ1 ++ [x]) G1 := ⟨⟨[x], rfl⟩, .refl G1⟩
    have hat : (μ1 ++ [x])[st1.length]? = some x := by rw [← k1.len, List.getElem?_append_right (Nat.le_refl _), Nat.sub_self]; rfl
    refine ⟨by rw [List.append_nil, List.length_cons, rws.length, hms.len hd]; omega, .loc st1.length :: ds, _, μ1 ++ [x], G1, F, by rw [List.append_nil]; exact .cons (.loc hat) (rws.fut fa), ka, ?_⟩
    cases hr2 : md (.loc st1.length :: ds) (st1 ++ [some (.ins c [])]) with
    | bad => rw [hr2] at h; exact h.elim
    | exc ex st2 => rw [hr2] at h; exact h.elim
    | ok d2 st2 =>
      rw [hr2] at h
      cases d2 with
      | non =>
        intro μ2 G2 H2 f2 k2 v rv
        rw [rep_non rv]
        exact ⟨rfl, h μ2 G2 H2 ((f1.trans fa).trans f2) k2 _ (.loc (f2.at hat))⟩
      | _ => exact h.elim
end
end Dn
/-! Instances: how their denotations are evaluated. -/
namespace Dn
open PySem PySem.Spec PyProof.Rows L2
section
variable {vs : Vars} {st : Store} {mo mv : EM} {ms : EMs} {md : FnD} {c f m : Str} {tab : Flds} {n : Nat} {d x : D} {op : D → D → Store → Re D}
@[simp] theorem insAt_loc : insAt st (.loc n) = match cell st n with | some (.ins c fs) => some (c, fs) | _ => none := rfl
@[simp] theorem eMeth_eq : eMeth c m md mo ms vs st = (mo vs st).bind fun x st => if insOk c m x st = true then (ms vs st).bind fun ds st => md (x :: ds) st else .bad := rfl
@[simp] theorem sFldM_eq : sFldM tab f mo mv vs st = (mv vs st).thn vs fun d st => (mo vs st).thn vs fun x st => match putI tab f d x st with | some st => .nx vs st | none => .bad := rfl
@[simp] theorem sFldA_eq : sFldA tab f op mo mv vs st = (mo vs st).thn vs fun x st0 => (fldD tab f x st0).thn vs fun v st => (mv vs st).thn vs fun y st => (op v y st).thn vs fun z st' => if (insAt st' x).map (·.1) = (insAt st0 x).map (·.1) then (match putI tab f z x st' with | some st => .nx vs st | none => .bad) else .bad := rfl
@[simp] theorem lookup_nilF {β : Type} {f : Str} : List.lookup f ([] : List (Str × β)) = none := rfl
theorem lookup_consF {β : Type} {f g : Str} {b : β} {r : List (Str × β)} : List.lookup f ((g, b) :: r) = if f = g then some b else List.lookup f r := by
  rw [List.lookup_cons]
  by_cases h : f = g
  · subst h; simp
  · have : (f == g) = false := by simpa using h
    rw [this, if_neg h]
@[simp] theorem putD_nil : putD f d [] = [(f, d)] := rfl
@[simp] theorem putD_cons {g : Str} {r : List (Str × D)} : putD f d ((g, x) :: r) = if g = f then (g, d) :: r else (g, x) :: putD f d r := rfl
theorem fld_ins {fs : List (Str × D)} (h : cell st n = some (.ins c fs)) (hf : hasF tab c f = true) (hl : fs.lookup f = some d) : fldD tab f (.loc n) st = .ok d st := by
  unfold fldD
  simp only [insAt_loc, h, hf, hl, if_true]
theorem put_ins {fs : List (Str × D)} (h : cell st n = some (.ins c fs)) (hf : hasF tab c f = true) (hl : fs.length < 900) : putI tab f d (.loc n) st = some (st.set n (some (.ins c (putD f d fs)))) := by
  unfold putI
  simp only [h, hf, hl, and_self, if_true]
theorem insOk_ins {fs : List (Str × D)} (h : cell st n = some (.ins c fs)) (hl : fs.lookup m = none) : insOk c m (.loc n) st = true := by
  unfold insOk
  simp [h, hl]
theorem make_wp {Q : D → Store → Prop} (h : wp (ms vs st) fun ds st1 => wp (md (.loc st1.length :: ds) (st1 ++ [some (.ins c [])])) fun d st2 => d = .non ∧ Q (.loc st1.length) st2) : wp (eMake c md ms vs st) Q := by
  unfold eMake
  rw [wp_bind]
  refine wp_mono h fun ds st1 h1 => ?_
  obtain ⟨a, st2, e, rfl, q⟩ := wp_ex h1
  rw [e]
  simp only [wp_ok]
  exact q
end
end Dn
/-! sorted(xs) of a tuple of like data -/
namespace Dn
open PySem PySem.Spec PyProof PyProof.Rows PySem.W L2
section
variable {prog : Program} {w : World} {A : Around} {E : Value → Shared → Prop} {s : Shared}
theorem collect_tup {l : Addr} {vs : List Value} {Q : List Value → Shared → Prop} (hl : IsTup s.heap l vs.toArray)
    (h : Q vs { s with heap := (s.heap.push (seqObj "list" #[] 0)).update s.heap.objs.size (Obj.mapSeq (· ++ vs.toArray)) }) (hsz : vs.length ≤ sizeLine) :
    wpAny (model prog w) A (collect (.ref l)) Q E s := by
  obtain ⟨o, ho, hc, n, hd⟩ := id hl
  unfold collect
  refine wpAny_bind (wpAny_runValue (codeAny_builtin entry_proto_collect' ?_))
  show wpAny _ _ (do again (.builtin "list.__iadd__" ⟨[← newList [], .ref l], []⟩)) _ _ s
  refine wpAny_bind (wpAny_newList (wpAny_pure ⟨Code.quiet_builtin _ (by decide +kernel), codeAny_builtin entry_list_iadd' ?_⟩))
  show wpAny _ _ (Builtin.List.listExtendWith (.ref s.heap.objs.size) (.ref l) (.ref s.heap.objs.size)) _ _ { s with heap := s.heap.push (seqObj "list" #[] 0) }
  unfold Builtin.List.listExtendWith
  have ho' : (s.heap.push (seqObj "list" #[] 0)).get? l = some o := Heap.get?_push_of_some _ ho
  refine wpAny_bind (wpAny_typeOf (T := "tuple") ⟨o, ho', hc⟩ ?_)
  have ht : (Value.type "tuple" == Value.type "tuple") = true := by rfl
  rw [if_pos (by rw [ht]; simp)]
  refine wpAny_bind (listItems_at ho' hd ?_)
  refine wpAny_bind (listItems_at (xs := #[]) (n := 0) (Heap.get?_push_size _ rfl) rfl ?_)
  rw [if_neg (by simp)]
  refine wpAny_bind (listUpdate_at (xs := #[]) (n := 0) (Heap.get?_push_size _ rfl) rfl ?_ (Nat.zero_le _) (by show (#[] ++ vs.toArray).size ≤ sizeLine + 1; simp only [Array.size_append, List.size_toArray, List.length_nil]; omega))
  refine wpAny_pure ?_
  show wpAny (model prog w) A (do
      let o ← load s.heap.objs.size
      match o.data with
      | .seq xs _ => pure xs.toList
      | _ => unsupported "internal:collect") Q E { s with heap := (s.heap.push (seqObj "list" #[] 0)).update s.heap.objs.size (Obj.mapSeq (· ++ vs.toArray)) }
  refine wpAny_bind (wpAny_load (get?_update_seq (Heap.get?_push_size _ rfl) _) ?_)
  show wpAny _ _ (pure ((#[] : Array Value) ++ vs.toArray).toList) Q E _
  rw [show ((#[] : Array Value) ++ vs.toArray).toList = vs by simp]
  exact wpAny_pure h
theorem sorted_tup_vals {κ : PyProof.Rows.KeyKind} {l : Addr} {vs : List Value} {Q : Value → Shared → Prop} (hl : IsTup s.heap l vs.toArray) (S : SortsAt prog w A.in1.in1 { s with heap := sortingHeap (copyHeap s.heap vs) (s.heap.objs.size + 1) vs } κ vs) (hL : vs.length ≤ sizeLine)
    (h : Q (.ref (s.heap.objs.size + 1)) { s with heap := sortedAll s.heap vs (sortVals κ false vs vs).toArray }) : wpAny (model prog w) A (call (.builtin "sorted") [.ref l]) Q E s := by
  refine PyProof.Rows.call_function_entry_kw kind_sorted plain_sorted entry_sorted (args_sorted1 _) ?_
  unfold Builtin.«sorted»
  refine wpAny_bind (m := checkCount "sorted" 1 1 _) (wpAny_pure ?_)
  refine wpAny_bind (collect_tup hl ?_ hL)
  refine wpAny_bind (wpAny_newList ?_ hL)
  have hsz : ((s.heap.push (seqObj "list" #[] 0)).update s.heap.objs.size (Obj.mapSeq (· ++ vs.toArray))).objs.size = s.heap.objs.size + 1 := by
    rw [Heap.size_update, size_push']
  show wpAny _ _ _ _ _ { s with heap := copyHeap s.heap vs }
  rw [hsz]
  refine wpAny_bind (wpAny_holding (wpAny_call_entry_kw slot_list_sort ⟨_, copyHeap_at s.heap vs, rfl⟩ entry_list_sort ?body (args_list_sort _)))
  case body =>
    show wpAny (model prog w) A.in1.in1 (Builtin.«list.sort» ⟨[.ref (s.heap.objs.size + 1)], []⟩) _ _ _
    refine wpAny_mono (list_sort_vals (P := fun f s' => f = .done (.ret .none) ∧ Q (.ref (s.heap.objs.size + 1)) s') (s := { s with heap := copyHeap s.heap vs }) (copyHeap_at s.heap vs) S hL ⟨rfl, h⟩) (fun f s' hf => ?_) fun _ _ e => e
    obtain ⟨rfl, hq⟩ := hf
    exact ⟨_, rfl, wpAny_pure ⟨_, rfl, hq⟩⟩
theorem sorted_tup_data {β : Type} {vs : List Value} {bs : List β} {enc : β → PyData} {R : Value → β → Prop} {l : Addr} {Q : Value → Shared → Prop} (hl : IsTup s.heap l vs.toArray) (e : EachIs R vs bs) (er : EachIs (fun v b => ∃ as, Reads s.heap v (enc b) as) vs bs) (hal : AllAlike (bs.map enc)) (hk : Sortable (bs.map enc)) (hL : bs.length ≤ sizeLine)
    (hu : ∀ b, b ∈ bs → A.units + 2 + (enc b).depth < cLine) (h : ∀ out, out.length = bs.length → EachIs R out (bs.mergeSort (dataLe false enc)) → Q (.ref (s.heap.objs.size + 1)) { s with heap := sortedAll s.heap vs (List.toArray out) }) :
    wpAny (model prog w) A (call (.builtin "sorted") [.ref l]) Q E s := by
  have er' : EachIs (fun v b => ∃ as, Reads (sortingHeap (copyHeap s.heap vs) (s.heap.objs.size + 1) vs) v (enc b) as) vs bs := er.mono fun _ _ ⟨as, r⟩ => ⟨as, PyProof.Rows.Reads.keeps (fun _ _ => sorting_copy_old) r⟩
  exact sorted_tup_vals hl (SortsAt.data (s := { s with heap := sortingHeap (copyHeap s.heap vs) (s.heap.objs.size + 1) vs }) (each_map (R := fun v d => ∃ as, Reads (sortingHeap (copyHeap s.heap vs) (s.heap.objs.size + 1) vs) v d as) enc er') hal hk (bound_map hu)) (by rw [e.length]; exact hL)
    (h _ (by rw [sortVals_length false rfl]; exact e.length) (sortVals_data false e er' hal))
end
def rSortU (K : PySem.W.Frag) : List V → Hp → VK → Prop := fun vs H Q => ∃ (a : Addr) (ps : List (V × D)), vs = [V.ref a] ∧ SqT K H a (ps.map Prod.fst) ∧ DpAll K H (ps.map Prod.fst) ((ps.map Prod.snd).map pd) ∧ srtOk (ps.map Prod.snd) = true ∧
  ∀ p, H p = none → Q (.ref p) (upd H p (.lst ((ps.mergeSort (PySem.W.dataLe false fun p => pd p.2)).map Prod.fst)))
theorem cr_sortU {X : Cx} (hu : X.A.units + 65 < cLine) : CallR X (.builtin "sorted") (rSortU X.K) := by
  intro pins s σ H vs us Q I r h
  obtain ⟨a, ps, rfl, hs, hd, ho, q⟩ := h
  obtain ⟨its, rv, hl, hz⟩ := I.tuple hs
  rw [Vals.ref1 r]
  have e := each_vals rv
  obtain ⟨as, hra⟩ := Dp.readsAll I _ _ its hd rv
  rw [List.map_map] at hra
  have er : PySem.W.EachIs (fun v (p : V × D) => ∃ as, Reads s.heap v (pd p.2) as) its ps := PySem.W.readsAll_each (fun p : V × D => pd p.2) hra
  unfold srtOk at ho
  rw [Bool.and_eq_true, Bool.and_eq_true] at ho
  obtain ⟨h1, h2, h3⟩ := ho
  have e2 : ps.map (fun p : V × D => pd p.2) = (ps.map Prod.snd).map pd := by rw [List.map_map]; rfl
  have hal : PySem.W.AllAlike (ps.map fun p : V × D => pd p.2) := by rw [e2]; exact likes_all h2
  have hk : PySem.W.Sortable (ps.map fun p : V × D => pd p.2) := by rw [e2]; exact sortable_of h3
  rw [List.length_map] at hz
  refine sorted_tup_data hl e er hal hk hz (fun p hp => ?_) fun out hol eo => ?_
  · have := (okd_shape 40 p.2 (List.all_eq_true.mp h1 p.2 (List.mem_map_of_mem hp))).2
    omega
  · obtain ⟨ep, he'⟩ := PyProof.Rows.sortedAll_at s.heap its out.toArray
    have hlen : ((ps.mergeSort (PySem.W.dataLe false fun p : V × D => pd p.2)).map Prod.fst).length ≤ sizeLine := by
      rw [List.length_map, (List.mergeSort_perm _ _).length_eq]
      exact hz
    exact ⟨.ref _, upd H (s.heap.objs.size + 1) (.lst ((ps.mergeSort (PySem.W.dataLe false fun p : V × D => pd p.2)).map Prod.fst)), I.laid (t' := s.toks) (fun _ _ => PyProof.Rows.sortedAll_old) (Nat.le_succ _) ⟨hlen, out, ep, vals_each eo, he'⟩, rfl, q _ (I.hok.fresh (Nat.le_succ _))⟩
abbrev rSortQ (K : PySem.W.Frag) : List V → Hp → VK → Prop := fun xs H Q => rSortA K xs H Q ∨ rSortU K xs H Q
theorem cr_sortQ {X : Cx} (hu : X.A.units + 65 < cLine) : CallR X (.builtin "sorted") (rSortQ X.K) := (cr_sortA hu).or (cr_sortU hu)
def sortQ (b : Bool) : List D → Store → Re D := one fun x st => opt (seqOf st x) fun ds => if srtOk ds = true then mkNew b (ds.mergeSort leDt) st else .bad
theorem s_sortQ {K : PySem.W.Frag} {mg : Str → Option Value} (b : Bool) : SN K mg (sortQ b) (rSortQ K) := sn_one fun W σ μ G F st H x v Q k rv h => by
  obtain ⟨ds, e, h⟩ := opt_done h
  obtain ⟨ho, h⟩ := ite_done h
  obtain ⟨a, ws, rfl, hs, rw'⟩ := seqOf_rep k rv e
  obtain ⟨ps, rfl, rfl, hp⟩ := reps_zip rw'
  have ho2 := ho
  unfold srtOk at ho2
  rw [Bool.and_eq_true] at ho2
  have hn := new_list (Q := Q) k (ds := (ps.map Prod.snd).mergeSort leDt) (vs := (ps.mergeSort (PySem.W.dataLe false fun p => pd p.2)).map Prod.fst) (by
    rw [← sort_snd]
    exact zip_reps fun p h' => hp p ((List.mergeSort_perm _ _).mem_iff.mp h')) h
  rcases hs with hs | hs
  · exact .inl ⟨a, ps, rfl, hs, zip_dp k.ex hp ho2.1, ho, hn⟩
  · exact .inr ⟨a, ps, rfl, hs, zip_dp k.ex hp ho2.1, ho, hn⟩
@[simp] theorem sortQ_eq {b : Bool} {x : D} {st : Store} : sortQ b [x] st = opt (seqOf st x) fun ds => if srtOk ds = true then mkNew b (ds.mergeSort leDt) st else .bad := rfl
end Dn
/-! tuple * 1 -/
namespace Dn
open PySem PySem.Spec PyProof.Rows L2
theorem tuple_mul1W (l : Addr) (items : Array Value) (n : Nat) (dd : Option Addr) (sl : Array (Option Value)) (u : Tok) :
    Meets (Builtin.«tuple.__mul__» ⟨[.ref l, .int 1 u], []⟩) (fun _ R s => s.heap.get? l = some { cls := .type "tuple", dict := dd, data := .seq items n, slots := sl } ∧
      R (.ok (.ret (Value.ref l))) s) :=
  .of_wp fun prog w A R s h => by
    obtain ⟨hp, g, d, tk, os⟩ := s
    obtain ⟨hl, h⟩ := h
    have f1 := AutoSeq1.idx_int
    have c0 : (decide ((1 : Int) < -(2 ^ 63)) || decide ((1 : Int) ≥ 2 ^ 63)) = false := by decide
    have c1 : (items.isEmpty || (1 : Int) == 1) = true := by simp
    wp_walk using wpAny_loadPart' hl
    repeat (first
      | (refine wpAny_ite_false (decide_eq_false (by rw [c0]; exact Bool.false_ne_true)) ?_; wp_walk using wpAny_loadPart' hl)
      | (refine wpAny_ite_true (decide_eq_true c1) ?_; wp_walk using wpAny_loadPart' hl))
    exact ⟨_, rfl, h⟩
def rRepT1 (K : PySem.W.Frag) : R2 := fun x y H Q => ∃ l xs, x = .ref l ∧ y = .int 1 ∧ SqT K H l xs ∧ Q (.ref l) H
theorem op_repT1 {X : Cx} : OpR X (binaryOp .Mult) (rRepT1 X.K) := by
  intro pins s σ H x y v u Q I rx ry h
  obtain ⟨l, xs, rfl, rfl, hT, q⟩ := h
  cases rx
  obtain ⟨t, rfl⟩ := ry
  obtain ⟨its, r, ⟨⟨cls, dd, data, sl⟩, ho, hc, n, hd⟩, hs⟩ := I.tuple hT
  simp only at hc hd
  subst hc hd
  refine wpAny_binaryOp_repeat_ref (T := "tuple") (U := "int") (by decide) ⟨_, ho, rfl⟩ (fun s' => typeIs_int s' 1 t) noFill_tuple_mul F.fills_int_mul F.slot_int_rmul repeat_tuple F.slot_int_index.lookup
    (call_meets F.slot_int_rmul (typeIs_int s 1 t) F.entry_int_rmul (F.args_int_rmul_2 _ _) (int_rmul_tuple 1 t l its.toArray n dd sl)
      ⟨ho, rfl, ⟨_, ho, rfl⟩, call_meets F.slot_tuple_mul ⟨_, ho, rfl⟩ F.entry_tuple_mul (F.args_tuple_mul_2 _ _) (tuple_mul1W l its.toArray n dd sl t) ⟨ho, ?_⟩⟩)
  exact ⟨.ref l, H, I, rfl, q⟩
abbrev rMulQ (K : PySem.W.Frag) : R2 := fun x y H Q => rMulA K x y H Q ∨ rRepT1 K x y H Q
theorem or_mulQ {X : Cx} : OpR X (binaryOp .Mult) (rMulQ X.K) := or_mul.or op_repT1
def mulQ (b : Bool) (x y : D) (st : Store) : Re D := match x, y with
  | .tup u, .int k => if k = 1 then .ok (.tup u) st else mulD b (.tup u) (.int k) st
  | x, y => mulD b x y st
theorem s_mulQ {K : PySem.W.Frag} {mg : Str → Option Value} (b : Bool) : S2 K mg (mulQ b) (rMulQ K) := by
  intro W σ μ G F st H x y v w Q k rx ry h
  unfold mulQ at h
  split at h
  · split at h
    · rename_i e
      subst e
      obtain ⟨a, vs, rfl, ha, ru⟩ := rep_tup rx
      rw [rep_int ry]
      exact .inr ⟨a, vs, rfl, rfl, k.ex.sqt ha, fin_here k h rx⟩
    · exact .inl (s_mul b W σ μ G F st H _ _ v w Q k rx ry h)
  · exact .inl (s_mul b W σ μ G F st H _ _ v w Q k rx ry h)
@[simp] theorem mulQ_tup {b : Bool} {u : List D} {n : Nat} {st : Store} (hu : u ≠ []) (h1 : 1 ≤ n) (h2 : n ≤ 1000) (h3 : u.length ≤ 1000) : mulQ b (.tup u) (.int (n : Nat)) st = .ok (.tup (List.replicate n u).flatten) st := by
  show (if (n : Int) = 1 then _ else mulD b (.tup u) (.int (n : Nat)) st) = _
  split
  · rename_i e
    have : n = 1 := by omega
    subst this
    simp
  · unfold mulD
    simp only
    rw [if_pos ⟨hu, by omega, by omega, h3⟩, Int.toNat_natCast]
end Dn
/-! sum(xs) of a tuple or list of numbers -/
namespace Dn
open PySem PySem.Spec PyProof.Rows L2
theorem sum_tup_raw {prog : Program} {w : World} {A : Around} {E : Value → Shared → Prop} {s : Shared} {l : Addr} {its : List Value} {ns : List Int} {Q : Value → Shared → Prop} (hh : A.handled = none) (hl : IsTup s.heap l its.toArray) (hi : IntsAre its ns)
    (h : ∀ h' tk t', (∀ b o, s.heap.get? b = some o → h'.get? b = some o) → Q (.int ns.sum t') { s with heap := h', toks := tk }) : wpAny (model prog w) A (call (.builtin "sum") [.ref l]) Q E s := by
  have hl' : s.heap.IsTuple l its.toArray := hl
  obtain ⟨xs, hx⟩ := hi.allInts.items
  have hn : numsOf its.toArray.toList = ns := by rw [show its.toArray.toList = its from rfl, hi.numsOf]
  rw [hx] at hl' hn
  rw [nums_intItems] at hn
  refine PySem.W.ktm_sumG hh hl' fun h' tk t' hk => ?_
  have := h h' tk t' hk
  rw [preSum_eq, List.take_of_length_le (by simp), hn]
  exact this
def rSumT (K : PySem.W.Frag) : List V → Hp → VK → Prop := fun vs H Q => ∃ (a : Addr) (ns : List Int), vs = [V.ref a] ∧ SqT K H a (ns.map V.int) ∧ Q (.int ns.sum) H
theorem cr_sumT {X : Cx} (hc : X.calm = true) : CallR X (.builtin "sum") (rSumT X.K) := by
  intro pins s σ H vs us Q I r h
  obtain ⟨a, ns, rfl, hs, q⟩ := h
  obtain ⟨its, rv, hl, _⟩ := I.tuple hs
  rw [Vals.ref1 r]
  exact sum_tup_raw (I.ok.hd hc) hl rv.ints fun h' tk t' hk => ⟨.int _, H, I.kept hk, ⟨_, rfl⟩, q⟩
abbrev rSumQ (K : PySem.W.Frag) : List V → Hp → VK → Prop := fun xs H Q => rSum K xs H Q ∨ rSumT K xs H Q
theorem cr_sumQ {X : Cx} (hc : X.calm = true) : CallR X (.builtin "sum") (rSumQ X.K) := (cr_sum hc).or (cr_sumT hc)
def sumQ : List D → Store → Re D := one fun x st => opt ((seqOf st x).bind intsOf) fun ns => .ok (.int ns.sum) st
theorem s_sumQ {K : PySem.W.Frag} {mg : Str → Option Value} : SN K mg sumQ (rSumQ K) := sn_one fun W σ μ G F st H x v Q k rv h => by
  obtain ⟨ns, e, h⟩ := opt_done h
  cases e1 : seqOf st x with
  | none => rw [e1] at e; cases e
  | some ds =>
    rw [e1] at e
    obtain ⟨a, ws, rfl, hs, rs⟩ := seqOf_rep k rv e1
    have e2 := intsOf_map e
    subst e2
    rw [reps_ints rs] at hs
    rcases hs with hs | hs
    · exact .inl ⟨a, ns, rfl, hs, fin_here k h .int⟩
    · exact .inr ⟨a, ns, rfl, hs, fin_here k h .int⟩
@[simp] theorem sumQ_eq {x : D} {st : Store} : sumQ [x] st = opt ((seqOf st x).bind intsOf) fun ns => .ok (.int ns.sum) st := rfl
end Dn
/-! tuple(range(n)), tuple(range(a, b)), list(range(a, b)) -/
namespace Dn
open PySem PySem.Spec PyProof.Rows L2
section
variable {X : Cx} {W : WX} {a b : Expr} {p p2 q pos : Pos} {ma mb : EM}
theorem reps_rg {K : PySem.W.Frag} {μ : List Addr} {G : Hp} (i j : Int) : Reps K μ G (rng i (j - i).toNat) (rgV i j) := by
  unfold rng rgV
  have : ∀ l : List Nat, Reps K μ G (l.map fun (n : Nat) => D.int (i + n)) (l.map fun (n : Nat) => V.int (i + (n : Nat))) := fun l => by
    induction l with
    | nil => exact .nil
    | cons n l ih => exact .cons .int ih
  exact this _
def tr2 (x y : D) (st : Store) : Re D := match x, y with
  | .int i, .int j => if fitR i ∧ fitR j ∧ (j - i).toNat ≤ 1000000 then .ok (.tup (rng i (j - i).toNat)) st else .bad
  | _, _ => .bad
def tr1 (x : D) (st : Store) : Re D := tr2 (.int 0) x st
def lr2 (bb : Bool) (x y : D) (st : Store) : Re D := match x, y with
  | .int i, .int j => if fitR i ∧ fitR j ∧ (j - i).toNat ≤ 1000000 then mkNew bb (rng i (j - i).toNat) st else .bad
  | _, _ => .bad
theorem rg_ok {i j : Int} (h : fitR i ∧ fitR j ∧ (j - i).toNat ≤ 1000000) : RgOk i j := by
  obtain ⟨⟨h1, h2⟩, ⟨h3, h4⟩, h5⟩ := h
  refine ⟨by omega, by omega, by omega, by omega, by omega⟩
theorem m_tr1 (hc : X.calm = true) (hm : X.mg "tuple" = none) (hm2 : X.mg "range" = none) (ha : ME X W a ma) (hg : Gl X "tuple" := by rfl) (hg2 : Gl X "range" := by rfl)
    (na : starEach [a] X.env = (false, eval a X.env) :: starEach [] X.env := by rfl) (ne : starEach [Expr.Call (.Name "range" p2) [a] [] q] X.env = (false, eval (Expr.Call (.Name "range" p2) [a] [] q) X.env) :: starEach [] X.env := by rfl) : ME X W (.Call (.Name "tuple" p) [.Call (.Name "range" p2) [a] [] q] [] pos) (e1 tr1 ma) := by
  refine (pe_tupRg hc hg hm (prg_1 hg2 hm2 ha na) ne).of fun σ H Q h => ?_
  obtain ⟨vs, st, μ, G, F, re, k, h⟩ := h
  refine ⟨vs, st, μ, G, F, re, k, (Done.bind h).mono fun μ1 G1 x st1 H1 f1 k1 h1 v rv => ?_⟩
  cases x with
  | int j =>
    have h1 : Done X.K X.mg W σ μ1 G1 F (if fitR 0 ∧ fitR j ∧ (j - 0).toNat ≤ 1000000 then .ok (.tup (rng 0 (j - 0).toNat)) st1 else .bad) (Fin X.K Q) := h1
    obtain ⟨hc', h2⟩ := ite_done h1
    rw [rep_int rv]
    exact ⟨j, rfl, rg_ok hc', new_tup k1 (reps_rg 0 j) h2⟩
  | _ => exact h1.elim
theorem m_tr2 (hc : X.calm = true) (hm : X.mg "tuple" = none) (hm2 : X.mg "range" = none) (ha : ME X W a ma) (hb : ME X W b mb) (hg : Gl X "tuple" := by rfl) (hg2 : Gl X "range" := by rfl)
    (na : starEach [a, b] X.env = (false, eval a X.env) :: starEach [b] X.env := by rfl) (nb : starEach [b] X.env = (false, eval b X.env) :: starEach [] X.env := by rfl) (hp : (backTo q (starEach [b] X.env)).any (·.1) = false := by rfl) (ne : starEach [Expr.Call (.Name "range" p2) [a, b] [] q] X.env = (false, eval (Expr.Call (.Name "range" p2) [a, b] [] q) X.env) :: starEach [] X.env := by rfl) : ME X W (.Call (.Name "tuple" p) [.Call (.Name "range" p2) [a, b] [] q] [] pos) (e2 tr2 ma mb) := by
  refine (pe_tupRg hc hg hm (prg_2 hg2 hm2 ha hb na nb hp) ne).of fun σ H Q h => ?_
  obtain ⟨vs, st, μ, G, F, re, k, h⟩ := h
  refine ⟨vs, st, μ, G, F, re, k, (Done.bind h).mono fun μ1 G1 x st1 H1 f1 k1 h1 v rv => ?_⟩
  refine ⟨vs, st1, μ1, G1, F, re.fut f1, k1, (Done.bind h1).mono fun μ2 G2 y st2 H2 f2 k2 h2 w rw' => ?_⟩
  cases x with
  | int i =>
    cases y with
    | int j =>
      have h2 : Done X.K X.mg W σ μ2 G2 F (if fitR i ∧ fitR j ∧ (j - i).toNat ≤ 1000000 then .ok (.tup (rng i (j - i).toNat)) st2 else .bad) (Fin X.K Q) := h2
      obtain ⟨hc', h3⟩ := ite_done h2
      rw [rep_int rv, rep_int rw']
      exact ⟨i, j, rfl, rfl, rg_ok hc', new_tup k2 (reps_rg i j) h3⟩
    | _ => exact h2.elim
  | _ => exact h2.elim
theorem m_lr2 (bb : Bool) (hc : X.calm = true) (hm : X.mg "list" = none) (hm2 : X.mg "range" = none) (ha : ME X W a ma) (hb : ME X W b mb) (hg : Gl X "list" := by rfl) (hg2 : Gl X "range" := by rfl)
    (na : starEach [a, b] X.env = (false, eval a X.env) :: starEach [b] X.env := by rfl) (nb : starEach [b] X.env = (false, eval b X.env) :: starEach [] X.env := by rfl) (hp : (backTo q (starEach [b] X.env)).any (·.1) = false := by rfl) (ne : starEach [Expr.Call (.Name "range" p2) [a, b] [] q] X.env = (false, eval (Expr.Call (.Name "range" p2) [a, b] [] q) X.env) :: starEach [] X.env := by rfl) : ME X W (.Call (.Name "list" p) [.Call (.Name "range" p2) [a, b] [] q] [] pos) (e2 (lr2 bb) ma mb) := by
  refine (pe_listRg hc hg hm (prg_2 hg2 hm2 ha hb na nb hp) ne).of fun σ H Q h => ?_
  obtain ⟨vs, st, μ, G, F, re, k, h⟩ := h
  refine ⟨vs, st, μ, G, F, re, k, (Done.bind h).mono fun μ1 G1 x st1 H1 f1 k1 h1 v rv => ?_⟩
  refine ⟨vs, st1, μ1, G1, F, re.fut f1, k1, (Done.bind h1).mono fun μ2 G2 y st2 H2 f2 k2 h2 w rw' => ?_⟩
  cases x with
  | int i =>
    cases y with
    | int j =>
      have h2 : Done X.K X.mg W σ μ2 G2 F (if fitR i ∧ fitR j ∧ (j - i).toNat ≤ 1000000 then mkNew bb (rng i (j - i).toNat) st2 else .bad) (Fin X.K Q) := h2
      obtain ⟨hc', h3⟩ := ite_done h2
      rw [rep_int rv, rep_int rw']
      exact ⟨i, j, rfl, rfl, rg_ok hc', new_list k2 (reps_rg i j) h3⟩
    | _ => exact h2.elim
  | _ => exact h2.elim
theorem tr1_int {j : Int} {st : Store} (h0 : -1000000 ≤ j) (h1 : j ≤ 1000000) : tr1 (.int j) st = .ok (.tup (rng 0 j.toNat)) st := by
  show (if fitR 0 ∧ fitR j ∧ (j - 0).toNat ≤ 1000000 then _ else _) = _
  rw [if_pos ⟨fitR_of (by omega) (by omega), fitR_of (by omega) (by omega), by omega⟩, Int.sub_zero]
end
end Dn
/-! xs[::-1] -/
namespace Dn
open PySem PySem.Spec PyProof PyProof.Rows L2
section
variable {prog : Program} {w : World} {A : Around} {E : Value → Shared → Prop} {s : Shared}
theorem adjust_rev (n : Nat) : Builtin.Slice.sliceAdjust none none (-1) (n : Int) = ((n : Int) - 1, -1) := by
  unfold Builtin.Slice.sliceAdjust
  simp
theorem places_rev (n : Nat) : Builtin.Slice.slicePlaces ((n : Int) - 1) (-1) (-1) = n := by
  unfold Builtin.Slice.slicePlaces
  have h1 : ¬ (-1 : Int) > 0 := by omega
  simp only [h1, if_false]
  split
  · rw [show (n : Int) - 1 - -1 - 1 = (n : Int) - 1 by omega, show (-(-1) : Int) = 1 from rfl, Int.ediv_one]
    omega
  · simp
    omega
theorem filt_congr {α β : Type} {f g : α → Option β} : ∀ {l : List α}, (∀ a ∈ l, f a = g a) → l.filterMap f = l.filterMap g
  | [], _ => rfl
  | a :: l, h => by
    rw [List.filterMap_cons, List.filterMap_cons, h a List.mem_cons_self, filt_congr fun b hb => h b (List.mem_cons_of_mem _ hb)]
theorem pick_rev (xs : Array Value) : ((List.range xs.size).filterMap fun (k : Nat) => xs[((xs.size : Int) - 1 + (k : Int) * (-1)).toNat]?).toArray = xs.toList.reverse.toArray := by
  have h := PySem.W.krv_pick xs
  unfold slicePick at h
  rw [PySem.W.krv_bounds] at h
  rw [← h]
  show _ = ((sliceRange ((xs.size : Int) - 1) (-1) (-1)).filterMap (xs[·]?)).toArray
  rw [PySem.W.krv_sliceRange, List.filterMap_map]
  congr 1
  refine filt_congr fun k hk => ?_
  have := List.mem_range.mp hk
  show xs[((xs.size : Int) - 1 + (k : Int) * (-1)).toNat]? = xs[xs.size - 1 - k]?
  congr 1
  omega
theorem sliceApplied_rev {sl : Addr} {u : Tok} {n : Nat} {Q : Int × Int × Nat → Shared → Prop} (hs : s.heap.IsSliceOf sl .none .none (.int (-1) u))
    (h : Q ((n : Int) - 1, -1, n) s) : wpAny (model prog w) A (Builtin.Slice.sliceApplied (.ref sl) (pure (n : Int))) Q E s := by
  obtain ⟨os, hos, hcs, hds⟩ := id hs
  unfold Builtin.Slice.sliceApplied Builtin.Slice.sliceFields
  refine wpAny_bind (wpAny_bind (wpAny_field hos hds (x := .none) rfl (wpAny_bind (wpAny_field hos hds (x := .none) rfl (wpAny_bind (wpAny_field hos hds (x := .int (-1) u) rfl (wpAny_pure ?_)))))))
  refine wpAny_bind (slicePart_int ?_)
  show wpAny _ _ (if ((-1 : Int) == 0) = true then _ else _) _ _ s
  rw [if_neg (by decide)]
  refine wpAny_bind (slicePart_none (wpAny_bind (slicePart_none (wpAny_bind (wpAny_pure ?_)))))
  show wpAny _ _ (match Builtin.Slice.sliceAdjust none none (-1) (n : Int) with | (lo, hi) => pure (lo, (-1 : Int), Builtin.Slice.slicePlaces lo hi (-1))) _ _ s
  rw [adjust_rev n]
  show wpAny _ _ (pure ((n : Int) - 1, (-1 : Int), Builtin.Slice.slicePlaces ((n : Int) - 1) (-1) (-1))) _ _ s
  rw [places_rev]
  exact wpAny_pure h
theorem getItem_tuple_rev {t sl : Addr} {items : Array Value} {u : Tok} {Q : Value → Shared → Prop} (ht : IsTup s.heap t items) (hs : s.heap.IsSliceOf sl .none .none (.int (-1) u))
    (h : Q (.ref s.heap.objs.size) { s with heap := s.heap.push { cls := .type "tuple", data := .seq items.toList.reverse.toArray } })
    (hsz : items.size ≤ sizeLine) : wpAny (model prog w) A (getItem (.ref t) (.ref sl)) Q E s := by
  have htake : sizeOk (.seq items.toList.reverse.toArray) := by
    show items.toList.reverse.toArray.size ≤ sizeLine
    rw [List.size_toArray, List.length_reverse, Array.length_toList]
    exact hsz
  obtain ⟨os, hos, hcs, hds⟩ := id hs
  have hTs : s.TypeIs (.ref sl) "slice" := ⟨os, hos, hcs⟩
  unfold getItem
  try with_reducible refine wpAny_holding ?_
  first | refine wpAny_bind (wpAny_pure ?_) | skip
  refine wpAny_bind (wpAny_sequenceKey (IsTup.typeIs ht) (by decide) ?_)
  refine wpAny_bind (wpAny_callSpecial?_slot (name := Str.ofString "__getitem__") (IsTup.typeIs ht) PyProof.Rows.slot_tuple_getitem
    (wpAny_call_entry PyProof.Rows.slot_tuple_getitem (IsTup.typeIs ht) entry_tuple_getitem ?_ (args_tuple_getitem _ _)))
  show wpAny _ _ (Builtin.Tuple.tupleItemsOf (.ref t) >>= _) _ _ s
  refine wpAny_bind (PyProof.Rows.tupleItemsOf_ ht ?_)
  refine wpAny_bind (wpAny_typeOf hTs ?_)
  rw [if_pos (by decide)]
  refine wpAny_bind (sliceApplied_rev hs ?_)
  have hno : ¬ ((((items.size : Int) - 1) == 0 && (-1 : Int) == 1 && items.size == items.size) = true) := by
    rw [show ((-1 : Int) == 1) = false from rfl]
    simp
  show wpAny _ _ (if ((((items.size : Int) - 1) == 0 && (-1 : Int) == 1 && items.size == items.size) = true) then _ else _) _ _ s
  rw [if_neg hno, pick_rev]
  first
    | exact wpAny_bind (m := Builtin.Tuple.tupleExact _) (wpAny_newObj_type (wpAny_pure ⟨_, rfl, wpAny_pure h⟩) htake)
    | exact wpAny_bind (m := Builtin.Tuple.tupleExact _) (wpAny_newObj_type (wpAny_bind (wpAny_pure (wpAny_pure ⟨_, rfl, wpAny_pure h⟩))) htake)
    | exact wpAny_bind (wpAny_bind (m := Builtin.Tuple.tupleExact _) (wpAny_newObj_type (wpAny_pure (wpAny_pure ⟨_, rfl, wpAny_pure h⟩)) htake))
    | exact wpAny_bind (wpAny_bind (m := Builtin.Tuple.tupleExact _) (wpAny_newObj_type (wpAny_pure ⟨_, rfl, wpAny_pure h⟩) htake))
end

def rRev (K : PySem.W.Frag) : V → V → Hp → VK → Prop := fun x y H Q => ∃ a xs, x = .ref a ∧ y = .int (-1) ∧ ((SqT K H a xs ∧ ∀ p, H p = none → Q (.ref p) (upd H p (.tup xs.reverse))) ∨ (SqL K H a xs ∧ ∀ p, H p = none → Q (.ref p) (upd H p (.lst xs.reverse))))
theorem vals_reverse : ∀ {xs : List V} {us : List Value}, Vals xs us → Vals xs.reverse us.reverse
  | [], _, r => by
    cases r
    exact .nil
  | x :: xs, _, r => by
    cases r with
    | cons r1 r2 =>
      rw [List.reverse_cons, List.reverse_cons]
      exact (vals_reverse r2).append (.cons r1 .nil)
section
variable {X : Cx} {W : WX} {e stp : Expr} {ma mb : EM} {pos p2 : Pos}
theorem pe_rev {te ts : TE} (he : PE X e te) (hs : PE X stp ts) (hsub : ∀ a sl : Addr, ∃ ops, subscripted (.Slice none none (some stp) p2) false (.ref a) (.ref sl) = operate ops (getItem (.ref a) (.ref sl))) : PE X (.Subscript e (.Slice none none (some stp) p2) pos) (fun σ H Q => te σ H fun x H1 => ts σ H1 fun y H2 => rRev X.K x y H2 Q) := by
  refine ⟨fun pins s σ H Q I h => ?_⟩
  refine Subscript_ (thn (he.run pins s σ H _ I h) fun v s1 ⟨x, H1, I1, r1, q1⟩ => ?_)
  refine wpAny_Slice ?_
  rw [evalPart_none]
  refine wpAny_pure ?_
  refine wpAny_pure ?_
  rw [evalPart_some]
  refine thn (hs.run pins s1 σ H1 _ I1 q1) fun vs s3 ⟨y, H3, I3, r3, q3⟩ => ?_
  obtain ⟨a, xs, rfl, rfl, q⟩ := q3
  cases r1
  obtain ⟨u, rfl⟩ := r3
  have I4 : Inv X pins σ H3 { s3 with heap := s3.heap.push { cls := .type "slice", data := .fields #[.none, .none, .int (-1) u] } } := I3.kept (t' := s3.toks) fun b ob q => Heap.get?_push_of_some _ q
  have hsl := Heap.IsSliceOf.new s3.heap .none .none (.int (-1) u)
  show wpAny (model X.prog X.w) X.A (subscriptTail e (.Slice none none (some stp) p2) (.ref a) (.ref s3.heap.objs.size)) (EP X pins σ Q) X.xe { s3 with heap := s3.heap.push { cls := .type "slice", data := .fields #[.none, .none, .int (-1) u] } }
  obtain ⟨ops, hops⟩ := hsub a s3.heap.objs.size
  rcases q with ⟨hT, q⟩ | ⟨hL, q⟩
  · obtain ⟨its, r, ht, hz⟩ := I4.tuple hT
    have hlen : its.toArray.size = xs.length := by rw [List.size_toArray]; exact r.length.symm
    refine tail_any (ops := ops) (IsTup.typeIs ht) PyProof.Rows.slot_tuple_getitem.lookup ?_ hops
    refine getItem_tuple_rev ht hsl ?_ (by rw [hlen]; exact hz)
    refine ⟨.ref _, _, I4.laid (t' := s3.toks) (o := .tup xs.reverse) (fun b ob q => Heap.get?_push_of_some _ q) (Nat.le_refl _) ?_, rfl, q _ (I4.hok.fresh (Nat.le_refl _))⟩
    exact ⟨by rw [List.length_reverse]; exact hz, _, vals_reverse r, IsTup.new _ _⟩
  · obtain ⟨its, r, hp, hz⟩ := I4.list hL
    have hlen : its.toArray.size = xs.length := by rw [List.size_toArray]; exact r.length.symm
    refine tail_any (ops := ops) hp.isList.typeIs PySem.list_getitem_lookup ?_ hops
    refine PySem.wpAny_getItem_list_slice hp.isList hsl .none .none (.int (-1) u) (by decide) ?_ (by rw [hlen]; exact hz)
    rw [PySem.W.krv_pick]
    refine ⟨.ref _, _, I4.laid (t' := s3.toks) (o := .lst xs.reverse) (fun b ob q => Heap.get?_push_of_some _ q) (Nat.le_refl _) ?_, rfl, q _ (I4.hok.fresh (Nat.le_refl _))⟩
    exact ⟨by rw [List.length_reverse]; exact hz, its.reverse, 0, vals_reverse r, by rw [Heap.get?_push_size _ rfl]⟩
def revD (b : Bool) (x : D) (st : Store) : Re D := match x with
  | .tup ds => .ok (.tup ds.reverse) st
  | x => opt (lstOf st x) fun ds => mkNew b ds.reverse st
theorem revD_cases (b : Bool) (x : D) (st : Store) : (∃ ds, x = .tup ds ∧ revD b x st = .ok (.tup ds.reverse) st) ∨ revD b x st = opt (lstOf st x) fun ds => mkNew b ds.reverse st := by
  cases x with
  | tup ds => exact .inl ⟨_, rfl, rfl⟩
  | _ => exact .inr rfl
def revQ (b : Bool) (x y : D) (st : Store) : Re D := match y with
  | .int i => if i = -1 then revD b x st else .bad
  | _ => .bad
theorem reps_reverse {K : PySem.W.Frag} {μ : List Addr} {G : Hp} : ∀ {ds : List D} {vs : List V}, Reps K μ G ds vs → Reps K μ G ds.reverse vs.reverse
  | [], vs, h => by
    rw [reps_nil h]
    exact .nil
  | d :: ds, vs, h => by
    obtain ⟨v, r, rfl, hv, t⟩ := reps_cons h
    rw [List.reverse_cons, List.reverse_cons]
    exact (reps_reverse t).append (.cons hv .nil)
theorem s_rev (b : Bool) : S2 X.K X.mg (revQ b) (rRev X.K) := by
  intro W σ μ G F st H x y v w Q k rx ry h
  unfold revQ at h
  split at h
  · obtain ⟨e, h2⟩ := ite_done h
    clear h
    subst e
    rw [rep_int ry]
    rcases revD_cases b x st with ⟨us, rfl, e⟩ | e
    · rw [e] at h2
      obtain ⟨a, vs, rfl, ha, ru⟩ := rep_tup rx
      exact ⟨a, vs, rfl, rfl, .inl ⟨k.ex.sqt ha, new_tup k (reps_reverse ru) h2⟩⟩
    · rw [e] at h2
      obtain ⟨us, e, h3⟩ := opt_done h2
      obtain ⟨a, vs, rfl, ha, ru⟩ := lstOf_rep k rx e
      exact ⟨a, vs, rfl, rfl, .inr ⟨.of ha, new_list k (reps_reverse ru) h3⟩⟩
  · exact h.elim
theorem m_rev (b : Bool) (ha : ME X W e ma) (hb : ME X W stp mb) (hsub : ∀ a sl : Addr, ∃ ops, subscripted (.Slice none none (some stp) p2) false (.ref a) (.ref sl) = operate ops (getItem (.ref a) (.ref sl)) := by intro a sl; exact ⟨_, by with_unfolding_all rfl⟩) : ME X W (.Subscript e (.Slice none none (some stp) p2) pos) (e2 (revQ b) ma mb) := (pe_rev ha hb hsub).of (two_of (s_rev b) ha hb)
end
@[simp] theorem revQ_tup {b : Bool} {ds : List D} {st : Store} : revQ b (.tup ds) (.int (-1)) st = .ok (.tup ds.reverse) st := rfl
@[simp] theorem revQ_lst {b : Bool} {ds : List D} {st : Store} : revQ b (.lst ds) (.int (-1)) st = mkNew b ds.reverse st := rfl
@[simp] theorem revQ_loc {b : Bool} {n : Nat} {st : Store} : revQ b (.loc n) (.int (-1)) st = opt (lstAt st n) fun ds => mkNew b ds.reverse st := rfl
end Dn
/-! x < y of like data; zip of two tuples or two lists -/
namespace Dn
open PySem PySem.Spec PyProof PyProof.Rows L2
def rLtDt (K : PySem.W.Frag) : R2 := fun x y H Q => ∃ d e, Dp K H x d ∧ Dp K H y e ∧ PySem.W.alike d e = true ∧ d ≠ .none ∧ d.depth ≤ 40 ∧ Q (.bl (PySem.W.dataLt d e)) H
theorem op_ltDt {X : Cx} (hu : X.A.units + 64 < cLine) : OpR X (compareOp .Lt) (rLtDt X.K) := by
  intro pins s σ H x y v u Q I rx ry h
  obtain ⟨d, e, hd, he, ha, hn, hz, q⟩ := h
  obtain ⟨as, r1⟩ := Dp.reads I d x v hd rx
  obtain ⟨bs, r2⟩ := Dp.reads I e y u he ry
  exact PySem.W.rcLt_alike d e X.A s v u as bs r1 r2 ha hn (by omega) _ _ _ _ ⟨.bl _, H, I, rfl, q⟩
abbrev rLtQ (K : PySem.W.Frag) : R2 := fun x y H Q => rLtA x y H Q ∨ rLtDt K x y H Q
theorem or_ltQ {X : Cx} (hu : X.A.units + 64 < cLine) : OpR X (compareOp .Lt) (rLtQ X.K) := or_lt.or (op_ltDt hu)
def ltQ (x y : D) (st : Store) : Re D := if (okd 40 x && (okd 40 y && (PySem.W.alike (pd x) (pd y) && (notNon x && notNon y)))) = true then .ok (.bl (ltDt x y)) st else .bad
theorem notNon_pd {x : D} (h : notNon x = true) (hk : okd 40 x = true) : pd x ≠ .none := by
  cases x with
  | non => cases h
  | loc n => cases hk
  | exn a b c => cases hk
  | frz ds => simp [okd] at hk
  | _ => intro e; simp [pd] at e
theorem s_ltQ {K : PySem.W.Frag} {mg : Str → Option Value} : S2 K mg ltQ (rLtQ K) := by
  intro W σ μ G F st H x y v w Q k rx ry h
  obtain ⟨hc, h⟩ := ite_done h
  simp only [Bool.and_eq_true] at hc
  obtain ⟨h1, h2, h3, h4, h5⟩ := hc
  exact .inr ⟨_, _, rep_dp k.ex 40 x v h1 rx, rep_dp k.ex 40 y w h2 ry, h3, notNon_pd h4 h1, (okd_shape 40 x h1).2, fin_here k h .bl⟩
/-! zip -/
def zipP (xs ys : List D) : List D := (xs.zip ys).map fun p => D.tup [p.1, p.2]
theorem zipP_length {xs ys : List D} : (zipP xs ys).length = min xs.length ys.length := by simp [zipP]
theorem zipP_get {xs ys : List D} {i : Nat} {d : D} (h : (zipP xs ys)[i]? = some d) : ∃ x y, xs[i]? = some x ∧ ys[i]? = some y ∧ d = .tup [x, y] := by
  unfold zipP at h
  rw [List.getElem?_map] at h
  cases e : (xs.zip ys)[i]? with
  | none => rw [e] at h; cases h
  | some p =>
    rw [e] at h
    obtain ⟨h1, h2⟩ := List.getElem?_zip_eq_some.mp e
    exact ⟨p.1, p.2, h1, h2, by simpa using h.symm⟩
def isTupD : D → Bool
  | .tup _ => true
  | _ => false
theorem grdL_app {st : Store} {a b : List (Nat × Ob)} (h : grdL st (a ++ b)) : grdL st a ∧ grdL st b := by
  induction a with
  | nil => exact ⟨trivial, h⟩
  | cons p a ih =>
    obtain ⟨h1, h2⟩ := h
    obtain ⟨h3, h4⟩ := ih h2
    exact ⟨⟨h1, h3⟩, h4⟩
theorem its_tup {K : PySem.W.Frag} {mg : Str → Option Value} {μ1 : List Addr} {G1 F1 : Hp} {st1 : Store} {H1 : Hp} {x : D} {v : V} {it : Its} (k1 : Kn K mg μ1 G1 F1 st1 H1) (rv : Rep K μ1 G1 x v) (e : itsOf st1 x = some it) (ht : isTupD x = true) :
    ∃ a, v = .ref a ∧ (∃ xs, SqT K H1 a xs) ∧ ∀ μ2 G2 F2 st2 H2, Fut μ1 G1 μ2 G2 → Kn K mg μ2 G2 F2 st2 H2 → grd it st2 → ∃ xs, SqT K H2 a xs ∧ Reps K μ2 G2 it.1 xs := by
  cases x with
  | tup ds =>
    injection e with e
    subst e
    obtain ⟨a, vs', rfl, hs, rs⟩ := rep_tup rv
    exact ⟨a, rfl, ⟨vs', k1.ex.sqt hs⟩, fun μ2 G2 F2 st2 H2 f2 k2 _ => ⟨vs', k2.ex.sqt (f2.ex.sqt hs), rs.fut f2⟩⟩
  | _ => cases ht
theorem its_lst {K : PySem.W.Frag} {mg : Str → Option Value} {μ1 : List Addr} {G1 F1 : Hp} {st1 : Store} {H1 : Hp} {x : D} {v : V} {it : Its} (k1 : Kn K mg μ1 G1 F1 st1 H1) (rv : Rep K μ1 G1 x v) (e : itsOf st1 x = some it) (ht : isTupD x = false) :
    ∃ a, v = .ref a ∧ (∃ xs, SqL K H1 a xs) ∧ ∀ μ2 G2 F2 st2 H2, Fut μ1 G1 μ2 G2 → Kn K mg μ2 G2 F2 st2 H2 → grd it st2 → ∃ xs, SqL K H2 a xs ∧ Reps K μ2 G2 it.1 xs := by
  cases x with
  | tup ds => cases ht
  | lst ds =>
    injection e with e
    subst e
    obtain ⟨a, vs', rfl, hs, rs⟩ := rep_lst rv
    exact ⟨a, rfl, ⟨vs', .of (k1.ex _ _ hs)⟩, fun μ2 G2 F2 st2 H2 f2 k2 _ => ⟨vs', .of (k2.ex _ _ (f2.ex _ _ hs)), rs.fut f2⟩⟩
  | frz ds =>
    injection e with e
    subst e
    obtain ⟨a, vs', rfl, hs, rs⟩ := rep_frz rv
    exact ⟨a, rfl, ⟨vs', k1.ex.sql hs⟩, fun μ2 G2 F2 st2 H2 f2 k2 _ => ⟨vs', k2.ex.sql (f2.ex.sql hs), rs.fut f2⟩⟩
  | loc n =>
    unfold itsOf at e
    cases hc : lstAt st1 n with
    | none => simp only [hc] at e; cases e
    | some ds =>
      simp only [hc] at e
      injection e with e
      subst e
      obtain ⟨a, rfl, ha⟩ := rep_loc rv
      obtain ⟨a', vs', e', hs, rs⟩ := lstOf_rep (ds := ds) k1 rv hc
      cases e'
      refine ⟨a, rfl, ⟨vs', .of hs⟩, fun μ2 G2 F2 st2 H2 f2 k2 g2 => ?_⟩
      obtain ⟨a2, vs2, e2, hs2, rs2⟩ := lstOf_rep (d := .loc n) (ds := ds) k2 (.loc (f2.at ha)) (lstAt_of g2.1)
      cases e2
      exact ⟨vs2, .of hs2, rs2⟩
  | _ => cases e
def zipI (x y : D) (st : Store) : Re Its := match itsOf st x, itsOf st y with
  | some a, some b => if isTupD x = isTupD y then .ok (zipP a.1 b.1, a.2 ++ b.2) st else .bad
  | _, _ => .bad
def iZp (m : EMs) : IM := fun vs st => (m vs st).bind fun xs st => match xs with
  | [x, y] => zipI x y st
  | _ => .bad
section
variable {X : Cx} {W : WX} {e e2 : Expr} {elts : List Expr} {kk : Nat} {ms : EMs} {p pos tpos : Pos}
theorem i_zp (hm : X.mg "zip" = none) (ha : MA X W [e, e2] ms) (hms : ALen ms 2 := by repeat constructor) (hg : Gl X "zip" := by rfl)
    (hs : starEach [e, e2] X.env = (false, eval e X.env) :: starEach [e2] X.env := by rfl) (hpl : (backTo pos (starEach [e2] X.env)).any (·.1) = false := by rfl) :
    MI X W (.Tuple elts kk tpos) (.Call (.Name "zip" p) [e, e2] [] pos) (iZp ms) := (RZ.pi_zipA hg hm ha hs hpl).of fun σ H R h => by
  obtain ⟨vs, st, μ, G, F, re, k, h⟩ := h
  unfold iZp at h
  cases hd : ms vs st with
  | bad => rw [hd] at h; exact h.elim
  | exc ex st1 => rw [hd] at h; exact ⟨vs, st, μ, G, F, re, k, by rw [hd]; exact h⟩
  | ok ds st1 =>
    rw [hd] at h
    refine ⟨vs, st, μ, G, F, re, k, ?_⟩
    rw [hd]
    intro μ1 G1 H1 f1 k1 ws rws
    have hl := hms.len hd
    have h1 := Done.fut f1 h
    obtain ⟨d, d', rfl⟩ : ∃ d d', ds = [d, d'] := by
      match ds, hl with
      | [d, d'], _ => exact ⟨d, d', rfl⟩
    obtain ⟨v, w, rfl, rv, rw'⟩ := reps_two rws
    simp only [Re.bind] at h1
    unfold zipI at h1
    cases hi : itsOf st1 d with
    | none => simp only [hi] at h1; exact h1.elim
    | some it =>
      cases hi2 : itsOf st1 d' with
      | none => simp only [hi, hi2] at h1; exact h1.elim
      | some it2 =>
        simp only [hi, hi2] at h1
        obtain ⟨hk, h1⟩ := ite_done' h1
        obtain ⟨g, q⟩ := Done.here k1 h1
        cases ht : isTupD d with
        | true =>
          obtain ⟨a, rfl, ⟨xs0, hx0⟩, hq⟩ := its_tup k1 rv hi ht
          obtain ⟨b, rfl, ⟨ys0, hy0⟩, hq2⟩ := its_tup k1 rw' hi2 (by rw [← hk]; exact ht)
          refine ⟨a, b, xs0, ys0, rfl, .inr ⟨hx0, hy0, q _ fun μ2 G2 F2 st2 H2 f2 k2 g2 => ?_⟩⟩
          obtain ⟨g21, g22⟩ := grdL_app g2
          obtain ⟨xs, hx, rx⟩ := hq μ2 G2 F2 st2 H2 f2 k2 g21
          obtain ⟨ys, hy, ry⟩ := hq2 μ2 G2 F2 st2 H2 f2 k2 g22
          refine ⟨⟨xs, ys, hx, hy, ?_⟩, fun i d hd => ?_⟩
          · have e1 := rx.length
            have e2 := ry.length
            have e3 := zipP_length (xs := it.1) (ys := it2.1)
            show xs.length ≤ (zipP it.1 it2.1).length ∨ ys.length ≤ (zipP it.1 it2.1).length
            omega
          · obtain ⟨x, y, h1', h2', rfl⟩ := zipP_get hd
            obtain ⟨u, hu, ru⟩ := rx.get h1'
            obtain ⟨u2, hu2, ru2⟩ := ry.get h2'
            refine ⟨⟨xs, ys, u, u2, hx, hy, hu, hu2⟩, fun z H3 hz => ?_⟩
            obtain ⟨T, x', y', rfl, hT, rfl, hall, hall2⟩ := hz
            have q1 := hall xs hx
            have q2 := hall2 ys hy
            rw [hu] at q1
            rw [hu2] at q2
            cases q1
            cases q2
            exact pair_new k2 hT (.cons ru (.cons ru2 .nil))
        | false =>
          obtain ⟨a, rfl, ⟨xs0, hx0⟩, hq⟩ := its_lst k1 rv hi ht
          obtain ⟨b, rfl, ⟨ys0, hy0⟩, hq2⟩ := its_lst k1 rw' hi2 (by rw [← hk]; exact ht)
          refine ⟨a, b, xs0, ys0, rfl, .inl ⟨hx0, hy0, q _ fun μ2 G2 F2 st2 H2 f2 k2 g2 => ?_⟩⟩
          obtain ⟨g21, g22⟩ := grdL_app g2
          obtain ⟨xs, hx, rx⟩ := hq μ2 G2 F2 st2 H2 f2 k2 g21
          obtain ⟨ys, hy, ry⟩ := hq2 μ2 G2 F2 st2 H2 f2 k2 g22
          refine ⟨⟨xs, ys, hx, hy, ?_⟩, fun i d hd => ?_⟩
          · have e1 := rx.length
            have e2 := ry.length
            have e3 := zipP_length (xs := it.1) (ys := it2.1)
            show xs.length ≤ (zipP it.1 it2.1).length ∨ ys.length ≤ (zipP it.1 it2.1).length
            omega
          · obtain ⟨x, y, h1', h2', rfl⟩ := zipP_get hd
            obtain ⟨u, hu, ru⟩ := rx.get h1'
            obtain ⟨u2, hu2, ru2⟩ := ry.get h2'
            refine ⟨⟨xs, ys, u, u2, hx, hy, hu, hu2⟩, fun z H3 hz => ?_⟩
            obtain ⟨T, x', y', rfl, hT, rfl, hall, hall2⟩ := hz
            have q1 := hall xs hx
            have q2 := hall2 ys hy
            rw [hu] at q1
            rw [hu2] at q2
            cases q1
            cases q2
            exact pair_new k2 hT (.cons ru (.cons ru2 .nil))
end
@[simp] theorem iZp_eq {ms : EMs} {vs : Vars} {st : Store} : iZp ms vs st = (ms vs st).bind fun xs st => match xs with
  | [x, y] => zipI x y st
  | _ => .bad := rfl
@[simp] theorem zipI_tup {xs ys : List D} {st : Store} : zipI (.tup xs) (.tup ys) st = .ok (zipP xs ys, []) st := rfl
theorem exms_cons {K : PySem.W.Frag} {mg : Str → Option Value} {c x : Str} {l : List Str} (h : ExmT K mg c x) (r : ∀ c' ∈ l, ExmT K mg c' x) : ∀ c' ∈ c :: l, ExmT K mg c' x := fun c' h' => by
  rcases List.mem_cons.mp h' with rfl | h'
  · exact h
  · exact r c' h'
end Dn
/-! Dicts whose keys are tuples of ints, None and such tuples: over the heap. -/
namespace Dn
open PySem PySem.Spec PyProof.Rows L2
section
variable (K : PySem.W.Frag) (H : Hp)
mutual
/-- the value is the key -/
def KeyV : NestedKey → V → Prop
  | .none, v => v = .non
  | .num i, v => v = .int i
  | .text _, _ => False
  | .tup ks, v => ∃ a vs, v = .ref a ∧ SqT K H a vs ∧ KeyVs ks vs
def KeyVs : List NestedKey → List V → Prop
  | [], vs => vs = []
  | k :: ks, vs => ∃ v r, vs = v :: r ∧ KeyV k v ∧ KeyVs ks r
end
end
section
variable {K : PySem.W.Frag} {H H' : Hp} {μ : List Addr} {G : Hp}
mutual
theorem rep_keyV (e : Ex G H) : ∀ {k : NestedKey} {v : V}, plainN k = true → Rep K μ G (dkN k) v → KeyV K H k v
  | .none, v, _, h => by unfold KeyV; exact rep_non h
  | .num i, v, _, h => by unfold KeyV; exact rep_int h
  | .text x, v, p, h => by unfold plainN at p; cases p
  | .tup ks, v, p, h => by
    unfold KeyV
    unfold plainN at p
    unfold dkN at h
    obtain ⟨a, vs, rfl, s, r⟩ := rep_tup h
    exact ⟨a, vs, rfl, e.sqt s, rep_keyVs e p r⟩
theorem rep_keyVs (e : Ex G H) : ∀ {ks : List NestedKey} {vs : List V}, plainNs ks = true → Reps K μ G (dksN ks) vs → KeyVs K H ks vs
  | [], vs, _, h => by unfold KeyVs; exact reps_nil h
  | k :: ks, vs, p, h => by
    unfold KeyVs
    unfold plainNs at p
    rw [Bool.and_eq_true] at p
    unfold dksN at h
    obtain ⟨v, r, rfl, h1, h2⟩ := reps_cons h
    exact ⟨v, r, rfl, rep_keyV e p.1 h1, rep_keyVs e p.2 h2⟩
end
mutual
theorem KeyV.ex (e : Ex H H') : ∀ {k : NestedKey} {v : V}, KeyV K H k v → KeyV K H' k v
  | .none, v, h => by unfold KeyV at h ⊢; exact h
  | .num i, v, h => by unfold KeyV at h ⊢; exact h
  | .text x, v, h => by unfold KeyV at h; exact h.elim
  | .tup ks, v, h => by
    unfold KeyV at h ⊢
    obtain ⟨a, vs, rfl, s, r⟩ := h
    exact ⟨a, vs, rfl, e.sqt s, KeyVs.ex e r⟩
theorem KeyVs.ex (e : Ex H H') : ∀ {ks : List NestedKey} {vs : List V}, KeyVs K H ks vs → KeyVs K H' ks vs
  | [], vs, h => by unfold KeyVs at h ⊢; exact h
  | k :: ks, vs, h => by
    unfold KeyVs at h ⊢
    obtain ⟨v, r, rfl, h1, h2⟩ := h
    exact ⟨v, r, rfl, KeyV.ex e h1, KeyVs.ex e h2⟩
end
mutual
theorem keyV_plain : ∀ {k : NestedKey} {v : V}, KeyV K H k v → plainN k = true
  | .none, v, h => rfl
  | .num i, v, h => rfl
  | .text x, v, h => by unfold KeyV at h; exact h.elim
  | .tup ks, v, h => by
    unfold KeyV at h
    obtain ⟨a, vs, rfl, s, r⟩ := h
    unfold plainN
    exact keyVs_plain r
theorem keyVs_plain : ∀ {ks : List NestedKey} {vs : List V}, KeyVs K H ks vs → plainNs ks = true
  | [], vs, h => rfl
  | k :: ks, vs, h => by
    unfold KeyVs at h
    obtain ⟨v, r, rfl, h1, h2⟩ := h
    unfold plainNs
    rw [keyV_plain h1, keyVs_plain h2]
    rfl
end
end
mutual
theorem hash_plain (w w' : World) : ∀ {k : NestedKey}, plainN k = true → k.hash w = k.hash w'
  | .none, _ => rfl
  | .num _, _ => rfl
  | .text _, h => by unfold plainN at h; cases h
  | .tup ks, h => by
    unfold plainN at h
    unfold NestedKey.hash
    rw [hashes_plain w w' h]
theorem hashes_plain (w w' : World) : ∀ {ks : List NestedKey}, plainNs ks = true → NestedKey.hashes w ks = NestedKey.hashes w' ks
  | [], _ => rfl
  | k :: ks, h => by
    unfold plainNs at h
    rw [Bool.and_eq_true] at h
    unfold NestedKey.hashes
    rw [hash_plain w w' h.1, hashes_plain w w' h.2]
end
section
variable {X : Cx} {pins : List (Addr × Obj)} {σ : L2.St} {H : Hp} {s : Shared}
mutual
theorem keyV_is (I : Inv X pins σ H s) : ∀ {k : NestedKey} {v : V} {u : Value}, KeyV X.K H k v → RelV v u → NestedIs s.heap k u
  | .none, v, u, h, r => by
    unfold KeyV at h
    subst h
    obtain rfl : u = Value.none := r
    exact .none
  | .num i, v, u, h, r => by
    unfold KeyV at h
    subst h
    obtain ⟨t, rfl⟩ := (show ∃ t, u = Value.int i t from r)
    exact .int i t
  | .text x, v, u, h, r => by unfold KeyV at h; exact h.elim
  | .tup ks, v, u, h, r => by
    unfold KeyV at h
    obtain ⟨a, vs, rfl, sq, hk⟩ := h
    obtain rfl : u = Value.ref a := r
    obtain ⟨its, rv, ⟨o, e1, e2, n, e3⟩, _⟩ := I.tuple sq
    exact .tup e1 e2 e3 (by simpa using keyVs_is I hk rv)
theorem keyVs_is (I : Inv X pins σ H s) : ∀ {ks : List NestedKey} {vs : List V} {its : List Value}, KeyVs X.K H ks vs → Vals vs its → NestedAll s.heap ks its
  | [], vs, its, h, r => by
    unfold KeyVs at h
    subst h
    cases r
    exact .nil
  | k :: ks, vs, its, h, r => by
    unfold KeyVs at h
    obtain ⟨v, t, rfl, h1, h2⟩ := h
    cases r with
    | cons r1 r2 => exact .cons (keyV_is I h1 r1) (keyVs_is I h2 r2)
end
end
/-! ### the dict -/
def valN (ps : NPs) (k : NestedKey) : Option V := (ps.find? fun p => decide (p.1 = k)).map (·.2.2)
def putN (ps : NPs) (k : NestedKey) (b : Addr) (v : V) : NPs := if (valN ps k).isSome then ps.map (fun p => if p.1 = k then (p.1, p.2.1, v) else p) else ps ++ [(k, b, v)]
theorem NRel.val {ps : NPs} {xs : List (NestedKey × Addr × Value)} (r : NRel ps xs) (k : NestedKey) : RelO (valN ps k) ((atKey xs k).map (·.2)) := by
  unfold valN atKey
  induction r with
  | nil => exact True.intro
  | @cons p q ps qs h t ih =>
    obtain ⟨h1, h2, h3⟩ := h
    rw [List.find?_cons, List.find?_cons]
    by_cases e : p.1 = k
    · have e' : q.1 = k := by rw [← h1]; exact e
      simp only [e, e', decide_true]
      exact h3
    · have e' : ¬ q.1 = k := by rw [← h1]; exact e
      simp only [e, e', decide_false]
      exact ih
theorem NRel.put {ps : NPs} {xs : List (NestedKey × Addr × Value)} (r : NRel ps xs) (k : NestedKey) (b : Addr) {v : V} {u : Value} (rv : RelV v u) : NRel (putN ps k b v) (storedH xs k b u) := by
  have e := (r.val k).isSome_eq
  rw [Option.isSome_map] at e
  unfold putN storedH
  rw [e]
  by_cases q : (atKey xs k).isSome = true
  · rw [if_pos q, if_pos q]
    clear e q
    induction r with
    | nil => exact .nil
    | @cons p q ps qs h t ih =>
      obtain ⟨h1, h2, h3⟩ := h
      refine .cons ?_ ih
      unfold putAt
      by_cases e : p.1 = k
      · have e' : q.1 = k := by rw [← h1]; exact e
        simp only [e, e', if_true]
        exact ⟨trivial, h2, rv⟩
      · have e' : ¬ q.1 = k := by rw [← h1]; exact e
        simp only [e, e', if_false]
        exact ⟨h1, h2, h3⟩
  · rw [if_neg q, if_neg q]
    exact Paired.snoc r ⟨rfl, rfl, rv⟩
theorem putN_length {ps : NPs} {k : NestedKey} {b : Addr} {v : V} : (putN ps k b v).length ≤ ps.length + 1 := by
  unfold putN
  split <;> simp
theorem putN_mem {ps : NPs} {k : NestedKey} {b : Addr} {v : V} {p : NestedKey × Addr × V} (h : p ∈ putN ps k b v) : (∃ q ∈ ps, q.1 = p.1 ∧ q.2.1 = p.2.1) ∨ (p.1 = k ∧ p.2.1 = b) := by
  unfold putN at h
  split at h
  · obtain ⟨q, hq, e⟩ := List.mem_map.mp h
    split at e
    · subst e; exact .inl ⟨q, hq, rfl, rfl⟩
    · subst e; exact .inl ⟨q, hq, rfl, rfl⟩
  · rcases List.mem_append.mp h with h | h
    · exact .inl ⟨p, h, rfl, rfl⟩
    · rw [List.mem_singleton] at h
      subst h
      exact .inr ⟨rfl, rfl⟩
/-- at a stands a dict with these pairs, which may be read -/
structure DN (K : PySem.W.Frag) (H : Hp) (a : Addr) (ps : NPs) : Prop where
  rd : Rd H a (.ext (phiN a ps))
  len : ps.length ≤ sizeLine
  nsys : (a == sysModules) = false
  keys : ∀ p ∈ ps, KeyV K H p.1 (.ref p.2.1) ∧ p.1.depth ≤ 8
theorem NRel.mem {ps : NPs} {xs : List (NestedKey × Addr × Value)} (r : NRel ps xs) : ∀ x ∈ xs, ∃ p ∈ ps, p.1 = x.1 ∧ p.2.1 = x.2.1 := by
  induction r with
  | nil => intro x hx; exact nomatch hx
  | @cons p q ps qs h t ih =>
    intro x hx
    rcases List.mem_cons.mp hx with rfl | hx
    · exact ⟨p, List.mem_cons_self, h.1, h.2.1⟩
    · obtain ⟨p', hp, e⟩ := ih x hx
      exact ⟨p', List.mem_cons_of_mem _ hp, e⟩
theorem phiN_stay {a : Addr} {ps : NPs} (h1 h2 : Heap) (p : phiN a ps h1) (k : ∀ o, h1.get? a = some o → h2.get? a = some o) : phiN a ps h2 := by
  obtain ⟨w, xs, r, o, es, ep, e1, e2⟩ := p
  exact ⟨w, xs, r, o, es, ep, k _ e1, e2⟩
section
variable {X : Cx} {pins : List (Addr × Obj)} {σ : L2.St} {H H' : Hp} {s : Shared} {a b : Addr} {ps : NPs} {k : NestedKey} {v : V} {r : Value} {A : Around} {E : Value → Shared → Prop}
theorem DN.raw (I : Inv X pins σ H s) (d : DN X.K H a ps) : ∃ xs, NRel ps xs ∧ s.heap.DictOfH (nestedKind X.prog X.w) a xs := by
  obtain ⟨⟨w, xs, r, o, es, ep, e1, e2, e3, e4, e5⟩, _⟩ := (show ObjOk X.prog X.w H s.heap a (.ext (phiN a ps)) from d.rd.ok I.hok)
  have hk : ∀ x ∈ xs, KeyV X.K H x.1 (.ref x.2.1) ∧ x.1.depth ≤ 8 := fun x hx => by
    obtain ⟨p, hp, h1, h2⟩ := r.mem x hx
    rw [← h1, ← h2]
    exact d.keys p hp
  refine ⟨xs, r, o, es, ep, e1, e2, e3, ?_, fun x hx => ⟨keyV_is I (hk x hx).1 rfl, (hk x hx).2⟩, e5⟩
  rw [e4]
  refine List.map_congr_left fun x hx => ?_
  show (⟨x.1.hash w, .ref x.2.1, x.2.2⟩ : DictEntry) = ⟨x.1.hash X.w, .ref x.2.1, x.2.2⟩
  rw [hash_plain w X.w (keyV_plain (hk x hx).1)]
theorem nested_room (hu : A.units + 9 < cLine) : (nestedKind X.prog X.w).room A.in1 := by
  show A.units + 1 + 8 < cLine
  omega
/-- d[y] -/
theorem n_getItem {Q : Value → Shared → Prop} (hu : A.units + 9 < cLine) (I : Inv X pins σ H s) (d : DN X.K H a ps) (hk : KeyV X.K H k (.ref b)) (h8 : k.depth ≤ 8) (l : valN ps k = some v) (h : ∀ w' s', Inv X pins σ H s' → RelV v w' → Q w' s') :
    wpAny (model X.prog X.w) A (getItem (.ref a) (.ref b)) Q E s := by
  obtain ⟨xs, rel, dd⟩ := d.raw I
  obtain ⟨w', hw, rw'⟩ := RelO.some_of (v := v) (o := (atKey xs k).map (·.2)) (by rw [← l]; exact rel.val k)
  obtain ⟨p, hp, hp2⟩ := Option.map_eq_some_iff.mp hw
  refine wpAny_getItem_heap (knd := nestedKind X.prog X.w) (nested_room hu) ⟨keyV_is I hk rfl, h8⟩ dd hp ?_
  rw [hp2]
  exact h w' _ (I.tok _) rw'
theorem n_in {Q : Value → Shared → Prop} (hu : A.units + 9 < cLine) (I : Inv X pins σ H s) (d : DN X.K H a ps) (hk : KeyV X.K H k (.ref b)) (h8 : k.depth ≤ 8) (h : ∀ s', Inv X pins σ H s' → Q (.bool (valN ps k).isSome) s') :
    wpAny (model X.prog X.w) A (compareOp .In (.ref b) (.ref a)) Q E s := by
  obtain ⟨xs, rel, dd⟩ := d.raw I
  refine wpAny_in_heap (knd := nestedKind X.prog X.w) (nested_room hu) ⟨keyV_is I hk rfl, h8⟩ d.nsys dd ?_
  have q := (rel.val k).isSome_eq
  rw [Option.isSome_map] at q
  rw [← q]
  exact h _ (I.tok _)
theorem n_notIn {Q : Value → Shared → Prop} (hu : A.units + 9 < cLine) (I : Inv X pins σ H s) (d : DN X.K H a ps) (hk : KeyV X.K H k (.ref b)) (h8 : k.depth ≤ 8) (h : ∀ s', Inv X pins σ H s' → Q (.bool (!(valN ps k).isSome)) s') :
    wpAny (model X.prog X.w) A (compareOp .NotIn (.ref b) (.ref a)) Q E s := by
  obtain ⟨xs, rel, dd⟩ := d.raw I
  refine wpAny_notIn_heap (knd := nestedKind X.prog X.w) (nested_room hu) ⟨keyV_is I hk rfl, h8⟩ d.nsys dd ?_
  have q := (rel.val k).isSome_eq
  rw [Option.isSome_map] at q
  rw [← q]
  exact h _ (I.tok _)
theorem phiN_new {h' : Heap} {xs : List (NestedKey × Addr × Value)} (rel : NRel ps xs) (dd : h'.DictOfH (nestedKind X.prog X.w) a xs) : ObjOk X.prog X.w H' h' a (.ext (phiN a ps)) := by
  obtain ⟨o, es, ep, e1, e2, e3, e4, _, e5⟩ := dd
  exact ⟨⟨X.w, xs, rel, o, es, ep, e1, e2, e3, e4, e5⟩, ⟨o, e1⟩, phiN_stay⟩
/-- d[y] = v -/
theorem n_setItem {Q : Unit → Shared → Prop} (hu : A.units + 9 < cLine) (I : Inv X pins σ H s) (d : DN X.K H a ps) (hm : H a = some (.ext (phiN a ps))) (hk : KeyV X.K H k (.ref b)) (h8 : k.depth ≤ 8) (rv : RelV v r) (h : ∀ s', Inv X pins σ (upd H a (.ext (phiN a (putN ps k b v)))) s' → Q () s') :
    wpAny (model X.prog X.w) A (setItem (.ref a) (.ref b) r) Q E s := by
  obtain ⟨xs, rel, dd⟩ := d.raw I
  have hz : xs.length ≤ sizeLine := by rw [← Paired.length rel]; exact d.len
  refine wpAny_setItem_heap (knd := nestedKind X.prog X.w) (hsz := hz) (nested_room hu) ⟨keyV_is I hk rfl, h8⟩ dd fun h' dd' hs => h _ ?_
  have he : ∃ q, h'.get? a = some q := let ⟨q, _, _, hq, _⟩ := dd'; ⟨q, hq⟩
  exact d_write I (by rw [hm]; exact True.intro) hs he (phiN_new (rel.put k b rv) dd')
theorem n_typeIs (I : Inv X pins σ H s) (d : DN X.K H a ps) : s.TypeIs (.ref a) "dict" := by
  obtain ⟨xs, rel, dd⟩ := d.raw I
  exact dd.typeIs
end
end Dn
/-! Dicts whose keys are tuples: what the code means. -/
namespace Dn
open PySem PySem.Spec PyProof.Rows L2
mutual
def nkD : D → Option NestedKey
  | .non => some .none
  | .int i => some (.num i)
  | .tup ds => (nksD ds).map .tup
  | _ => none
def nksD : List D → Option (List NestedKey)
  | [] => some []
  | d :: ds => (nkD d).bind fun k => (nksD ds).map (k :: ·)
end
mutual
theorem nkD_is : ∀ {d : D} {k : NestedKey}, nkD d = some k → d = dkN k ∧ plainN k = true
  | .non, k, h => by unfold nkD at h; injection h with h; subst h; exact ⟨rfl, rfl⟩
  | .int i, k, h => by unfold nkD at h; injection h with h; subst h; exact ⟨rfl, rfl⟩
  | .tup ds, k, h => by
    unfold nkD at h
    cases e : nksD ds with
    | none => rw [e] at h; cases h
    | some ks =>
      rw [e] at h
      injection h with h
      subst h
      obtain ⟨h1, h2⟩ := nksD_is e
      exact ⟨by unfold dkN; rw [h1], by unfold plainN; exact h2⟩
  | .bl _, k, h => by unfold nkD at h; cases h
  | .str _, k, h => by unfold nkD at h; cases h
  | .lst _, k, h => by unfold nkD at h; cases h
  | .frz _, k, h => by unfold nkD at h; cases h
  | .loc _, k, h => by unfold nkD at h; cases h
  | .exn _ _ _, k, h => by unfold nkD at h; cases h
theorem nksD_is : ∀ {ds : List D} {ks : List NestedKey}, nksD ds = some ks → ds = dksN ks ∧ plainNs ks = true
  | [], ks, h => by unfold nksD at h; injection h with h; subst h; exact ⟨rfl, rfl⟩
  | d :: ds, ks, h => by
    unfold nksD at h
    cases e : nkD d with
    | none => rw [e] at h; cases h
    | some k =>
      rw [e] at h
      have h : (nksD ds).map (k :: ·) = some ks := h
      cases e2 : nksD ds with
      | none => rw [e2] at h; cases h
      | some r =>
        rw [e2] at h
        injection h with h
        subst h
        obtain ⟨h1, h2⟩ := nkD_is e
        obtain ⟨h3, h4⟩ := nksD_is e2
        exact ⟨by unfold dksN; rw [h1, h3], by unfold plainNs; rw [h2, h4]; rfl⟩
end
/-- a key: a tuple -/
def topK : D → Option NestedKey
  | .tup ds => (nksD ds).bind fun ks => if (NestedKey.tup ks).depth ≤ 8 then some (.tup ks) else none
  | _ => none
theorem topK_is {d : D} {k : NestedKey} (h : topK d = some k) : d = dkN k ∧ keyN k = true := by
  cases d with
  | tup ds =>
    have h : (nksD ds).bind (fun ks => if (NestedKey.tup ks).depth ≤ 8 then some (NestedKey.tup ks) else none) = some k := h
    cases e : nksD ds with
    | none => rw [e] at h; cases h
    | some ks =>
      rw [e] at h
      have h : (if (NestedKey.tup ks).depth ≤ 8 then some (NestedKey.tup ks) else none) = some k := h
      split at h
      · rename_i h8
        injection h with h
        subst h
        obtain ⟨h1, h2⟩ := nksD_is e
        refine ⟨by unfold dkN; rw [h1], ?_⟩
        unfold keyN plainN
        rw [h2, decide_eq_true h8]
        rfl
      · cases h
  | _ => cases h
/-- the dict at x -/
def ntab (st : Store) (x : D) : Option (List (NestedKey × D)) := match x with
  | .loc n => match cell st n with
    | some (.dtt kvs) => some kvs
    | _ => none
  | _ => none
section
variable {K : PySem.W.Frag} {mg : Str → Option Value} {μ : List Addr} {G F : Hp} {st : Store} {H : Hp}
theorem repNK_keys (e : Ex G H) : ∀ {kvs : List (NestedKey × D)} {ps : NPs}, RepNK K μ G kvs ps → ∀ p ∈ ps, KeyV K H p.1 (.ref p.2.1) ∧ p.1.depth ≤ 8
  | [], ps, h => by
    have : ps = [] := h
    subst this
    intro p hp
    cases hp
  | (k, d) :: r, ps, h => by
    obtain ⟨b, v, s, rfl, hk, hb, hv, t⟩ := h
    intro p hp
    rcases List.mem_cons.mp hp with rfl | hp
    · unfold keyN at hk
      rw [Bool.and_eq_true] at hk
      exact ⟨rep_keyV e hk.1 hb, of_decide_eq_true hk.2⟩
    · exact repNK_keys e t p hp
theorem repNK_len : ∀ {kvs : List (NestedKey × D)} {ps : NPs}, RepNK K μ G kvs ps → ps.length = kvs.length
  | [], ps, h => by
    have : ps = [] := h
    subst this
    rfl
  | (k, d) :: r, ps, h => by
    obtain ⟨b, v, s, rfl, _, _, _, t⟩ := h
    rw [List.length_cons, List.length_cons, repNK_len t]
theorem repNK_get {k : NestedKey} : ∀ {kvs : List (NestedKey × D)} {ps : NPs}, RepNK K μ G kvs ps → relO K μ G (getK kvs k) (valN ps k)
  | [], ps, h => by
    have : ps = [] := h
    subst this
    rfl
  | (j, d) :: r, ps, h => by
    obtain ⟨b, v, s, rfl, hk, hb, hv, t⟩ := h
    by_cases e : j = k
    · subst e
      have h1 : getK ((j, d) :: r) j = some d := by simp [getK]
      have h2 : valN ((j, b, v) :: s) j = some v := by simp [valN]
      rw [h1, h2]
      exact ⟨v, rfl, hv⟩
    · have h1 : getK ((j, d) :: r) k = getK r k := by simp [getK, List.find?_cons, e]
      have h2 : valN ((j, b, v) :: s) k = valN s k := by simp [valN, List.find?_cons, e]
      rw [h1, h2]
      exact repNK_get t
theorem repNK_any {k : NestedKey} : ∀ {kvs : List (NestedKey × D)} {ps : NPs}, RepNK K μ G kvs ps → (kvs.any fun p => decide (p.1 = k)) = (valN ps k).isSome
  | [], ps, h => by
    have : ps = [] := h
    subst this
    rfl
  | (j, d) :: r, ps, h => by
    obtain ⟨b, v, s, rfl, hk, hb, hv, t⟩ := h
    rw [List.any_cons, repNK_any t]
    by_cases e : j = k
    · simp [valN, e]
    · simp [valN, List.find?_cons, e]
theorem repNK_append : ∀ {kvs kvs' : List (NestedKey × D)} {ps ps' : NPs}, RepNK K μ G kvs ps → RepNK K μ G kvs' ps' → RepNK K μ G (kvs ++ kvs') (ps ++ ps')
  | [], _, ps, _, h, h' => by
    have : ps = [] := h
    subst this
    exact h'
  | (j, d) :: r, _, ps, _, h, h' => by
    obtain ⟨b, v, s, rfl, hk, hb, hv, t⟩ := h
    exact ⟨b, v, s ++ _, rfl, hk, hb, hv, repNK_append t h'⟩
theorem repNK_map {k : NestedKey} {d : D} {v : V} (hd : Rep K μ G d v) : ∀ {kvs : List (NestedKey × D)} {ps : NPs}, RepNK K μ G kvs ps → RepNK K μ G (kvs.map fun p => if p.1 = k then (p.1, d) else p) (ps.map fun p => if p.1 = k then (p.1, p.2.1, v) else p)
  | [], ps, h => by
    have : ps = [] := h
    subst this
    rfl
  | (j, e) :: r, ps, h => by
    obtain ⟨b, w, s, rfl, hk, hb, hw, t⟩ := h
    have ih := repNK_map (k := k) hd t
    by_cases e' : j = k
    · subst e'
      have h1 : (List.map (fun p => if p.1 = j then (p.1, d) else p) ((j, e) :: r)) = (j, d) :: r.map fun p => if p.1 = j then (p.1, d) else p := by simp
      have h2 : (List.map (fun p : NestedKey × Addr × V => if p.1 = j then (p.1, p.2.1, v) else p) ((j, b, w) :: s)) = (j, b, v) :: s.map fun p => if p.1 = j then (p.1, p.2.1, v) else p := by simp
      rw [h1, h2]
      exact ⟨b, v, _, rfl, hk, hb, hd, ih⟩
    · have h1 : (List.map (fun p => if p.1 = k then (p.1, d) else p) ((j, e) :: r)) = (j, e) :: r.map fun p => if p.1 = k then (p.1, d) else p := by simp [e']
      have h2 : (List.map (fun p : NestedKey × Addr × V => if p.1 = k then (p.1, p.2.1, v) else p) ((j, b, w) :: s)) = (j, b, w) :: s.map fun p => if p.1 = k then (p.1, p.2.1, v) else p := by simp [e']
      rw [h1, h2]
      exact ⟨b, w, _, rfl, hk, hb, hw, ih⟩
theorem repNK_put {k : NestedKey} {b : Addr} {d : D} {v : V} (hk : keyN k = true) (hb : Rep K μ G (dkN k) (.ref b)) (hd : Rep K μ G d v) {kvs : List (NestedKey × D)} {ps : NPs} (h : RepNK K μ G kvs ps) : RepNK K μ G (setK kvs k d) (putN ps k b v) := by
  unfold setK putN
  rw [repNK_any h]
  split
  · exact repNK_map hd h
  · exact repNK_append h ⟨b, v, [], rfl, hk, hb, hd, rfl⟩
theorem dtt_rep {n : Nat} {v : V} {kvs : List (NestedKey × D)} (k : Kn K mg μ G F st H) (r : Rep K μ G (.loc n) v) (e : cell st n = some (.dtt kvs)) : ∃ a ps, v = .ref a ∧ μ[n]? = some a ∧ H a = some (.ext (phiN a ps)) ∧ DN K H a ps ∧ RepNK K μ G kvs ps := by
  obtain ⟨a, rfl, ha⟩ := rep_loc r
  obtain ⟨a', o, h1, _, _, h4, ps, rfl, h5, h6, q⟩ := k.cell n _ (cell_some e)
  rw [ha] at h1
  cases h1
  exact ⟨a, ps, rfl, ha, h4, ⟨.of h4, by rw [repNK_len q]; exact h5, h6, repNK_keys k.ex q⟩, q⟩
theorem ntab_rep {x : D} {v : V} {kvs : List (NestedKey × D)} (k : Kn K mg μ G F st H) (r : Rep K μ G x v) (e : ntab st x = some kvs) : ∃ n a ps, x = .loc n ∧ cell st n = some (.dtt kvs) ∧ v = .ref a ∧ μ[n]? = some a ∧ H a = some (.ext (phiN a ps)) ∧ DN K H a ps ∧ RepNK K μ G kvs ps := by
  unfold ntab at e
  split at e
  · rename_i n
    split at e
    · rename_i l hc
      injection e with e
      subst e
      obtain ⟨a, ps, h1, h2, h3, h4, h5⟩ := dtt_rep k r hc
      exact ⟨n, a, ps, rfl, hc, h1, h2, h3, h4, h5⟩
    · cases e
  · cases e
theorem topK_rep {y : D} {w : V} {j : NestedKey} (e : Ex G H) (r : Rep K μ G y w) (h : topK y = some j) : ∃ b, w = .ref b ∧ keyN j = true ∧ Rep K μ G (dkN j) (.ref b) ∧ KeyV K H j (.ref b) ∧ j.depth ≤ 8 := by
  obtain ⟨h1, h2⟩ := topK_is h
  cases y with
  | tup ds =>
    obtain ⟨b, vs, rfl, _, _⟩ := rep_tup r
    rw [h1] at r
    have h3 := h2
    unfold keyN at h3
    rw [Bool.and_eq_true] at h3
    exact ⟨b, rfl, h2, r, rep_keyV e h3.1 r, of_decide_eq_true h3.2⟩
  | _ => cases h
end
/-! ### d[y], y in d, d[y] = v, {} -/
def ixN (x y : D) (st : Store) : Re D := match ntab st x with
  | some kvs => match topK y with
    | some k => match getK kvs k with
      | some d => .ok d st
      | none => .bad
    | none => .bad
  | none => .bad
def inN (neg : Bool) (y x : D) (st : Store) : Re D := match ntab st x with
  | some kvs => match topK y with
    | some k => .ok (.bl (if neg then !(getK kvs k).isSome else (getK kvs k).isSome)) st
    | none => .bad
  | none => .bad
def setN : SD := fun x y z st => match x with
  | .loc n => match cell st n with
    | some (.dtt kvs) => (topK y).bind fun k => if room (kvs.length + 1) then some (st.set n (some (.dtt (setK kvs k z)))) else none
    | _ => none
  | _ => none
def rIxN (K : PySem.W.Frag) : R2 := fun x y H Q => ∃ a ps k b v, x = .ref a ∧ DN K H a ps ∧ y = .ref b ∧ KeyV K H k (.ref b) ∧ k.depth ≤ 8 ∧ valN ps k = some v ∧ Q v H
def rInN (neg : Bool) (K : PySem.W.Frag) : R2 := fun y x H Q => ∃ a ps k b, x = .ref a ∧ DN K H a ps ∧ y = .ref b ∧ KeyV K H k (.ref b) ∧ k.depth ≤ 8 ∧ Q (.bl (if neg then !(valN ps k).isSome else (valN ps k).isSome)) H
def rSetN (K : PySem.W.Frag) : TSet := fun o i v H Q => ∃ a ps k b, o = .ref a ∧ H a = some (.ext (phiN a ps)) ∧ DN K H a ps ∧ i = .ref b ∧ KeyV K H k (.ref b) ∧ k.depth ≤ 8 ∧ Q (upd H a (.ext (phiN a (putN ps k b v))))
section
variable {X : Cx} {K : PySem.W.Frag} {mg : Str → Option Value}
theorem units9 (hu : X.A.units + 65 < cLine) : X.A.units + 9 < cLine := by omega
theorem ix_n (hu : X.A.units + 65 < cLine) : IxR X (rIxN X.K) := by
  intro value slice pins s σ H x y v u Q I rx ry h hs
  obtain ⟨a, ps, k, b, z, rfl, d, rfl, hk, h8, hv, q⟩ := h
  obtain rfl : v = Value.ref a := rx
  obtain rfl : u = Value.ref b := ry
  exact PyProof.Rows.tail_any (n_typeIs I d) PySem.F.slot_dict_getitem.lookup (n_getItem (units9 hu) I d hk h8 hv fun w' s3 I3 rw' => ⟨z, H, I3, rw', q⟩) hs
theorem s_ixN : S2 K mg ixN (rIxN K) := by
  intro W σ μ G F st H x y v w Q k rx ry h
  unfold ixN at h
  cases e : ntab st x with
  | none => rw [e] at h; exact h.elim
  | some kvs =>
    rw [e] at h
    obtain ⟨n, a, ps, rfl, hc, rfl, ha, hh, hd, rp⟩ := ntab_rep k rx e
    cases e2 : topK y with
    | none => rw [e2] at h; exact h.elim
    | some j =>
      rw [e2] at h
      obtain ⟨b, rfl, hj, hb, hkv, h8⟩ := topK_rep k.ex ry e2
      have ro := repNK_get (k := j) rp
      cases e3 : getK kvs j with
      | none => simp only [e3] at h; exact h.elim
      | some d =>
        simp only [e3] at h
        rw [e3] at ro
        obtain ⟨z, hz, rz⟩ := ro
        exact ⟨a, ps, j, b, z, rfl, hd, rfl, hkv, h8, hz, fin_here k h rz⟩
theorem or_inN (neg : Bool) (hu : X.A.units + 65 < cLine) : OpR X (compareOp (if neg then .NotIn else .In)) (rInN neg X.K) := by
  intro pins s σ H x y v u Q I rx ry h
  obtain ⟨a, ps, k, b, rfl, d, rfl, hk, h8, q⟩ := h
  obtain rfl : u = Value.ref a := ry
  obtain rfl : v = Value.ref b := rx
  cases neg with
  | false => exact n_in (units9 hu) I d hk h8 fun s3 I3 => ⟨.bl _, H, I3, rfl, q⟩
  | true => exact n_notIn (units9 hu) I d hk h8 fun s3 I3 => ⟨.bl _, H, I3, rfl, q⟩
theorem s_inN {neg : Bool} : S2 K mg (inN neg) (rInN neg K) := by
  intro W σ μ G F st H y x w v Q k ry rx h
  unfold inN at h
  cases e : ntab st x with
  | none => rw [e] at h; exact h.elim
  | some kvs =>
    rw [e] at h
    obtain ⟨n, a, ps, rfl, hc, rfl, ha, hh, hd, rp⟩ := ntab_rep k rx e
    cases e2 : topK y with
    | none => rw [e2] at h; exact h.elim
    | some j =>
      rw [e2] at h
      obtain ⟨b, rfl, hj, hb, hkv, h8⟩ := topK_rep k.ex ry e2
      have ro := relO_isSome (repNK_get (k := j) rp)
      refine ⟨a, ps, j, b, rfl, hd, rfl, hkv, h8, ?_⟩
      rw [ro]
      exact fin_here k h .bl
theorem set_n (hu : X.A.units + 65 < cLine) : PSet X (rSetN X.K) := by
  intro pins s σ H o i v ov iv u Q I ro ri rv h
  obtain ⟨a, ps, k, b, rfl, hm, d, rfl, hk, h8, q⟩ := h
  cases (show ov = Value.ref a from ro)
  cases (show iv = Value.ref b from ri)
  exact n_setItem (units9 hu) I d hm hk h8 rv fun s' I' => ⟨_, I', q⟩
theorem setN_len {kvs : List (NestedKey × D)} {k : NestedKey} {d : D} : (setK kvs k d).length ≤ kvs.length + 1 := by
  unfold setK
  split <;> simp
theorem s_setN : SSet K mg setN (rSetN K) := by
  intro μ G F st st' H x y z v w u Q k rx ry rz e q
  unfold setN at e
  split at e
  · rename_i n
    split at e
    · rename_i kvs hc
      obtain ⟨a, ps, rfl, ha, hs, hd, rp⟩ := dtt_rep k rx hc
      cases hk : topK y with
      | none => rw [hk] at e; cases e
      | some j =>
        rw [hk] at e
        have e' : (if room (kvs.length + 1) then some (st.set n (some (.dtt (setK kvs j z)))) else none) = some st' := e
        split at e'
        · rename_i hr
          injection e' with e3
          subst e3
          obtain ⟨b, rfl, hj, hb, hkv, h8⟩ := topK_rep k.ex ry hk
          have hl := room_lt hr
          have hl2 := setN_len (kvs := kvs) (k := j) (d := z)
          exact ⟨a, ps, j, b, rfl, hs, hd, rfl, hkv, h8, q _ (k.write (cell_some hc) ha ⟨_, rfl, by omega, hd.nsys, repNK_put hj hb rz rp⟩)⟩
        · cases e'
    · cases e
  · cases e
/-- {} -/
def eNnw : EM := fun _ st => .ok (.loc st.length) (st ++ [some (.dtt [])])
def tDNewN : TE := fun _ H Q => ∀ p, H p = none → (p == sysModules) = false → Q (.ref p) (upd H p (.ext (phiN p [])))
theorem pe_dnewN {pos : Pos} : PE X (.Dict [] [] pos) tDNewN := ⟨fun pins s σ H Q I h => by
  have hs : (s.heap.objs.size == sysModules) = false := beq_eq_false_iff_ne.mpr (Ne.symm (Nat.ne_of_lt I.big))
  exact wpAny_Dict_empty ⟨.ref s.heap.objs.size, _, I.laid (a := s.heap.objs.size) (o := .ext (phiN s.heap.objs.size [])) (t' := s.toks) (fun _ _ q => Heap.get?_push_of_some _ q) (Nat.le_refl _) ⟨⟨X.w, [], .nil, _, #[], 0, Heap.get?_push_size _ rfl, ⟨rfl, rfl, rfl⟩, rfl, rfl, List.nodup_nil⟩, ⟨_, Heap.get?_push_size _ rfl⟩, phiN_stay⟩, rfl, h _ (I.hok.fresh (Nat.le_refl _)) hs⟩⟩
variable {W : WX} {a b : Expr} {ma mb : EM} {pos : Pos}
theorem m_nnw : ME X W (.Dict [] [] pos) eNnw := pe_dnewN.of fun σ H Q h p hp hs => by
  obtain ⟨vs, st, μ, G, F, re, k, h⟩ := h
  refine h (μ ++ [p]) G _ ⟨⟨[p], rfl⟩, .refl G⟩ (k.alloc hp ⟨[], rfl, Nat.zero_le _, hs, rfl⟩) _ (.loc ?_)
  rw [← k.len, List.getElem?_append_right (Nat.le_refl _), Nat.sub_self]
  rfl
theorem m_ixN (hu : X.A.units + 65 < cLine) (ha : ME X W a ma) (hb : ME X W b mb) (hs : PlainIx b := by exact fun _ _ => rfl) : ME X W (.Subscript a b pos) (e2 ixN ma mb) := (pe_ix (ix_n hu) ha hb hs).of (two_of s_ixN ha hb)
end
end Dn
/-! sorted(d), sorted(d, reverse=True) of a dict whose keys are tuples -/
namespace Dn
open PySem PySem.Spec PyProof PyProof.Rows PySem.W L2
def kwR : Option Bool → List (Str × Value)
  | none => []
  | some b => [(Str.ofString "reverse", .bool b)]
section
variable {prog : Program} {w : World} {A : Around} {E : Value → Shared → Prop} {s : Shared}
theorem sorted_src (o : Option Bool) {β : Type} {enc : β → PyData} {R : Value → β → Prop} {vs : List Value} {bs : List β} {T : String} {r d : Addr} {n : Nat} {P : Nat → Value → Prop} {OK : Heap → Prop} {Q : Value → Shared → Prop} (K : KdlSrc prog w T r d n P OK) (hh : A.handled = none) (hok : OK s.heap) (hn : n ≤ sizeLine)
    (hv : ∀ acc : Array Value, ItemsOf P acc n → acc.toList = vs) (e : EachIs R vs bs) (er : EachIs (fun v b => ∃ as, Reads s.heap v (enc b) as) vs bs) (hal : AllAlike (bs.map enc)) (hk : Sortable (bs.map enc)) (hL : bs.length ≤ sizeLine)
    (hu : ∀ b, b ∈ bs → A.units + 2 + (enc b).depth < cLine)
    (h : ∀ (p : Addr) (h' : Heap) (tk : Nat) (out : List Value) (ep : Nat), s.heap.get? p = none → (∀ b ob, s.heap.get? b = some ob → h'.get? b = some ob) → h'.get? p = some (seqObj "list" out.toArray ep) → out.length = bs.length → EachIs R out (bs.mergeSort (dataLe (o.getD false) enc)) → Q (.ref p) { s with heap := h', toks := tk }) :
    wpAny (model prog w) A (call (.builtin "sorted") [.ref r] (kwR o)) Q E s := by
  have hvL : vs.length ≤ sizeLine := by rw [e.length]; exact hL
  have ha1 : argsOk "sorted" ⟨[.ref r], kwR o⟩ := by
    cases o with
    | none => exact args_sorted1 _
    | some b => exact args_sorted_rev _ _
  have ha2 : ∀ x : Value, argsOk "list.sort" ⟨[x], kwR o⟩ := fun x => by
    cases o with
    | none => exact args_list_sort _
    | some b => exact args_list_sort_rev _ _
  refine call_function_entry_kw kind_sorted plain_sorted entry_sorted ha1 ?_
  unfold Builtin.«sorted»
  refine wpAny_bind (m := checkCount "sorted" 1 1 _) (wpAny_pure ?_)
  refine wpAny_bind (kdu_collect K hh hok hn fun h1 tk acc hk1 hi => ?_)
  rw [hv acc hi]
  refine wpAny_bind (wpAny_newList ?_ hvL)
  have hD : (h1.push (seqObj "list" vs.toArray 0)).get? h1.objs.size = some (seqObj "list" vs.toArray 0) := Heap.get?_push_size _ rfl
  have hold : ∀ b ob, s.heap.get? b = some ob → (h1.push (seqObj "list" vs.toArray 0)).get? b = some ob := fun b ob q => Heap.get?_push_of_some _ (hk1 b ob q)
  have hne : ∀ b ob, s.heap.get? b = some ob → b ≠ h1.objs.size := fun b ob q => Nat.ne_of_lt (Heap.lt_size (hk1 b ob q))
  have hle : s.heap.get? h1.objs.size = none := by
    cases q : s.heap.get? h1.objs.size with
    | none => rfl
    | some ob => exact absurd (Heap.lt_size (hk1 _ _ q)) (Nat.lt_irrefl _)
  have er' : EachIs (fun v b => ∃ as, Reads (sortingHeap (h1.push (seqObj "list" vs.toArray 0)) h1.objs.size vs) v (enc b) as) vs bs := er.mono fun _ _ ⟨as, r⟩ => ⟨as, PyProof.Rows.Reads.keeps (fun b ob q => sortingHeap_old (hne b ob q) (hold b ob q)) r⟩
  have S : SortsAt prog w A.in1.in1 { s with heap := sortingHeap (h1.push (seqObj "list" vs.toArray 0)) h1.objs.size vs, toks := tk } (dataKind (sortingHeap (h1.push (seqObj "list" vs.toArray 0)) h1.objs.size vs) (bs.map enc)) vs :=
    SortsAt.data (s := { s with heap := sortingHeap (h1.push (seqObj "list" vs.toArray 0)) h1.objs.size vs, toks := tk }) (each_map (R := fun v d => ∃ as, Reads (sortingHeap (h1.push (seqObj "list" vs.toArray 0)) h1.objs.size vs) v d as) enc er') hal hk (bound_map hu)
  have fin : ∀ b, b = o.getD false → Q (.ref h1.objs.size) { s with heap := sortedHeap (h1.push (seqObj "list" vs.toArray 0)) h1.objs.size vs (sortVals (dataKind (sortingHeap (h1.push (seqObj "list" vs.toArray 0)) h1.objs.size vs) (bs.map enc)) b vs vs).toArray, toks := tk } := fun b hb => by
    subst hb
    obtain ⟨ep, hep⟩ := sortedHeap_at (out := (sortVals (dataKind (sortingHeap (h1.push (seqObj "list" vs.toArray 0)) h1.objs.size vs) (bs.map enc)) (o.getD false) vs vs).toArray) hD
    exact h _ _ tk _ ep hle (fun b ob q => by rw [sortedHeap_old (hne b ob q) (Heap.lt_size (hold b ob q))]; exact hold b ob q) hep (by rw [sortVals_length _ rfl]; exact e.length) (sortVals_data _ e er' hal)
  refine wpAny_bind (wpAny_holding (wpAny_call_entry_kw slot_list_sort ⟨_, hD, rfl⟩ entry_list_sort ?body (ha2 _)))
  case body =>
    refine wpAny_mono (Q := fun f s' => f = .done (.ret .none) ∧ Q (.ref h1.objs.size) s') ?_ (fun f s' hf => ?_) fun _ _ e => e
    · cases o with
      | none => exact list_sort_vals (s := { s with heap := h1.push (seqObj "list" vs.toArray 0), toks := tk }) hD S hvL ⟨rfl, fin _ rfl⟩
      | some b => exact list_sort_rev_vals (s := { s with heap := h1.push (seqObj "list" vs.toArray 0), toks := tk }) hD S hvL ⟨rfl, fin _ rfl⟩
    · obtain ⟨rfl, hq⟩ := hf
      exact ⟨_, rfl, wpAny_pure ⟨_, rfl, hq⟩⟩
end
theorem vals_keys {nps : NPs} {xs : List (NestedKey × Addr × Value)} (r : NRel nps xs) : Vals (nps.map fun p => V.ref p.2.1) (xs.map fun x => Value.ref x.2.1) := by
  induction r with
  | nil => exact .nil
  | cons h t ih => exact .cons (by show Value.ref _ = Value.ref _; rw [h.2.1]) ih
def rSortN (b : Bool) (K : PySem.W.Frag) : List V → Hp → VK → Prop := fun vs H Q => ∃ (a : Addr) (nps : NPs) (ps : List (V × D)), vs = [V.ref a] ∧ DN K H a nps ∧ ps.map Prod.fst = nps.map (fun p => V.ref p.2.1) ∧ DpAll K H (ps.map Prod.fst) ((ps.map Prod.snd).map pd) ∧ srtOk (ps.map Prod.snd) = true ∧
  ∀ p, H p = none → Q (.ref p) (upd H p (.lst ((ps.mergeSort (PySem.W.dataLe b fun p => pd p.2)).map Prod.fst)))
section
variable {X : Cx} {pins : List (Addr × Obj)} {σ : L2.St} {H : Hp} {s : Shared}
theorem sortN_run (o : Option Bool) (hc : X.calm = true) (hu : X.A.units + 65 < cLine) {vs : List V} {us : List Value} {Q : VK} (I : Inv X pins σ H s) (r : Vals vs us) (h : rSortN (o.getD false) X.K vs H Q) : wpAny (model X.prog X.w) X.A (call (.builtin "sorted") us (kwR o)) (EP X pins σ Q) X.xe s := by
  obtain ⟨a, nps, ps, rfl, d, ef, hd, ho, q⟩ := h
  rw [Vals.ref1 r]
  obtain ⟨⟨w, xs, rel, ob, es, ep, e1, e2, e3, e4, e5⟩, _⟩ := (show ObjOk X.prog X.w H s.heap a (.ext (phiN a nps)) from d.rd.ok I.hok)
  have rv := vals_keys rel
  rw [← ef] at rv
  have hsz : es.size = xs.length := by rw [← Array.length_toList, e4, List.length_map]
  have hxl : xs.length = nps.length := (Paired.length rel).symm
  have hpl : ps.length = nps.length := by
    have := congrArg List.length ef
    simpa using this
  have hn : es.size ≤ sizeLine := by rw [hsz, hxl]; exact d.len
  have e := each_vals rv
  obtain ⟨as, hra⟩ := Dp.readsAll I _ _ _ hd rv
  rw [List.map_map] at hra
  have er : PySem.W.EachIs (fun v (p : V × D) => ∃ as, Reads s.heap v (pd p.2) as) (xs.map fun x => Value.ref x.2.1) ps := PySem.W.readsAll_each (fun p : V × D => pd p.2) hra
  unfold srtOk at ho
  rw [Bool.and_eq_true, Bool.and_eq_true] at ho
  obtain ⟨h1, h2, h3⟩ := ho
  have e6 : ps.map (fun p : V × D => pd p.2) = (ps.map Prod.snd).map pd := by rw [List.map_map]; rfl
  have hal : PySem.W.AllAlike (ps.map fun p : V × D => pd p.2) := by rw [e6]; exact likes_all h2
  have hk : PySem.W.Sortable (ps.map fun p : V × D => pd p.2) := by rw [e6]; exact sortable_of h3
  refine sorted_src o (kdl_raw d.nsys e2 e3) (I.ok.hd hc) e1 hn (fun acc hi => ?_) e er hal hk (by rw [hpl]; exact d.len) (fun p hp => ?_) fun p h' tk out ep hp hkp hat hol eo => ?_
  · apply List.ext_getElem?
    intro j
    rw [List.getElem?_map]
    cases hj : acc.toList[j]? with
    | none =>
      have h1 := List.getElem?_eq_none_iff.mp hj
      rw [Array.length_toList, hi.1, hsz] at h1
      rw [List.getElem?_eq_none h1]
      rfl
    | some v =>
      obtain ⟨en, hen, hv⟩ := hi.2 j v (by rw [← Array.getElem?_toList]; exact hj)
      have qe : es[j]? = (xs[j]?).map (entN w) := by rw [← Array.getElem?_toList, e4, List.getElem?_map]
      rw [hen] at qe
      cases hb : xs[j]? with
      | none =>
        rw [hb] at qe
        exact nomatch (show some en = none from qe)
      | some b =>
        rw [hb] at qe
        have e2 : en = entN w b := Option.some.inj qe
        rw [hv, e2]
        rfl
  · have := (okd_shape 40 p.2 (List.all_eq_true.mp h1 p.2 (List.mem_map_of_mem hp))).2
    omega
  · have hHp : H p = none := by
      cases q2 : H p with
      | none => rfl
      | some u =>
        obtain ⟨ob, hob⟩ := objOk_get (I.hok p u q2)
        rw [hp] at hob
        cases hob
    have hlen : ((ps.mergeSort (PySem.W.dataLe (o.getD false) fun p : V × D => pd p.2)).map Prod.fst).length ≤ sizeLine := by
      rw [List.length_map, (List.mergeSort_perm _ _).length_eq, hpl]
      exact d.len
    exact ⟨.ref _, upd H p (.lst ((ps.mergeSort (PySem.W.dataLe (o.getD false) fun p : V × D => pd p.2)).map Prod.fst)), I.laidN (t' := tk) hkp hp hHp ⟨hlen, out, ep, vals_each eo, hat⟩, rfl, q _ hHp⟩
theorem cr_sortN (hc : X.calm = true) (hu : X.A.units + 65 < cLine) : CallR X (.builtin "sorted") (rSortN false X.K) := fun pins s σ H vs us Q I r h => sortN_run none hc hu I r h
def rSortNR (b : Bool) (K : PySem.W.Frag) : List V → List V → Hp → VK → Prop := fun vs zs H Q => zs = [.bl b] ∧ rSortN b K vs H Q
theorem cr_sortNR {b : Bool} (hc : X.calm = true) (hu : X.A.units + 65 < cLine) : CallRK X (.builtin "sorted") [Str.ofString "reverse"] (rSortNR b X.K) := by
  intro pins s σ H vs zs us ws Q I r rz h
  obtain ⟨rfl, h⟩ := h
  obtain ⟨w1, rfl, e1⟩ := vals1 rz
  obtain rfl : w1 = Value.bool b := e1
  exact sortN_run (some b) hc hu I r h
end
def leDtR (b : Bool) (x y : D) : Bool := PySem.W.dataLe b pd x y
theorem leDtR_f : leDtR false = leDt := rfl
/-- sorted(d) of a dict with tuple keys -/
def sortN (b r : Bool) : List D → Store → Re D := one fun x st => opt (ntab st x) fun kvs => if srtOk (kvs.map fun p => dkN p.1) = true then mkNew b ((kvs.map fun p => dkN p.1).mergeSort (leDtR r)) st else .bad
section
variable {K : PySem.W.Frag} {mg : Str → Option Value} {μ : List Addr} {G F : Hp} {st : Store} {H : Hp}
theorem repNK_reps : ∀ {kvs : List (NestedKey × D)} {ps : NPs}, RepNK K μ G kvs ps → Reps K μ G (kvs.map fun p => dkN p.1) (ps.map fun p => V.ref p.2.1)
  | [], ps, h => by
    have : ps = [] := h
    subst this
    exact .nil
  | (j, d) :: r, ps, h => by
    obtain ⟨b, v, s, rfl, hk, hb, hv, t⟩ := h
    exact .cons hb (repNK_reps t)
theorem sort_sndR {r : Bool} {ps : List (V × D)} : (ps.mergeSort (PySem.W.dataLe r fun p => pd p.2)).map Prod.snd = (ps.map Prod.snd).mergeSort (leDtR r) := by
  refine List.map_mergeSort fun a _ b _ => ?_
  rfl
theorem s_sortN (b r : Bool) : SN K mg (sortN b r) (rSortN r K) := sn_one fun W σ μ G F st H x v Q k rv h => by
  obtain ⟨kvs, e, hA⟩ := opt_done h
  clear h
  obtain ⟨ho, h⟩ := ite_done hA
  clear hA
  obtain ⟨n, a, nps, rfl, hc, rfl, ha, hh, hd, rp⟩ := ntab_rep k rv e
  obtain ⟨ps, h1, h2, hp⟩ := reps_zip (repNK_reps rp)
  rw [← h2] at ho h
  have ho2 := ho
  unfold srtOk at ho2
  rw [Bool.and_eq_true] at ho2
  have hn := new_list (Q := Q) k (ds := (ps.map Prod.snd).mergeSort (leDtR r)) (vs := (ps.mergeSort (PySem.W.dataLe r fun p => pd p.2)).map Prod.fst) (by
    rw [← sort_sndR]
    exact zip_reps fun p h' => hp p ((List.mergeSort_perm _ _).mem_iff.mp h')) h
  exact ⟨a, nps, ps, rfl, hd, h1, zip_dp k.ex hp ho2.1, ho, hn⟩
end
section
variable {X : Cx} {W : WX} {x : Str} {p pos kp cp : Pos} {kd : _} {e : Expr} {ms : EMs}
/-- sorted(d, reverse=True) -/
theorem m_sortNR {b r : Bool} (hc : X.calm = true) (hu : X.A.units + 65 < cLine) (hm : X.mg "sorted" = none) (ha : MA X W [e] ms) (hg : Gl X "sorted" := by rfl)
    (he : backTo pos (starEach [e] X.env) = (false, eval e X.env) :: backTo pos (starEach [] X.env) := by rfl) (hpl : (backTo pos (starEach [e] X.env)).any (·.1) = false := by rfl) :
    ME X W (.Call (.Name "sorted" p) [e] [⟨some (Str.ofString "reverse"), .Constant (.bool r) kd cp, kp⟩] pos) (eN (sortN b r) ms) := by
  refine (pe_callBK (cr_sortNR (b := r) hc hu) hg hm (by decide +kernel) ha (pk_cons pe_bl pk_nil) (he := he) (hpl := hpl)).of fun σ H Q h => ?_
  obtain ⟨vs, st, μ, G, F, re, k, h⟩ := h
  exact ⟨vs, st, μ, G, F, re, k, (Done.bind h).mono fun μ1 G1 xs st1 H1 f1 k1 h1 ws rws => ⟨rfl, s_sortN b r W σ μ1 G1 F st1 H1 xs ws Q k1 rws h1⟩⟩
end
end Dn
/-! {k: v} of a tuple; len of a dict -/
namespace Dn
open PySem PySem.Spec PyProof.Rows L2
section
variable {X : Cx} {pos : Pos} {k v : Expr} {tk tv : TE}
def tDspX (X : Cx) (tk tv : TE) : TE := fun σ H Q => ∀ p, H p = none → (p == sysModules) = false → tk σ (upd H p (.ext (phiN p []))) fun x H1 => tv σ H1 fun y H2 => H2 p = some (.ext (phiN p [])) ∧ ∃ k b, x = .ref b ∧ KeyV X.K H2 k (.ref b) ∧ k.depth ≤ 8 ∧ Q (.ref p) (upd H2 p (.ext (phiN p [(k, b, y)])))
theorem pe_dspN (hu : X.A.units + 65 < cLine) (hk : PE X k tk) (hv : PE X v tv) : PE X (.Dict [some k] [v] pos) (tDspX X tk tv) := by
  refine ⟨fun pins s σ H Q I h => ?_⟩
  have hs : (s.heap.objs.size == sysModules) = false := beq_eq_false_iff_ne.mpr (Ne.symm (Nat.ne_of_lt I.big))
  have hn := I.hok.fresh (Nat.le_refl s.heap.objs.size)
  have I1 := I.laid (a := s.heap.objs.size) (o := .ext (phiN s.heap.objs.size [])) (h' := s.heap.push { cls := .type "dict", data := .dict #[] }) (t' := s.toks) (fun _ _ q => Heap.get?_push_of_some _ q) (Nat.le_refl _)
    ⟨⟨X.w, [], .nil, _, #[], 0, Heap.get?_push_size _ rfl, ⟨rfl, rfl, rfl⟩, rfl, rfl, List.nodup_nil⟩, ⟨_, Heap.get?_push_size _ rfl⟩, phiN_stay⟩
  have hr : (nestedKind X.prog X.w).room X.A := by show X.A.units + 8 < cLine; omega
  have hlen : (pairTrees [some k] [v] X.env pos).length = 1 := rfl
  rw [arm_eval_Dict, zip_pairTrees [some k] [v] X.env pos rfl rfl, dictDisplay_pairs _ (fun e => by rw [e] at hlen; cases hlen) (by rw [hlen]; decide)]
  refine wpAny_bind (wpAny_standAt (wpAny_bind (wpAny_subDictH (knd := nestedKind X.prog X.w) (Q := fun d s' => wpAny (model X.prog X.w) X.A (pure (Value.ref d)) (EP X pins σ Q) X.xe s') hr (by rw [hlen]; decide) ?_)))
  refine pairTrees_cons_walk (thn (hk.run pins _ σ _ _ I1 (h _ hn hs)) fun u s1 ⟨x, H1, I2, rx, q1⟩ => thn (hv.run pins s1 σ H1 _ I2 q1) fun w2 s2 ⟨y, H2, I3, ry, e, j, b, ex, hkv, h8, q2⟩ => pairTrees_nil_walk ?_)
  subst ex
  obtain rfl : u = Value.ref b := rx
  have d0 : DN X.K H2 s.heap.objs.size [] := ⟨.of e, Nat.zero_le _, hs, fun p hp => by cases hp⟩
  obtain ⟨xs, rel, dd⟩ := d0.raw I3
  cases rel
  refine ⟨[(j, b, w2)], ⟨rfl, rfl, ⟨keyV_is I3 hkv rfl, h8⟩, True.intro⟩, dd, fun h' tk dd' hsb => wpAny_pure ⟨.ref _, _, ?_, rfl, q2⟩⟩
  have he : ∃ q, h'.get? s.heap.objs.size = some q := let ⟨q, _, _, hq, _⟩ := dd'; ⟨q, hq⟩
  exact d_write I3 (by rw [e]; exact True.intro) hsb he (phiN_new (.cons ⟨rfl, rfl, ry⟩ .nil) dd')
end
section
variable {X : Cx}
theorem or_inNf (hu : X.A.units + 65 < cLine) : OpR X (compareOp .In) (rInN false X.K) := or_inN false hu
theorem or_inNt (hu : X.A.units + 65 < cLine) : OpR X (compareOp .NotIn) (rInN true X.K) := or_inN true hu
end
/-- {k: v} -/
def eDspN (mk mv : EM) : EM := fun vs st => (mk vs st).bind fun x st => (mv vs st).bind fun y st => match topK x with
  | some j => .ok (.loc st.length) (st ++ [some (.dtt [(j, y)])])
  | none => .bad
section
variable {X : Cx} {W : WX} {pos : Pos} {k v : Expr} {mk mv : EM}
theorem m_dspN (hu : X.A.units + 65 < cLine) (hk : ME X W k mk) (hv : ME X W v mv) : ME X W (.Dict [some k] [v] pos) (eDspN mk mv) := by
  refine (pe_dspN hu hk hv).of fun σ H Q q p hp hs => ?_
  obtain ⟨vs, st, μ, G, F, re, kn, q⟩ := q
  have fp : F p = none := kn.fr.free hp
  have kg := kn.guard (o := .ext (phiN p [])) hp
  unfold eDspN at q
  refine ⟨vs, st, μ, G, _, re, kg, ?_⟩
  cases hd : mk vs st with
  | bad => rw [hd] at q; exact q.elim
  | exc e st1 =>
    rw [hd] at q
    intro μ1 G1 H1 cls dd f1 k1 rx
    exact q μ1 G1 H1 cls dd f1 (k1.unguard fp) rx
  | ok x st1 =>
    rw [hd] at q
    intro μ1 G1 H1 f1 k1 u ru
    have q1 : Done X.K X.mg W σ μ1 G1 F ((mv vs st1).bind fun y st => match topK x with | some j => .ok (.loc st.length) (st ++ [some (.dtt [(j, y)])]) | none => .bad) (Fin X.K Q) := Done.fut f1 q
    refine ⟨vs, st1, μ1, G1, _, re.fut f1, k1, ?_⟩
    cases hd2 : mv vs st1 with
    | bad => rw [hd2] at q1; exact q1.elim
    | exc e st2 =>
      rw [hd2] at q1
      intro μ2 G2 H2 cls dd f2 k2 rx
      exact q1 μ2 G2 H2 cls dd f2 (k2.unguard fp) rx
    | ok y st2 =>
      rw [hd2] at q1
      intro μ2 G2 H2 f2 k2 w rw'
      refine ⟨k2.gat, ?_⟩
      have q2 : Done X.K X.mg W σ μ2 G2 F (match topK x with | some j => .ok (.loc st2.length) (st2 ++ [some (.dtt [(j, y)])]) | none => .bad) (Fin X.K Q) := Done.fut f2 q1
      cases hk : topK x with
      | none => rw [hk] at q2; exact q2.elim
      | some j =>
        rw [hk] at q2
        obtain ⟨b, rfl, hj, hb, hkv, h8⟩ := topK_rep k2.ex (ru.fut f2) hk
        refine ⟨j, b, rfl, hkv, h8, ?_⟩
        have k3 := (k2.reguard (o' := .ext (phiN p [(j, b, w)]))).place (ob := .dtt [(j, y)]) fp ⟨[(j, b, w)], rfl, by rw [sizeLine_eq]; simp, hs, b, w, [], rfl, hj, hb, rw', rfl⟩
        refine q2 (μ2 ++ [p]) G2 _ ⟨⟨[p], rfl⟩, .refl G2⟩ k3 _ (.loc ?_)
        have : μ2.length = st2.length := k2.len
        rw [← this, List.getElem?_append_right (Nat.le_refl _), Nat.sub_self]
        rfl
end
end Dn
/-! bool of a list -/
namespace Dn
open PySem PySem.Spec PyProof.Rows L2
def boolQ : List D → Store → Re D := one fun x st => opt (lstOf st x) fun ds => .ok (.bl (!ds.isEmpty)) st
def rBoolQ (K : PySem.W.Frag) : List V → Hp → VK → Prop := fun xs H Q => ∃ (a : Addr) (zs : List V), xs = [.ref a] ∧ SqL K H a zs ∧ Q (.bl (!zs.isEmpty)) H
theorem s_boolQ {K : PySem.W.Frag} {mg : Str → Option Value} : SN K mg boolQ (rBoolQ K) := sn_one fun W σ μ G F st H x v Q k rv h => by
  obtain ⟨ds, e, h⟩ := opt_done h
  obtain ⟨a, vs, rfl, hs, r⟩ := lstOf_rep k rv e
  refine ⟨a, vs, rfl, .of hs, ?_⟩
  have hl : vs.isEmpty = ds.isEmpty := by
    cases ds with
    | nil => rw [reps_nil r]; rfl
    | cons d ds =>
      obtain ⟨v, t, rfl, _, _⟩ := reps_cons r
      rfl
  rw [hl]
  exact fin_here k h .bl
@[simp] theorem boolQ_eq {x : D} {st : Store} : boolQ [x] st = opt (lstOf st x) fun ds => .ok (.bl (!ds.isEmpty)) st := rfl
theorem cr_boolQ {X : Cx} : CallR X (.type "bool") (rBoolQ X.K) := call_boolL
end Dn
/-! C(..) where __init__ may raise -/
namespace Dn
open PySem PySem.Spec PyProof.Rows L2
def eMakeX (c : Str) (md : FnD) (ms : EMs) : EM := fun vs st => (ms vs st).bind fun ds st => match md (.loc st.length :: ds) (st ++ [some (.ins c [])]) with
  | .ok .non st' => .ok (.loc st.length) st'
  | .exc e st' => .exc e st'
  | _ => .bad
section
variable {X : Cx} {CX : CXT} {k : Nat} {f C : Addr} {fd : FuncData} {ps : List Str} {sp : Sp} {dvs : List V} {ds : List Value} {E : L2.St → XK} {x : Str} {p pos : Pos} {e : Expr} {es : List Expr} {t : TA}
theorem run_makeS {pins : List (Addr × Obj)} {σ : L2.St} {H : Hp} {s : Shared} {Q : VK} {us : List Value} {vs : List V} (M : Mk X.K C f) (F : FnOk X.prog X.w X.K X.mg X.base CX k f fd ps sp) (hr : Room (k + 1) X.A) (hb : Binds X.K fd ps ds) (hd : Vals dvs ds)
    (hx : PassesAt CX X σ (E σ)) (I : Inv X pins σ H s) (r : Vals vs us)
    (h : ∀ x dx, H x = none → H dx = none → dx ≠ x → sp (.ref x :: (vs ++ dvs)) (upd (upd H dx (.own x)) x (.ins C dx [])) (fun v H2 => v = .non ∧ Q (.ref x) H2) (E σ)) :
    wpAny (model X.prog X.w) X.A (call (.ref C) us) (EP X pins σ Q) X.xe s := by
  have hq := h (s.heap.objs.size + 1) s.heap.objs.size (I.hok.fresh (Nat.le_succ _)) (I.hok.fresh (Nat.le_refl _)) (Nat.ne_of_lt (Nat.lt_succ_self _))
  have I2 := Inv.made (C := C) I
  have r2 : Vals (V.ref (s.heap.objs.size + 1) :: (vs ++ dvs)) (Value.ref (s.heap.objs.size + 1) :: (us ++ ds)) := .cons rfl (r.append hd)
  have hl : (Value.ref (s.heap.objs.size + 1) :: us ++ ds).length = ps.length := by
    have e := r2.length
    rw [F.len _ _ _ _ hq] at e
    exact e.symm
  refine wpAny_call (make_map (f := f) I.kIn M.makes M.init (beq_iff_eq.mp M.fn) (codeAny_mono (F.run _ X.stack _ _ ⟨Value.ref (s.heap.objs.size + 1) :: us, []⟩ (Value.ref (s.heap.objs.size + 1) :: (us ++ ds)) _ _ (E σ) (hr.make C us [])
    (I2.env0.make C us []) (hb _ (Value.ref (s.heap.objs.size + 1) :: us) I2.kIn hl) r2 hq) fun r s' hq' => ?_))
  cases r with
  | error e => exact hx pins _ _ e s' I2 hq'
  | ok fl =>
    cases fl with
    | ret u =>
      obtain ⟨v, H', I3, rv, ev, q3⟩ := I2.after hq'
      subst ev
      exact ⟨rv, ⟨V.ref (s.heap.objs.size + 1), H', I3, rfl, q3⟩⟩
    | next => exact False.elim hq'
    | brk => exact False.elim hq'
    | cont => exact False.elim hq'
theorem pe_makeS (M : Mk X.K C f) (F : FnOk X.prog X.w X.K X.mg X.base CX k f fd ps sp) (hr : Room (k + 1) X.A) (hg : Gl X x) (hm : X.mg x = some (.ref C)) (hb : Binds X.K fd ps ds) (hd : Vals dvs ds) (hx : ∀ σ, PassesAt CX X σ (E σ))
    (ha : PA X (e :: es) t) (hdb : (x == ("__debug__" : Str)) = false := by decide) (he : starEach (e :: es) X.env = (false, eval e X.env) :: starEach es X.env := by rfl) (hpl : (backTo pos (starEach es X.env)).any (·.1) = false := by rfl) :
    PE X (.Call (.Name x p) (e :: es) [] pos) (fun σ H Q => t σ H fun vs H1 => ∀ x dx, H1 x = none → H1 dx = none → dx ≠ x →
      sp (.ref x :: (vs ++ dvs)) (upd (upd H1 dx (.own x)) x (.ins C dx [])) (fun v H2 => v = .non ∧ Q (.ref x) H2) (E σ)) := by
  refine ⟨fun pins s σ H Q I h => ?_⟩
  refine wpAny_Call_Name_kw (ld_glob I hg hm ?_ hdb)
  refine PySem.W.callWith_K (h₀ := X.base) I.ok.mod.kin M.kp (thn (ha.run pos pins s σ H _ I h) fun us s1 ⟨vs, H1, I1, r, q⟩ => ⟨I1.kIn, ?_⟩) he hpl
  exact run_makeS M F hr hb hd (hx σ) I1 r q
end
section
variable {X : Cx} {W : WX} {k : Nat} {c : Str} {ps : List Str} {md : FnD} {p pos : Pos} {e : Expr} {es : List Expr} {ms : EMs}
theorem m_makeX (Ck : CalI X.prog X.w X.K X.mg X.base c k ps md) (hr : Room (k + 1) X.A) (tk : Takes X W) (ha : MA X W (e :: es) ms) (hms : ALen ms (ps.length - 1) := by repeat constructor) (hps : 1 ≤ ps.length := by decide) (hg : Gl X c := by rfl) (hdb : (c == ("__debug__" : Str)) = false := by decide)
    (he : starEach (e :: es) X.env = (false, eval e X.env) :: starEach es X.env := by rfl) (hpl : (backTo pos (starEach es X.env)).any (·.1) = false := by rfl) : ME X W (.Call (.Name c p) (e :: es) [] pos) (eMakeX c md ms) := by
  obtain ⟨C, fa, fd, Fk, hC, hm, hb⟩ := Ck
  refine (pe_makeS (dvs := []) hm Fk hr hg hC hb .nil (fun σ => passAt tk σ) ha hdb he hpl).of fun σ H Q h => ?_
  obtain ⟨vs, st, μ, G, F, re, kn, h⟩ := h
  unfold eMakeX at h
  refine ⟨vs, st, μ, G, F, re, kn, ?_⟩
  cases hd : ms vs st with
  | bad => rw [hd] at h; exact h.elim
  | exc ex st2 => rw [hd] at h; exact h
  | ok ds st1 =>
    rw [hd] at h
    intro μ1 G1 H1 f1 k1 ws rws x dx hx hdx hne
    have h : Done X.K X.mg W σ μ G F (match md (.loc st1.length :: ds) (st1 ++ [some (.ins c [])]) with
      | .ok .non st' => Re.ok (.loc st1.length) st'
      | .exc e st' => .exc e st'
      | _ => .bad) (Fin X.K Q) := h
    have kj := k1.junk (o := .own (x)) hdx
    have hx2 : upd H1 dx (.own x) x = none := by rw [upd_ne (Ne.symm hne)]; exact hx
    have ka := kj.alloc (o := .ins C dx []) (ob := .ins c []) hx2 ⟨C, dx, [], rfl, hC, rfl⟩
    have fa : Fut μ1 G1 (μ1 ++ [x]) G1 := ⟨⟨[x], rfl⟩, .refl G1⟩
    have hat : (μ1 ++ [x])[st1.length]? = some x := by rw [← k1.len, List.getElem?_append_right (Nat.le_refl _), Nat.sub_self]; rfl
    refine ⟨by rw [List.append_nil, List.length_cons, rws.length, hms.len hd]; omega, .loc st1.length :: ds, _, μ1 ++ [x], G1, F, by rw [List.append_nil]; exact .cons (.loc hat) (rws.fut fa), ka, ?_⟩
    cases hr2 : md (.loc st1.length :: ds) (st1 ++ [some (.ins c [])]) with
    | bad => rw [hr2] at h; exact h.elim
    | exc ex st2 =>
      rw [hr2] at h
      intro μ2 G2 H2 cls dd f2 k2 rx
      exact h μ2 G2 H2 cls dd ((f1.trans fa).trans f2) k2 rx
    | ok d2 st2 =>
      rw [hr2] at h
      cases d2 with
      | non =>
        intro μ2 G2 H2 f2 k2 v rv
        rw [rep_non rv]
        exact ⟨rfl, h μ2 G2 H2 ((f1.trans fa).trans f2) k2 _ (.loc (f2.at hat))⟩
      | _ => exact h.elim
end
section
variable {ms : EMs} {md : FnD} {c : Str} {vs : Vars} {st : Store}
theorem makeX_ok {ds : List D} {st1 st2 : Store} (h : ms vs st = .ok ds st1) (h2 : md (.loc st1.length :: ds) (st1 ++ [some (.ins c [])]) = .ok .non st2) : eMakeX c md ms vs st = .ok (.loc st1.length) st2 := by
  unfold eMakeX
  rw [h, bind_ok, h2]
theorem makeX_exc {ds : List D} {st1 st2 : Store} {e : Exn} (h : ms vs st = .ok ds st1) (h2 : md (.loc st1.length :: ds) (st1 ++ [some (.ins c [])]) = .exc e st2) : eMakeX c md ms vs st = .exc e st2 := by
  unfold eMakeX
  rw [h, bind_ok, h2]
end
end Dn
namespace Dn
open PySem PySem.Spec PyProof.Rows L2
/-! ### dict comprehensions: keys that are ints or texts -/
open Classical in
noncomputable def dcGo (g : TM) (t ek ev : EM) (gd : Store → Prop) (vs : Vars) : List D → Store → Re (List (Key × D))
  | [], st => if gd st then .ok [] st else .bad
  | d :: ds, st => if gd st then (match g d vs with
      | none => .bad
      | some vs1 => (t vs1 st).okk fun x st1 => match x with
        | .bl true => (ek vs1 st1).okk fun y st2 => match keyK y with
          | none => .bad
          | some k => (ev vs1 st2).okk fun z st3 => (dcGo g t ek ev gd vs ds st3).okk fun ps st4 => .ok ((k, z) :: ps) st4
        | .bl false => dcGo g t ek ev gd vs ds st1
        | _ => .bad) else .bad
open Classical in
noncomputable def eDc (im : IM) (g : TM) (t ek ev : EM) (own : List Nat) : EM := fun vs st => (im vs st).bind fun it st => if room it.1.length then (dcGo g t ek ev (grd it) (drp own vs) it.1 st).okk fun ps st => .ok (.loc st.length) (st ++ [some (.dct (mergeD [] ps))]) else .bad
theorem setK_len1 {κ : Type} [DecidableEq κ] (kvs : List (κ × D)) (k : κ) (d : D) : (setK kvs k d).length ≤ kvs.length + 1 := by
  unfold setK
  split <;> simp
section
variable {X : Cx} {W : WX} {tg iter kx vx : Expr} {ifs : List Expr} {scope : Scope} {own : List (Str × Nat)} {im : IM} {g : TM} {sl : List Nat} {mt mk me : EM} {pos : Pos}
theorem dc_of (hsl : ∀ j ∈ sl, j ∈ own.map (·.2)) (σ : L2.St) (H : Hp) (Q : VK) (h : tE X.K X.mg W (eDc im g mt mk me (own.map (·.2))) σ H Q) :
    tDc (tI X.K X.mg W im) (gM X.K sl g) (tT X.K X.mg W0 mt) (tE X.K X.mg W0 mk) (tE X.K X.mg W0 me) (own.map (·.2)) σ H Q := by
  obtain ⟨vs, st, μ, G, F, re, k, h⟩ := h
  generalize hown : own.map (·.2) = ow at hsl h ⊢
  refine ⟨vs, st, μ, G, F, re, k, (Done.bind h).mono fun μ1 G1 it st1 H1 f1 k1 h1 => ?_⟩
  obtain ⟨hr, h1⟩ := ite_done h1
  have h0 : grd it st1 := by
    by_cases hq : grd it st1
    · exact hq
    · exfalso
      cases e : it.1 with
      | nil =>
        rw [e] at h1
        unfold dcGo at h1
        rw [if_neg hq] at h1
        exact h1
      | cons d ds =>
        rw [e] at h1
        unfold dcGo at h1
        rw [if_neg hq] at h1
        exact h1
  refine ⟨h0, fun J hJ D hD => ?_⟩
  have fD : F D = none := k1.fr.free hD
  refine ⟨fun i m H => m = it.1.length - i ∧ i ≤ it.1.length ∧ ∃ acc av st μ' G', Fut μ1 G1 μ' G' ∧ Kn X.K X.mg μ' G' (upd F D (.dK av)) st H ∧ RepKV X.K μ' G' acc av ∧ acc.length ≤ i ∧
      Done X.K X.mg W σ μ' G' F ((dcGo g mt mk me (grd it) (drp ow vs) (it.1.drop i) st).okk fun ps st => .ok (Dn.D.loc st.length) (st ++ [some (Ob.dct (mergeD acc ps))])) (Fin X.K Q),
    ⟨it.1.length, by simp, Nat.zero_le _, [], [], st1, μ1, G1, .refl _ _, k1.guard hD, rfl, Nat.le_refl _, h1⟩, ?_⟩
  rintro i m H2 ⟨rfl, hi, acc, av, st2, μ2, G2, f2, k2, ra, hla, h2⟩
  by_cases hlt : i < it.1.length
  · have hd : it.1.drop i = it.1[i] :: it.1.drop (i + 1) := List.drop_eq_getElem_cons hlt
    rw [hd] at h2
    unfold dcGo at h2
    by_cases hq : grd it st2
    · rw [if_pos hq] at h2
      obtain ⟨_, hgo⟩ := hJ μ2 G2 _ st2 H2 f2 k2 hq
      obtain ⟨go, yl⟩ := hgo i _ (List.getElem?_eq_getElem hlt)
      refine .inr ⟨go, fun H => ∃ acc av st μ' G', Fut μ1 G1 μ' G' ∧ Kn X.K X.mg μ' G' (upd F D (.dK av)) st H ∧ RepKV X.K μ' G' acc av ∧ acc.length ≤ i + 1 ∧
          Done X.K X.mg W σ μ' G' F ((dcGo g mt mk me (grd it) (drp ow vs) (it.1.drop (i + 1)) st).okk fun ps st => .ok (Dn.D.loc st.length) (st ++ [some (Ob.dct (mergeD acc ps))])) (Fin X.K Q),
        fun H' q => ⟨it.1.length - (i + 1), by omega, rfl, hlt, q⟩, fun x H' hy => ?_⟩
      obtain ⟨G3, f3, k3, r3⟩ := yl x H' hy
      cases hgd : g it.1[i] (drp ow vs) with
      | none => simp only [hgd] at h2; exact h2.elim
      | some vs1 =>
        simp only [hgd] at h2
        have re3 : RepE X.K μ2 G3 (drp ow vs) (wipe σ ow) := ((re.fut ((f1.trans f2).trans f3))).wipe ow
        refine ⟨it.1[i], drp ow vs, vs1, μ2, G3, r3, k3.ex, re3, hgd, fun σ4 re4 b4 => ⟨wipe_but b4 hsl, vs1, st2, μ2, G3, _, re4, k3, ?_⟩⟩
        have h3 := Done.fut f3 h2
        cases hmt : mt vs1 st2 with
        | bad => rw [hmt] at h3; exact h3
        | exc e st4 => rw [hmt] at h3; exact h3.elim
        | ok z st4 =>
          rw [hmt] at h3
          intro μ4 G4 H4 f4 k4
          have f14 : Fut μ1 G1 μ4 G4 := (f2.trans f3).trans f4
          cases z with
          | bl kk =>
            refine ⟨kk, rfl, ?_⟩
            cases kk with
            | false =>
              rw [if_neg Bool.false_ne_true]
              exact ⟨acc, av, st4, μ4, G4, f14, k4, RepKV.fut (f3.trans f4) ra, Nat.le_succ_of_le hla, Done.fut f4 h3⟩
            | true =>
              rw [if_pos rfl]
              refine ⟨vs1, st4, μ4, G4, _, re4.fut f4, k4, ?_⟩
              have h4 := Done.fut f4 h3
              cases hmk : mk vs1 st4 with
              | bad =>
                have h4' : Done X.K X.mg W σ μ4 G4 F (((mk vs1 st4).okk fun y st2 => match keyK y with
                  | none => .bad
                  | some k => (me vs1 st2).okk fun z st3 => (dcGo g mt mk me (grd it) (drp ow vs) (it.1.drop (i + 1)) st3).okk fun ps st4 => .ok ((k, z) :: ps) st4).okk fun ps st => .ok (Dn.D.loc st.length) (st ++ [some (Ob.dct (mergeD acc ps))])) (Fin X.K Q) := h4
                rw [hmk] at h4'
                exact h4'
              | exc e st5 =>
                have h4' : Done X.K X.mg W σ μ4 G4 F (((mk vs1 st4).okk fun y st2 => match keyK y with
                  | none => .bad
                  | some k => (me vs1 st2).okk fun z st3 => (dcGo g mt mk me (grd it) (drp ow vs) (it.1.drop (i + 1)) st3).okk fun ps st4 => .ok ((k, z) :: ps) st4).okk fun ps st => .ok (Dn.D.loc st.length) (st ++ [some (Ob.dct (mergeD acc ps))])) (Fin X.K Q) := h4
                rw [hmk] at h4'
                exact h4'.elim
              | ok y st5 =>
                have h4' : Done X.K X.mg W σ μ4 G4 F (((mk vs1 st4).okk fun y st2 => match keyK y with
                  | none => .bad
                  | some k => (me vs1 st2).okk fun z st3 => (dcGo g mt mk me (grd it) (drp ow vs) (it.1.drop (i + 1)) st3).okk fun ps st4 => .ok ((k, z) :: ps) st4).okk fun ps st => .ok (Dn.D.loc st.length) (st ++ [some (Ob.dct (mergeD acc ps))])) (Fin X.K Q) := h4
                rw [hmk] at h4'
                intro μ5 G5 H5 f5 k5 yv ry
                have h5 := Done.fut f5 h4'
                cases hkk : keyK y with
                | none =>
                  have h5' : Done X.K X.mg W σ μ5 G5 F ((match keyK y with
                    | none => (.bad : Re (List (Key × Dn.D)))
                    | some k => (me vs1 st5).okk fun z st3 => (dcGo g mt mk me (grd it) (drp ow vs) (it.1.drop (i + 1)) st3).okk fun ps st4 => .ok ((k, z) :: ps) st4).okk fun ps st => .ok (Dn.D.loc st.length) (st ++ [some (Ob.dct (mergeD acc ps))])) (Fin X.K Q) := h5
                  rw [hkk] at h5'
                  exact h5'.elim
                | some kk =>
                  have h5' : Done X.K X.mg W σ μ5 G5 F ((match keyK y with
                    | none => (.bad : Re (List (Key × Dn.D)))
                    | some k => (me vs1 st5).okk fun z st3 => (dcGo g mt mk me (grd it) (drp ow vs) (it.1.drop (i + 1)) st3).okk fun ps st4 => .ok ((k, z) :: ps) st4).okk fun ps st => .ok (Dn.D.loc st.length) (st ++ [some (Ob.dct (mergeD acc ps))])) (Fin X.K Q) := h5
                  rw [hkk] at h5'
                  simp only at h5'
                  refine ⟨vs1, st5, μ5, G5, _, (re4.fut f4).fut f5, k5, ?_⟩
                  cases hme : me vs1 st5 with
                  | bad => rw [hme] at h5'; exact h5'
                  | exc e st6 => rw [hme] at h5'; exact h5'.elim
                  | ok z st6 =>
                    rw [hme] at h5'
                    intro μ6 G6 H6 f6 k6 zv rz
                    have ra6 : RepKV X.K μ6 G6 acc av := RepKV.fut (((f3.trans f4).trans f5).trans f6) ra
                    refine ⟨av, kk, keyK_rep ry hkk, k6.gat, ?_, setK acc kk z, putK av kk zv, st6, μ6, G6, (f14.trans f5).trans f6, k6.reguard, repKV_put rz ra6, ?_, ?_⟩
                    · rw [repKV_length ra]
                      exact room_lt (Nat.le_trans (by omega) hr)
                    · have := setK_len1 acc kk z
                      omega
                    · have h6 := Done.fut f6 h5'
                      cases hc : dcGo g mt mk me (grd it) (drp ow vs) (it.1.drop (i + 1)) st6 with
                      | bad =>
                        have h6' : Done X.K X.mg W σ μ6 G6 F (((dcGo g mt mk me (grd it) (drp ow vs) (it.1.drop (i + 1)) st6).okk fun ps st4 => .ok ((kk, z) :: ps) st4).okk fun ps st => .ok (Dn.D.loc st.length) (st ++ [some (Ob.dct (mergeD acc ps))])) (Fin X.K Q) := h6
                        rw [hc] at h6'
                        exact h6'
                      | exc e st7 =>
                        have h6' : Done X.K X.mg W σ μ6 G6 F (((dcGo g mt mk me (grd it) (drp ow vs) (it.1.drop (i + 1)) st6).okk fun ps st4 => .ok ((kk, z) :: ps) st4).okk fun ps st => .ok (Dn.D.loc st.length) (st ++ [some (Ob.dct (mergeD acc ps))])) (Fin X.K Q) := h6
                        rw [hc] at h6'
                        exact h6'.elim
                      | ok ps st7 =>
                        have h6' : Done X.K X.mg W σ μ6 G6 F (((dcGo g mt mk me (grd it) (drp ow vs) (it.1.drop (i + 1)) st6).okk fun ps st4 => .ok ((kk, z) :: ps) st4).okk fun ps st => .ok (Dn.D.loc st.length) (st ++ [some (Ob.dct (mergeD acc ps))])) (Fin X.K Q) := h6
                        rw [hc] at h6'
                        exact h6'
          | _ => exact h3.elim
    · rw [if_neg hq] at h2; exact h2.elim
  · have e : i = it.1.length := by omega
    subst e
    rw [List.drop_length] at h2
    unfold dcGo at h2
    by_cases hq : grd it st2
    · rw [if_pos hq] at h2
      obtain ⟨hst, _⟩ := hJ μ2 G2 _ st2 H2 f2 k2 hq
      refine .inl ⟨hst, ?_⟩
      have h3 : Done X.K X.mg W σ μ2 G2 F (.ok (Dn.D.loc st2.length) (st2 ++ [some (Ob.dct acc)])) (Fin X.K Q) := h2
      refine h3 (μ2 ++ [D]) G2 H2 ⟨⟨[D], rfl⟩, .refl G2⟩ (k2.place (ob := .dct acc) fD ⟨av, rfl, ra⟩) _ (.loc ?_)
      rw [← k2.len, List.getElem?_append_right (Nat.le_refl _), Nat.sub_self]
      rfl
    · rw [if_neg hq] at h2; exact h2.elim
theorem m_dc (own : List (Str × Nat)) (hN : X.N.Nodup) (hi : MI X W tg iter im) (ok : BlkOk X.N X.env.scope scope own)
    (hg : ∀ (s : Shared) (H : Hp) (C : Addr) (cl : List (Str × Addr)) (fp : List Addr), MG (X.blk s H scope (compEnvC scope cl C X.env) fp) tg sl g)
    (ht : ∀ (s : Shared) (H : Hp) (C : Addr) (cl : List (Str × Addr)) (fp : List Addr), MTs (X.blk s H scope (compEnvC scope cl C X.env) fp) W0 ifs mt)
    (hk : ∀ (s : Shared) (H : Hp) (C : Addr) (cl : List (Str × Addr)) (fp : List Addr), ME (X.blk s H scope (compEnvC scope cl C X.env) fp) W0 kx mk)
    (he : ∀ (s : Shared) (H : Hp) (C : Addr) (cl : List (Str × Addr)) (fp : List Addr), ME (X.blk s H scope (compEnvC scope cl C X.env) fp) W0 vx me)
    (hsl : ∀ j ∈ sl, j ∈ own.map (·.2) := by decide) (hc : X.calm = true := by rfl) (hs : ∀ x, foldedSetIterable iter X.env x = pure x := by intro _; rfl) : ME X W (.DictComp kx vx [⟨tg, iter, ifs, 0⟩] scope pos) (eDc im g mt mk me (own.map (·.2))) :=
  (pe_dc hc hN hi ok hg ht hk he hs).of (dc_of hsl)
/-- the assignment of one to a name -/
theorem ps_setDc {i : Nat} {y : Str} {py spos : Pos} {wi : TI} {g : TG} {tt : TT} {tk te : TE} (hc : X.calm = true) (hN : X.N.Nodup) (hy : X.N[i]? = some y) (hyl : X.env.scope.names.lookup y = some .local)
    (hsw : swapsWith (.DictComp kx vx [⟨tg, iter, ifs, 0⟩] scope pos) (some (.Name y py)) spos.line X.env = pure true) (hi : PI X tg iter wi) (ok : BlkOk X.N X.env.scope scope own)
    (hg : ∀ (s : Shared) (H : Hp) (C : Addr) (cl : List (Str × Addr)) (fp : List Addr), PG (X.blk s H scope (compEnvC scope cl C X.env) fp) tg g) (ht : ∀ (s : Shared) (H : Hp) (C : Addr) (cl : List (Str × Addr)) (fp : List Addr), PTs (X.blk s H scope (compEnvC scope cl C X.env) fp) ifs tt)
    (hk : ∀ (s : Shared) (H : Hp) (C : Addr) (cl : List (Str × Addr)) (fp : List Addr), PE (X.blk s H scope (compEnvC scope cl C X.env) fp) kx tk)
    (he : ∀ (s : Shared) (H : Hp) (C : Addr) (cl : List (Str × Addr)) (fp : List Addr), PE (X.blk s H scope (compEnvC scope cl C X.env) fp) vx te) (hs : ∀ x, foldedSetIterable iter X.env x = pure x := by intro _; rfl) :
    PS X (.Assign [.Name y py] (.DictComp kx vx [⟨tg, iter, ifs, 0⟩] scope pos) spos) (tAsg (tDc wi g tt tk te (own.map (·.2))) (gName i)) := by
  refine ⟨fun pins s σ H D I h => ?_⟩
  rw [exec_Assign_Name_used _ _ _ _ hsw]
  refine wpAny_bind (wpAny_standAt (wpAny_bind ?_))
  show wpAny _ X.A (do let _ ← comprehension (.DictComp kx vx [⟨tg, iter, ifs, 0⟩] scope pos) scope X.env (firstIterPos [⟨tg, iter, ifs, 0⟩] pos) newDict false (eval iter X.env) (some (assign (.Name y py) X.env))) _ _ s
  have h : tDc wi g tt tk te (own.map (·.2)) σ H (fun x H1 => gName i x σ H1 D.nx) := h
  refine wpAny_bind (thn (dc_core (Qf := fun _ s' => SP X pins D .next s') hc hN I hi ok hg ht hk he hs h fun L C s' m H' I' q hn f => ?_) fun _ s' hq => wpAny_pure (wpAny_pure hq))
  show wpAny _ _ (assign (.Name y py) X.env (.ref L)) _ _ _
  refine wpAny_assign_Name (store_ok2 (v := V.ref L) I' hN hy (.inl hyl) rfl (fun s2 I2 ⟨a, sb, ha⟩ => ?_) (.inr hyl))
  obtain ⟨f0, f1, f2, f3, f4, f5⟩ := f
  have haC : C ≠ a := by
    rcases ha with z | z
    · rw [z]; exact f1
    · exact fun e => f4 y a z e.symm
  refine ⟨m, hn.sameBut sb haC, fun h3 sb3 => ?_⟩
  exact ⟨_, H', I2.turned (t' := s2.toks) (fun b o hb e => (sb3.2 b hb).trans e) f0 f1 f3 f4 f5, q⟩
theorem swD_true {kx vx : Expr} {gs : List Comprehension} {scope : Scope} {pos py : Pos} {y : Str} {l : Nat} {env : Env} (hk : env.scope.kind = .function) (hy : env.scope.names.lookup y = some .local) (hl : (py.line == pos.line) = true)
    (ha : (scope.names.any fun (n, k) => n == y && (k == .local || k == .cell)) = false) : swapsWith (.DictComp kx vx gs scope pos) (some (.Name y py)) l env = pure true := by
  have ky : env.kindOf y = some .local := hy
  have hb : env.blockKind = .function := by unfold Env.blockKind; rw [hk]; rfl
  unfold swapsWith
  simp only [hb, ky, ha, Expr.pos, hl]
  rfl
theorem st_setDc (i : Nat) {y : Str} {py spos : Pos} (own : List (Str × Nat)) (hN : X.N.Nodup) (hi : MI X W tg iter im) (ok : BlkOk X.N X.env.scope scope own)
    (hg : ∀ (s : Shared) (H : Hp) (C : Addr) (cl : List (Str × Addr)) (fp : List Addr), MG (X.blk s H scope (compEnvC scope cl C X.env) fp) tg sl g)
    (ht : ∀ (s : Shared) (H : Hp) (C : Addr) (cl : List (Str × Addr)) (fp : List Addr), MTs (X.blk s H scope (compEnvC scope cl C X.env) fp) W0 ifs mt)
    (hk : ∀ (s : Shared) (H : Hp) (C : Addr) (cl : List (Str × Addr)) (fp : List Addr), ME (X.blk s H scope (compEnvC scope cl C X.env) fp) W0 kx mk)
    (he : ∀ (s : Shared) (H : Hp) (C : Addr) (cl : List (Str × Addr)) (fp : List Addr), ME (X.blk s H scope (compEnvC scope cl C X.env) fp) W0 vx me)
    (hsw : swapsWith (.DictComp kx vx [⟨tg, iter, ifs, 0⟩] scope pos) (some (.Name y py)) spos.line X.env = pure true)
    (hy : X.N[i]? = some y := by rfl) (hyl : X.env.scope.names.lookup y = some .local := by rfl) (hsl : ∀ j ∈ sl, j ∈ own.map (·.2) := by decide) (hc : X.calm = true := by rfl) (hs : ∀ x, foldedSetIterable iter X.env x = pure x := by intro _; rfl) :
    MS X W (.Assign [.Name y py] (.DictComp kx vx [⟨tg, iter, ifs, 0⟩] scope pos) spos) (sAsg (gN i) (eDc im g mt mk me (own.map (·.2)))) :=
  (ps_setDc hc hN hy hyl hsw hi ok hg ht hk he hs).of fun D σ H h => by
    obtain ⟨vs, st, μ, G, F, re, k, h⟩ := h
    refine dc_of hsl σ H _ ⟨vs, st, μ, G, F, re, k, (DoneS.thn re h).mono fun μ1 G1 x st1 H1 f1 k1 h1 v rv => ?_⟩
    exact h1 μ1 G1 H1 _ (.refl _ _) k1 ((re.fut f1).set rv i)
end
/-! ### their values -/
theorem eDc_wp {im : IM} {g : TM} {t ek ev : EM} {own : List Nat} {vs : Vars} {st : Store} {Q : D → Store → Prop} :
    wp (eDc im g t ek ev own vs st) Q = wp (im vs st) fun it st => room it.1.length ∧ wp (dcGo g t ek ev (grd it) (drp own vs) it.1 st) fun ps st => Q (.loc st.length) (st ++ [some (.dct (mergeD [] ps))]) := by
  unfold eDc
  rw [wp_bind]
  congr 1
  funext it st
  split
  · rename_i h
    simp only [wp_okk, h, true_and]
    congr 1
    funext a st
    exact wp_ok
  · rename_i h
    simp only [h, false_and]
    exact wp_bad
theorem dcGo_map {α : Type} {g : TM} {ek ev : EM} {gd : Store → Prop} {vs : Vars} {st : Store} {f : α → D} {hk : α → D} {kk : α → Key} {hv : α → D} (hg : gd st) : ∀ {xs : List α},
    (∀ x ∈ xs, ∃ vs1, g (f x) vs = some vs1 ∧ ek vs1 st = .ok (hk x) st ∧ keyK (hk x) = some (kk x) ∧ ev vs1 st = .ok (hv x) st) → dcGo g (eC (.bl true)) ek ev gd vs (xs.map f) st = .ok (xs.map fun x => (kk x, hv x)) st
  | [], _ => by
    show dcGo g (eC (.bl true)) ek ev gd vs [] st = _
    unfold dcGo
    rw [if_pos hg]
    rfl
  | x :: xs, H => by
    show dcGo g (eC (.bl true)) ek ev gd vs (f x :: xs.map f) st = _
    unfold dcGo
    rw [if_pos hg]
    obtain ⟨vs1, h1, h2, h3, h4⟩ := H x List.mem_cons_self
    have ih := dcGo_map hg (xs := xs) fun y hy => H y (List.mem_cons_of_mem _ hy)
    have ht : eC (.bl true) vs1 st = .ok (.bl true) st := rfl
    simp only [h1, ht, Re.okk, h2, h3, h4, ih]
    rfl
/-- keys that are all different stay as they are -/
theorem mergeD_nodup (ps : List (Key × D)) (h : (ps.map (·.1)).Nodup) : mergeD [] ps = ps := by
  have : ∀ (ps acc : List (Key × D)), ((acc ++ ps).map (·.1)).Nodup → mergeD acc ps = acc ++ ps := fun ps => by
    induction ps with
    | nil => intro acc _; simp [mergeD]
    | cons p ps ih =>
      intro acc hn
      have hp : (acc.any fun q => decide (q.1 = p.1)) = false := by
        rw [List.any_eq_false]
        intro q hq e
        have e := of_decide_eq_true e
        rw [List.map_append, List.nodup_append] at hn
        exact hn.2.2 q.1 (List.mem_map.mpr ⟨q, hq, rfl⟩) p.1 (by simp) e
      have e1 : mergeD acc (p :: ps) = mergeD (setK acc p.1 p.2) ps := rfl
      have e2 : setK acc p.1 p.2 = acc ++ [p] := by
        unfold setK
        rw [hp]
        rfl
      rw [e1, e2, ih (acc ++ [p]) (by simpa using hn)]
      simp
  exact this ps [] (by simpa using h)
end Dn
namespace Dn
open PySem PySem.Spec PyProof.Rows L2
/-! ### t.index(i): a tuple of ints -/
def indexT (x : D) (xs : List D) (st : Store) : Re D := match x, xs with
  | .tup ds, [.int i] => opt (intsOf ds) fun ns => if i ∈ ns then .ok (.int (ns.idxOf i : Nat)) st else .bad
  | _, _ => .bad
theorem flat_intsV (ys : List Int) : (ys.map V.int).all flatV = true := by
  rw [List.all_map]
  exact List.all_eq_true.mpr fun _ _ => rfl
theorem idx_firstI {z : Int} {zs : List Int} (hz : z ∈ zs) : zs[zs.idxOf z]? = some z ∧ ∀ m, m < zs.idxOf z → zs[m]? ≠ some z := by
  have hl := List.idxOf_lt_length_of_mem hz
  refine ⟨by rw [List.getElem?_eq_getElem hl, List.getElem_idxOf hl], fun m hm e => ?_⟩
  obtain ⟨hm2, e2⟩ := List.getElem?_eq_some_iff.mp e
  have := List.not_of_lt_findIdx (p := (· == z)) (xs := zs) (i := m) (by simpa [List.idxOf] using hm)
  rw [e2] at this
  simp at this
def rTupI (K : PySem.W.Frag) : V → List V → Hp → VK → Prop := fun x xs H Q => ∃ p, ∃ ys : List Int, ∃ z j, x = .ref p ∧ xs = [.int z] ∧ SqT K H p (ys.map V.int) ∧ ys[j]? = some z ∧ (∀ m, m < j → ys[m]? ≠ some z) ∧ Q (.int (j : Nat)) H
section
variable {X : Cx} {K : PySem.W.Frag} {mg : Str → Option Value}
theorem mt_tupI : MtR X "tuple.index" (rTupI X.K) := by
  intro pins s σ H x xs v us Q I rx rs h
  obtain ⟨p, ys, z, j, rfl, rfl, hq, hy, hno, q⟩ := h
  cases rx
  obtain ⟨u, rfl, t, rfl⟩ := vals1 rs
  obtain ⟨its, r, pl, hz⟩ := I.tuple hq
  obtain ⟨⟨cls, dd, dt, sl⟩, ho, hc, n, hd⟩ := pl
  simp only at hc hd
  subst hc
  subst hd
  have hl : its.toArray.size = ys.length := by rw [List.size_toArray, ← r.length, List.length_map]
  have hj : j < its.toArray.size := by rw [hl]; exact (List.getElem?_eq_some_iff.mp hy).1
  have at' : ∀ (m : Nat) (hm : m < its.toArray.size), ∃ y t', ys[m]? = some y ∧ its.toArray[m] = Value.int y t' := fun m hm => by
    have hm' : m < ys.length := by rw [← hl]; exact hm
    obtain ⟨w, hw, t', hw'⟩ := r.get (i := m) (x := .int ys[m]) (by simp [hm'])
    refine ⟨ys[m], t', List.getElem?_eq_getElem hm', ?_⟩
    have e := (List.getElem?_eq_some_iff.mp hw).2
    rw [← hw', ← e]
    simp
  refine call_meets PySem.F.slot_tuple_index ⟨_, ho, rfl⟩ PySem.F.entry_tuple_index (PySem.F.args_tuple_index_2 _ _) (TI.tuple_indexAt p its.toArray n dd sl (.int z t) (eqU (.int z)) j hj ?_ ?_)
    ⟨ho, fun w hw => mem_eqAt (x := .int z) ⟨t, rfl⟩ rfl r (flat_intsV ys) w (by simpa using hw), ⟨.int (j : Nat), H, I.tok _, ⟨_, rfl⟩, q⟩⟩
  · obtain ⟨y, t', h1, h2⟩ := at' j hj
    rw [hy] at h1
    cases h1
    rw [h2]
    simp [eqU, eqV]
  · intro m hm hmj
    obtain ⟨y, t', h1, h2⟩ := at' m hm
    rw [h2]
    have : ¬ y = z := fun e => hno m hmj (e ▸ h1)
    simp [eqU, eqV, this]
    try exact fun e => this e.symm
theorem s_indexT : SM2 K mg indexT (rTupI K) := by
  intro W σ μ G F st H x v xs vs Q k rv rs h
  unfold indexT at h
  split at h
  · rename_i ds i
    obtain ⟨ns, e, h'⟩ := opt_done h
    obtain ⟨h1, h2⟩ := ite_done h'
    obtain ⟨w, rfl, rw'⟩ := reps_one rs
    obtain ⟨a, us, rfl, ht, rr⟩ := rep_tup rv
    have e1 := intsOf_map e
    subst e1
    have e2 := reps_ints rr
    subst e2
    obtain ⟨i1, i2⟩ := idx_firstI h1
    rw [rep_int rw']
    exact ⟨a, ns, i, ns.idxOf i, rfl, rfl, k.ex.sqt ht, i1, i2, fin_here k h2 .int⟩
  · exact h.elim
end
theorem indexT_nats {l : List Nat} {i : Nat} {st : Store} (h : i ∈ l) : indexT (.tup (l.map fun k : Nat => D.int (k : Nat))) [.int (i : Nat)] st = .ok (.int (l.idxOf i : Nat)) st := by
  have e : intsOf (l.map fun k : Nat => D.int (k : Nat)) = some (l.map fun k : Nat => (k : Int)) := by
    induction l with
    | nil => rfl
    | cons a l ih =>
      rw [List.map_cons, intsOf_cons]
      by_cases ha : i ∈ l
      · rw [ih ha]; rfl
      · have : ∀ l : List Nat, intsOf (l.map fun k : Nat => D.int (k : Nat)) = some (l.map fun k : Nat => (k : Int)) := fun l => by
          induction l with
          | nil => rfl
          | cons b l ih => rw [List.map_cons, intsOf_cons, ih]; rfl
        rw [this]; rfl
  unfold indexT
  simp only [e, opt_some]
  rw [if_pos (List.mem_map.mpr ⟨i, h, rfl⟩)]
  have e2 : ∀ l : List Nat, (l.map fun k : Nat => (k : Int)).idxOf (i : Int) = l.idxOf i := fun l => by
    induction l with
    | nil => rfl
    | cons a l ih =>
      rw [List.map_cons, List.idxOf_cons, List.idxOf_cons, ih]
      by_cases ha : a = i
      · subst ha; simp
      · have h1 : ¬ (a : Int) = (i : Int) := by omega
        have h2 : ((a : Int) == (i : Int)) = false := by simpa using h1
        have h3 : (a == i) = false := by simpa using ha
        rw [h2, h3]
  rw [e2]
end Dn
/-! sorted(d) of a dict whose keys are ints or texts -/
namespace Dn
open PySem PySem.Spec PyProof PyProof.Rows PySem.W L2
def kD : Key → D
  | .inl i => .int i
  | .inr z => .str z
theorem keyIs_rel {k : Key} {v : Value} (h : keyIs k v = true) : RelV (kV k) v := by
  rcases keyIs_shape h with ⟨i, t, rfl, rfl⟩ | ⟨x, t, rfl, rfl⟩
  · exact ⟨t, rfl⟩
  · exact ⟨t, rfl⟩
def rSortK (b : Bool) (K : PySem.W.Frag) : List V → Hp → VK → Prop := fun vs H Q => ∃ (a : Addr) (kvs : List (Key × V)) (ps : List (V × D)), vs = [V.ref a] ∧ H a = some (.dK kvs) ∧ ps.map Prod.fst = kvs.map (fun p => kV p.1) ∧ DpAll K H (ps.map Prod.fst) ((ps.map Prod.snd).map pd) ∧ srtOk (ps.map Prod.snd) = true ∧
  ∀ p, H p = none → Q (.ref p) (upd H p (.lst ((ps.mergeSort (PySem.W.dataLe b fun p => pd p.2)).map Prod.fst)))
section
variable {X : Cx} {pins : List (Addr × Obj)} {σ : L2.St} {H : Hp} {s : Shared}
theorem sortK_run (o : Option Bool) (hc : X.calm = true) (hu : X.A.units + 65 < cLine) {vs : List V} {us : List Value} {Q : VK} (I : Inv X pins σ H s) (r : Vals vs us) (h : rSortK (o.getD false) X.K vs H Q) : wpAny (model X.prog X.w) X.A (call (.builtin "sorted") us (kwR o)) (EP X pins σ Q) X.xe s := by
  obtain ⟨a, kvs, ps, rfl, hD, ef, hd, ho, q⟩ := h
  rw [Vals.ref1 r]
  obtain ⟨hlen, hsys, kv, hkv, hdo⟩ := (show ObjOk X.prog X.w H s.heap a (.dK kvs) from I.hok a _ hD)
  obtain ⟨es, ep, hraw, hsz, hes⟩ := hdo.raw
  have hkl : kvs.length = kv.length := Paired.length hkv
  have hpl : ps.length = kvs.length := by
    have := congrArg List.length ef
    simpa using this
  have hn : es.size ≤ sizeLine := by rw [hsz, ← hkl]; exact hlen
  have key : ∀ (kvs : List (Key × V)) (kv : List (Key × Value)) (l : List DictEntry), KV kvs kv → l.length = kv.length → (∀ (i : Nat) (e : DictEntry) (k : Key) (v : Value), l[i]? = some e → kv[i]? = some (k, v) → keyIs k e.key = true) → Vals (kvs.map fun p => kV p.1) (l.map fun e => e.key) := fun kvs kv l h => by
    induction h generalizing l with
    | nil =>
      intro hl _
      have : l = [] := List.length_eq_zero_iff.mp hl
      subst this
      exact .nil
    | cons hx ht ih =>
      rename_i x y xs ys
      intro hl hk
      cases l with
      | nil => cases hl
      | cons e l =>
        refine .cons ?_ (ih l (by simpa using hl) fun i e' k v h1 h2 => hk (i + 1) e' k v (by simpa using h1) (by simpa using h2))
        have h0 := hk 0 e y.1 y.2 rfl rfl
        show L2.RelV (kV x.1) e.key
        rw [hx.1]
        exact keyIs_rel h0
  have rv := key kvs kv es.toList hkv (by rw [Array.length_toList]; exact hsz) fun i e k v h1 h2 => by
    obtain ⟨hi, e1⟩ := List.getElem?_eq_some_iff.mp h1
    have hi' : i < es.size := by simpa using hi
    have := (hes i hi' k v h2).1
    have e2 : e = es[i] := by rw [← e1]; simp
    rw [e2]
    exact this
  rw [← ef] at rv
  have e := each_vals rv
  obtain ⟨as, hra⟩ := Dp.readsAll I _ _ _ hd rv
  rw [List.map_map] at hra
  have er : PySem.W.EachIs (fun v (p : V × D) => ∃ as, Reads s.heap v (pd p.2) as) (es.toList.map fun e => e.key) ps := PySem.W.readsAll_each (fun p : V × D => pd p.2) hra
  unfold srtOk at ho
  rw [Bool.and_eq_true, Bool.and_eq_true] at ho
  obtain ⟨h1, h2, h3⟩ := ho
  have e6 : ps.map (fun p : V × D => pd p.2) = (ps.map Prod.snd).map pd := by rw [List.map_map]; rfl
  have hal : PySem.W.AllAlike (ps.map fun p : V × D => pd p.2) := by rw [e6]; exact likes_all h2
  have hk : PySem.W.Sortable (ps.map fun p : V × D => pd p.2) := by rw [e6]; exact sortable_of h3
  refine sorted_src o (KdlSrc.rawDict (d := a) (es := es) (ep := ep) hsys) (I.ok.hd hc) hraw hn (fun acc hi => ?_) e er hal hk (by rw [hpl]; exact hlen) (fun p hp => ?_) fun p h' tk out ep hp hkp hat hol eo => ?_
  · apply List.ext_getElem?
    intro j
    rw [List.getElem?_map]
    cases hj : acc.toList[j]? with
    | none =>
      have h1 := List.getElem?_eq_none_iff.mp hj
      rw [Array.length_toList, hi.1] at h1
      rw [List.getElem?_eq_none (by rw [Array.length_toList]; exact h1)]
      rfl
    | some v =>
      obtain ⟨hj2, hv⟩ := hi.2 j v (by rw [← Array.getElem?_toList]; exact hj)
      rw [hv]
      simp [hj2]
  · have := (okd_shape 40 p.2 (List.all_eq_true.mp h1 p.2 (List.mem_map_of_mem hp))).2
    omega
  · have hHp : H p = none := by
      cases q2 : H p with
      | none => rfl
      | some u =>
        obtain ⟨ob, hob⟩ := objOk_get (I.hok p u q2)
        rw [hp] at hob
        cases hob
    have hlen : ((ps.mergeSort (PySem.W.dataLe (o.getD false) fun p : V × D => pd p.2)).map Prod.fst).length ≤ sizeLine := by
      rw [List.length_map, (List.mergeSort_perm _ _).length_eq, hpl]
      exact hlen
    exact ⟨.ref _, upd H p (.lst ((ps.mergeSort (PySem.W.dataLe (o.getD false) fun p : V × D => pd p.2)).map Prod.fst)), I.laidN (t' := tk) hkp hp hHp ⟨hlen, out, ep, vals_each eo, hat⟩, rfl, q _ hHp⟩
theorem cr_sortK (hc : X.calm = true) (hu : X.A.units + 65 < cLine) : CallR X (.builtin "sorted") (rSortK false X.K) := fun pins s σ H vs us Q I r h => sortK_run none hc hu I r h
end
def sortK (b : Bool) : List D → Store → Re D := one fun x st => match x with
  | .loc n => match cell st n with
    | some (.dct kvs) => if srtOk (kvs.map fun p => kD p.1) = true then mkNew b ((kvs.map fun p => kD p.1).mergeSort leDt) st else .bad
    | _ => .bad
  | _ => .bad
section
variable {K : PySem.W.Frag} {mg : Str → Option Value} {μ : List Addr} {G F : Hp} {st : Store} {H : Hp}
theorem repK_reps : ∀ {kvs : List (Key × D)} {ps : List (Key × V)}, RepKV K μ G kvs ps → Reps K μ G (kvs.map fun p => kD p.1) (ps.map fun p => kV p.1)
  | [], ps, h => by
    have : ps = [] := h
    subst this
    exact .nil
  | (j, d) :: r, ps, h => by
    obtain ⟨v, s, rfl, hv, t⟩ := h
    refine .cons ?_ (repK_reps t)
    cases j with
    | inl i => exact .int
    | inr z => exact .str
theorem s_sortK (b : Bool) : SN K mg (sortK b) (rSortK false K) := sn_one fun W σ μ G F st H x v Q k rv h => by
  split at h
  · rename_i n
    split at h
    · rename_i kvs hcell
      obtain ⟨ho, h'⟩ := ite_done h
      obtain ⟨a, nps, rfl, ha, hh, rp⟩ := dct_rep k rv hcell
      obtain ⟨ps, h1, h2, hp⟩ := reps_zip (repK_reps rp)
      rw [← h2] at ho h'
      have ho2 := ho
      unfold srtOk at ho2
      rw [Bool.and_eq_true] at ho2
      have hn := new_list (Q := Q) k (ds := (ps.map Prod.snd).mergeSort leDt) (vs := (ps.mergeSort (PySem.W.dataLe false fun p => pd p.2)).map Prod.fst) (by
        rw [← sort_snd]
        exact zip_reps fun p h' => hp p ((List.mergeSort_perm _ _).mem_iff.mp h')) h'
      exact ⟨a, nps, ps, rfl, hh, h1, zip_dp k.ex hp ho2.1, ho, hn⟩
    · exact h.elim
  · exact h.elim
end
end Dn
namespace Dn
open PySem PySem.Spec PyProof.Rows L2
/-! ### dict comprehensions whose keys are tuples -/
def mergeN {κ : Type} [DecidableEq κ] (kvs more : List (κ × D)) : List (κ × D) := more.foldl (fun acc kv => setK acc kv.1 kv.2) kvs
open Classical in
noncomputable def dcGoN (g : TM) (t ek ev : EM) (gd : Store → Prop) (vs : Vars) : List D → Store → Re (List (NestedKey × D))
  | [], st => if gd st then .ok [] st else .bad
  | d :: ds, st => if gd st then (match g d vs with
      | none => .bad
      | some vs1 => (t vs1 st).okk fun x st1 => match x with
        | .bl true => (ek vs1 st1).okk fun y st2 => match topK y with
          | none => .bad
          | some k => (ev vs1 st2).okk fun z st3 => (dcGoN g t ek ev gd vs ds st3).okk fun ps st4 => .ok ((k, z) :: ps) st4
        | .bl false => dcGoN g t ek ev gd vs ds st1
        | _ => .bad) else .bad
open Classical in
noncomputable def eDcN (im : IM) (g : TM) (t ek ev : EM) (own : List Nat) : EM := fun vs st => (im vs st).bind fun it st => if room it.1.length then (dcGoN g t ek ev (grd it) (drp own vs) it.1 st).okk fun ps st => .ok (.loc st.length) (st ++ [some (.dtt (mergeN [] ps))]) else .bad
section
variable {X : Cx}
/-- a key put by a comprehension -/
theorem n_dictSet {pins : List (Addr × Obj)} {σ : L2.St} {H : Hp} {s : Shared} {A : Around} {E : Value → Shared → Prop} {Q : Unit → Shared → Prop} {a b : Addr} {ps : NPs} {k : NestedKey} {v : V} {r : Value} (hu : A.units + 9 < cLine) (I : Inv X pins σ H s) (d : DN X.K H a ps) (hm : H a = some (.ext (phiN a ps)))
    (hk : KeyV X.K H k (.ref b)) (h8 : k.depth ≤ 8) (rv : RelV v r) (h : ∀ s', Inv X pins σ (upd H a (.ext (phiN a (putN ps k b v)))) s' → Q () s') :
    wpAny (model X.prog X.w) A (dictSet a (.ref b) r) Q E s := by
  obtain ⟨xs, rel, dd⟩ := d.raw I
  have hz : xs.length ≤ sizeLine := by rw [← Paired.length rel]; exact d.len
  have hr : (nestedKind X.prog X.w).room A := by show A.units + 8 < cLine; omega
  refine wpAny_dictSet_heap (knd := nestedKind X.prog X.w) (hsz := hz) hr ⟨keyV_is I hk rfl, h8⟩ dd fun h' dd' hs => h _ ?_
  have he : ∃ q, h'.get? a = some q := let ⟨q, _, _, hq, _⟩ := dd'; ⟨q, hq⟩
  exact d_write I (by rw [hm]; exact True.intro) hs he (phiN_new (rel.put k b rv) dd')
/-- what is asked of the turns: P the dict as it stands -/
def tDcN (X : Cx) (wi : TI) (g : TG) (tt : TT) (tk tv : TE) (vs : List Nat) : TE := fun σ H Q => wi σ H fun J H1 => ∀ D, H1 D = none → (D == sysModules) = false → ∃ P : Nat → Nat → Hp → Prop, (∃ m, P 0 m (upd H1 D (.ext (phiN D [])))) ∧ ∀ i m H, P i m H →
  (J.stop i H ∧ Q (.ref D) H) ∨ (J.go i H ∧ ∃ Nx : Hp → Prop, (∀ H', Nx H' → ∃ m', m' < m ∧ P (i + 1) m' H') ∧ ∀ x H', J.yld i H x H' → g x (wipe σ vs) H' fun σ2 H2 => wipe σ2 vs = wipe σ vs ∧ tt σ2 H2 fun b H3 =>
    if b = true then tk σ2 H3 fun y H4 => tv σ2 H4 fun z H5 => ∃ ps k b, y = .ref b ∧ KeyV X.K H5 k (.ref b) ∧ k.depth ≤ 8 ∧ H5 D = some (.ext (phiN D ps)) ∧ DN X.K H5 D ps ∧ Nx (upd H5 D (.ext (phiN D (putN ps k b z)))) else Nx H3)
theorem dcn_core {pins : List (Addr × Obj)} {s : Shared} {σ : L2.St} {H : Hp} {Q : VK} {kx vx tg iter : Expr} {ifs : List Expr} {scope : Scope} {own : List (Str × Nat)} {pos pos' : Pos} {wi : TI} {g : TG} {tt : TT} {tk tv : TE} {use : Option (Value → Sem Unit)} {Qf : Value → Shared → Prop}
    (hu : X.A.units + 65 < cLine) (hc : X.calm = true) (hN : X.N.Nodup) (I : Inv X pins σ H s) (hi : PI X tg iter wi) (ok : BlkOk X.N X.env.scope scope own)
    (hg : ∀ (s : Shared) (H : Hp) (C : Addr) (cl : List (Str × Addr)) (fp : List Addr), PG (X.blk s H scope (compEnvC scope cl C X.env) fp) tg g) (ht : ∀ (s : Shared) (H : Hp) (C : Addr) (cl : List (Str × Addr)) (fp : List Addr), PTs (X.blk s H scope (compEnvC scope cl C X.env) fp) ifs tt)
    (hk : ∀ (s : Shared) (H : Hp) (C : Addr) (cl : List (Str × Addr)) (fp : List Addr), PE (X.blk s H scope (compEnvC scope cl C X.env) fp) kx tk)
    (he : ∀ (s : Shared) (H : Hp) (C : Addr) (cl : List (Str × Addr)) (fp : List Addr), PE (X.blk s H scope (compEnvC scope cl C X.env) fp) vx tv) (hs : ∀ x, foldedSetIterable iter X.env x = pure x)
    (h : tDcN X wi g tt tk tv (own.map (·.2)) σ H Q)
    (hRR : ∀ D C s' m H', Inv X pins σ H' s' → Q (.ref D) H' → s'.heap.Ns C m → FpOk X pins H' C → compPost (model X.prog X.w) X.A X.xe use Qf (.ref D) C (.ok .next) s') :
    wpAny (model X.prog X.w) X.A (comprehension (.DictComp kx vx [⟨tg, iter, ifs, 0⟩] scope pos) scope X.env pos' newDict false (eval iter X.env) use) Qf X.xe s := by
  have cells : ∀ y ∈ scope.names, y.2 = .free → ∃ c, X.env.cells.lookup y.1 = some c := fun y hy e => (ok.free y hy e).elim (fun k => I.ok.has _ (.inl k)) fun k => I.ok.has _ (.inr k)
  refine wpAny_comprehension_free (use := use) rfl hs (closure_ok cells) ok.kind (fun y hy e => by rw [ok.uniq y hy, e]) (thn (hi.run pins s σ H _ I h) fun xv s1 hx => thn hx fun itv s2 h2 => ?_)
  obtain ⟨it, fp, tn, J, H2, rfl, I2, T, t2, q2, q⟩ := h2
  refine wpAny_newObj_type (newEnv_comp ?_)
  -- the dict, just laid
  generalize hD : s2.heap.objs.size = D
  have big : (D == sysModules) = false := by rw [← hD]; exact beq_eq_false_iff_ne.mpr (Ne.symm (Nat.ne_of_lt I2.big))
  obtain ⟨P, ⟨m0, p0⟩, turn⟩ := q D (I2.hok.fresh (Nat.le_of_eq hD)) big
  generalize hH3 : upd H2 D (.ext (phiN D [])) = H3 at p0
  generalize hs3 : ({ s2 with heap := s2.heap.push { cls := .type "dict", data := .dict #[] } } : Shared) = s3
  have e3 : s3.heap = s2.heap.push { cls := .type "dict", data := .dict #[] } := by rw [← hs3]
  have I3 : Inv X pins σ H3 s3 := by
    rw [← hs3, ← hH3]
    refine I2.laid (t' := s2.toks) (fun b o e => Heap.get?_push_of_some _ e) (Nat.le_of_eq hD) ?_
    rw [← hD]
    exact ⟨⟨X.w, [], .nil, _, #[], 0, Heap.get?_push_size _ rfl, ⟨rfl, rfl, rfl⟩, rfl, rfl, List.nodup_nil⟩, ⟨_, Heap.get?_push_size _ rfl⟩, phiN_stay⟩
  have below : ∀ b ∈ fp, b < s2.heap.objs.size := fun b hb => let ⟨o, e, _⟩ := T.obj _ _ t2 b hb; Heap.lt_size e
  have f3 : ∀ b ∈ fp, FpOk X pins H3 b ∧ b < s3.heap.objs.size := fun b hb => by
    refine ⟨⟨?_, (q2 b hb).2⟩, by rw [e3, Heap.size_push]; exact Nat.lt_succ_of_lt (below b hb)⟩
    rw [← hH3, upd_ne (by rw [← hD]; exact Nat.ne_of_lt (below b hb))]
    exact (q2 b hb).1
  have t3 : tn 0 s3.heap := T.keep _ _ _ t2 fun b _ o e => by rw [e3]; exact Heap.get?_push_of_some _ e
  -- the block
  have I4 := block_start I3 ok hN f3
  show codeAny _ _ (.compStart (.DictComp kx vx [⟨tg, iter, ifs, 0⟩] scope pos) 0 (.ref it) (.ref D) (compEnvC scope (cellsFrom (s3.heap.objs.size + 1) scope.names (cloFrom X.env.cells scope.names [])) s3.heap.objs.size X.env)) (compPost (model X.prog X.w) X.A X.xe use Qf (.ref D) s3.heap.objs.size) { s3 with heap := pushCells (s3.heap.push { cls := .type "dict", data := .dict #[] }) scope.names }
  generalize hcl : cellsFrom (s3.heap.objs.size + 1) scope.names (cloFrom X.env.cells scope.names []) = cl at I4 ⊢
  have pg := hg s3 H3 s3.heap.objs.size cl fp
  have pt := ht s3 H3 s3.heap.objs.size cl fp
  have pk := hk s3 H3 s3.heap.objs.size cl fp
  have pv := he s3 H3 s3.heap.objs.size cl fp
  generalize hce : compEnvC scope cl s3.heap.objs.size X.env = ce at I4 pg pt pk pv ⊢
  have cL : ce.locals = s3.heap.objs.size := by subst hce; rfl
  generalize hs4 : ({ s3 with heap := pushCells (s3.heap.push { cls := .type "dict", data := .dict #[] }) scope.names } : Shared) = s4 at I4 ⊢
  have t4 : tn 0 s4.heap := T.keep _ _ _ t3 fun b _ o e => by rw [← hs4]; exact pushCells_keeps _ _ _ _ (Heap.get?_push_of_some _ e)
  have own4 : ∀ {σ' : L2.St} {H' : Hp} {s' : Shared}, Inv (X.blk s3 H3 scope ce fp) [] σ' H' s' → (∀ b ∈ fp, H' b = none) → ∀ b ∈ fp, FpOk (X.blk s3 H3 scope ce fp) [] H' b := fun {σ' H' s'} I' hn b hb =>
    ⟨hn b hb, (I'.ok.exf b hb).1, I'.ok.exfs b hb, .inl hb, fun x c e => (I'.ok.exf b hb).2 x c e, fun p hp => absurd (show p ∈ ([] : List (Addr × Obj)) ++ [] from hp) (by simp)⟩
  have loop : codeAny (model X.prog X.w) X.A (.compLoop (.DictComp kx vx [⟨tg, iter, ifs, 0⟩] scope pos) 0 (.ref it) (.ref D) ce) (compPost (model X.prog X.w) X.A X.xe use Qf (.ref D) s3.heap.objs.size) s4 := by
    refine compLoop_anyD (fun n s' => ∃ i H', Inv (X.blk s3 H3 scope ce fp) [] (wipe σ (own.map (·.2))) H' s' ∧ tn i s'.heap ∧ (∀ b ∈ fp, H' b = none) ∧ P i n H') ?_ m0 ⟨0, H3, I4, t4, fun b hb => (f3 b hb).1.1, p0⟩
    rintro n s5 ⟨i, H5, I5, t5, n5, p5⟩
    rcases turn i n H5 p5 with ⟨stop, qq⟩ | ⟨go, Nx, hNx, step⟩
    · refine thnF (T.done (X.blk s3 H3 scope ce fp) rfl rfl rfl hc i [] s5 _ H5 (fun _ _ => False) I5 (own4 I5 n5) t5 stop) fun r s6 ⟨hr, I6⟩ => ?_
      subst hr
      have I7 : Inv X pins σ H5 s6 := I3.call' (ch := fp) I6.os I6.base I6.hok I6.bare fun b hb => ⟨(f3 b hb).1.2.2.2.1, (f3 b hb).1.2.1, (f3 b hb).1.2.2.2.2.1, (f3 b hb).1.2.2.2.2.2⟩
      have free : H5 ce.locals = none := I6.free
      obtain ⟨m, hn, _⟩ := I6.loc
      have hn : s6.heap.Ns ce.locals m := hn
      rw [cL] at hn free
      exact hRR D s3.heap.objs.size s6 m H5 I7 qq hn (I3.fpOk (Nat.le_refl _) free)
    · refine thnF (T.item (X.blk s3 H3 scope ce fp) rfl rfl rfl hc i [] s5 _ H5 (fun _ _ => False) I5 (own4 I5 n5) t5 go) fun r s6 ⟨u, hr, h6⟩ => ?_
      subst hr
      refine thnF h6 fun _ s7 ⟨x, H7, I7, r7, y7, t7, n7⟩ => ?_
      have I7' := I7.pinned (own4 I7 n7) (T.obj _ _ t7)
      refine thnF (pg.run _ s7 _ H7 x u _ I7' r7 (step x H7 y7)) fun _ s8 ⟨σ8, H8, I8, hw8, q8⟩ => ?_
      refine thnF (pt.run _ s8 σ8 H8 _ I8 q8) fun b s9 ⟨H9, I9, q9⟩ => ?_
      have next : ∀ {s' : Shared} {H' : Hp}, Inv (X.blk s3 H3 scope ce fp) ([] ++ pinsAt fp s7.heap) σ8 H' s' → Nx H' → ∃ m, m < n ∧ ∃ i H', Inv (X.blk s3 H3 scope ce fp) [] (wipe σ (own.map (·.2))) H' s' ∧ tn i s'.heap ∧ (∀ b ∈ fp, H' b = none) ∧ P i m H' := fun {s' H'} I' nx => by
        obtain ⟨m', hm, w'⟩ := hNx H' nx
        have stays : ∀ b ∈ fp, ∀ o, s7.heap.get? b = some o → s'.heap.get? b = some o ∧ H' b = none := fun b hb o e =>
          let z := I'.pin (b, o) (List.mem_append_right _ (List.mem_append_right _ (mem_pinsAt hb e)))
          ⟨z.1, z.2.1⟩
        refine ⟨m', hm, i + 1, H', (I'.unpinned (pins := [])).weak (by rw [← hw8, wipe_length]) (fun j v e => ?_), T.keep _ _ _ t7 fun b hb o e => (stays b hb o e).1, fun b hb => ?_, w'⟩
        · rw [← hw8] at e
          exact (wipe_some e).1
        · obtain ⟨o, e, _⟩ := T.obj _ _ t7 b hb
          exact (stays b hb o e).2
      cases b with
      | false =>
        rw [if_neg Bool.false_ne_true] at q9 ⊢
        exact next I9 q9
      | true =>
        rw [if_pos rfl] at q9 ⊢
        refine thnF (pk.run _ s9 σ8 H9 _ I9 q9) fun z s10 ⟨yk, H10, I10, r10, q10⟩ => ?_
        refine thnF (pv.run _ s10 σ8 H10 _ I10 q10) fun z2 s11 ⟨yv, H11, I11, r11, ps, k, b, ek, hkv, h8, hm, hd, nx⟩ => ?_
        subst ek
        obtain rfl : z = Value.ref b := r10
        exact n_dictSet (X := X.blk s3 H3 scope ce fp) (show X.A.units + 9 < cLine by omega) I11 hd hm hkv h8 r11 fun s12 I12 => next I12 nx
  exact codeAny_compStart_dict loop (T.self X.A 0 _ _ _ t4 loop)
theorem pe_dcN {kx vx tg iter : Expr} {ifs : List Expr} {scope : Scope} {own : List (Str × Nat)} {pos : Pos} {wi : TI} {g : TG} {tt : TT} {tk tv : TE} (hu : X.A.units + 65 < cLine) (hc : X.calm = true) (hN : X.N.Nodup) (hi : PI X tg iter wi) (ok : BlkOk X.N X.env.scope scope own)
    (hg : ∀ (s : Shared) (H : Hp) (C : Addr) (cl : List (Str × Addr)) (fp : List Addr), PG (X.blk s H scope (compEnvC scope cl C X.env) fp) tg g) (ht : ∀ (s : Shared) (H : Hp) (C : Addr) (cl : List (Str × Addr)) (fp : List Addr), PTs (X.blk s H scope (compEnvC scope cl C X.env) fp) ifs tt)
    (hk : ∀ (s : Shared) (H : Hp) (C : Addr) (cl : List (Str × Addr)) (fp : List Addr), PE (X.blk s H scope (compEnvC scope cl C X.env) fp) kx tk)
    (he : ∀ (s : Shared) (H : Hp) (C : Addr) (cl : List (Str × Addr)) (fp : List Addr), PE (X.blk s H scope (compEnvC scope cl C X.env) fp) vx tv) (hs : ∀ x, foldedSetIterable iter X.env x = pure x := by intro _; rfl) :
    PE X (.DictComp kx vx [⟨tg, iter, ifs, 0⟩] scope pos) (tDcN X wi g tt tk tv (own.map (·.2))) := by
  refine ⟨fun pins s σ H Q I h => ?_⟩
  rw [arm_eval_DictComp]
  refine dcn_core hu hc hN I hi ok hg ht hk he hs h fun D C s' m H' I' q hn ⟨f0, f1, f2, f3, f4, f5⟩ => ⟨m, hn, fun h'' sb => ?_⟩
  exact ⟨.ref D, H', I'.turned (t' := s'.toks) (fun b o hb e => (sb.2 b hb).trans e) f0 f1 f3 f4 f5, rfl, q⟩
end
section
variable {X : Cx} {W : WX} {tg iter kx vx : Expr} {ifs : List Expr} {scope : Scope} {own : List (Str × Nat)} {im : IM} {g : TM} {sl : List Nat} {mt mk me : EM} {pos : Pos}
theorem dc_ofN (hsl : ∀ j ∈ sl, j ∈ own.map (·.2)) (σ : L2.St) (H : Hp) (Q : VK) (h : tE X.K X.mg W (eDcN im g mt mk me (own.map (·.2))) σ H Q) :
    tDcN X (tI X.K X.mg W im) (gM X.K sl g) (tT X.K X.mg W0 mt) (tE X.K X.mg W0 mk) (tE X.K X.mg W0 me) (own.map (·.2)) σ H Q := by
  obtain ⟨vs, st, μ, G, F, re, k, h⟩ := h
  generalize hown : own.map (·.2) = ow at hsl h ⊢
  refine ⟨vs, st, μ, G, F, re, k, (Done.bind h).mono fun μ1 G1 it st1 H1 f1 k1 h1 => ?_⟩
  obtain ⟨hr, h1⟩ := ite_done h1
  have h0 : grd it st1 := by
    by_cases hq : grd it st1
    · exact hq
    · exfalso
      cases e : it.1 with
      | nil =>
        rw [e] at h1
        unfold dcGoN at h1
        rw [if_neg hq] at h1
        exact h1
      | cons d ds =>
        rw [e] at h1
        unfold dcGoN at h1
        rw [if_neg hq] at h1
        exact h1
  refine ⟨h0, fun J hJ D hD hsD => ?_⟩
  have fD : F D = none := k1.fr.free hD
  refine ⟨fun i m H => m = it.1.length - i ∧ i ≤ it.1.length ∧ ∃ acc av st μ' G', Fut μ1 G1 μ' G' ∧ Kn X.K X.mg μ' G' (upd F D (.ext (phiN D av))) st H ∧ RepNK X.K μ' G' acc av ∧ acc.length ≤ i ∧
      Done X.K X.mg W σ μ' G' F ((dcGoN g mt mk me (grd it) (drp ow vs) (it.1.drop i) st).okk fun ps st => .ok (Dn.D.loc st.length) (st ++ [some (Ob.dtt (mergeN acc ps))])) (Fin X.K Q),
    ⟨it.1.length, by simp, Nat.zero_le _, [], [], st1, μ1, G1, .refl _ _, k1.guard hD, rfl, Nat.le_refl _, h1⟩, ?_⟩
  rintro i m H2 ⟨rfl, hi, acc, av, st2, μ2, G2, f2, k2, ra, hla, h2⟩
  by_cases hlt : i < it.1.length
  · have hd : it.1.drop i = it.1[i] :: it.1.drop (i + 1) := List.drop_eq_getElem_cons hlt
    rw [hd] at h2
    unfold dcGoN at h2
    by_cases hq : grd it st2
    · rw [if_pos hq] at h2
      obtain ⟨_, hgo⟩ := hJ μ2 G2 _ st2 H2 f2 k2 hq
      obtain ⟨go, yl⟩ := hgo i _ (List.getElem?_eq_getElem hlt)
      refine .inr ⟨go, fun H => ∃ acc av st μ' G', Fut μ1 G1 μ' G' ∧ Kn X.K X.mg μ' G' (upd F D (.ext (phiN D av))) st H ∧ RepNK X.K μ' G' acc av ∧ acc.length ≤ i + 1 ∧
          Done X.K X.mg W σ μ' G' F ((dcGoN g mt mk me (grd it) (drp ow vs) (it.1.drop (i + 1)) st).okk fun ps st => .ok (Dn.D.loc st.length) (st ++ [some (Ob.dtt (mergeN acc ps))])) (Fin X.K Q),
        fun H' q => ⟨it.1.length - (i + 1), by omega, rfl, hlt, q⟩, fun x H' hy => ?_⟩
      obtain ⟨G3, f3, k3, r3⟩ := yl x H' hy
      cases hgd : g it.1[i] (drp ow vs) with
      | none => simp only [hgd] at h2; exact h2.elim
      | some vs1 =>
        simp only [hgd] at h2
        have re3 : RepE X.K μ2 G3 (drp ow vs) (wipe σ ow) := ((re.fut ((f1.trans f2).trans f3))).wipe ow
        refine ⟨it.1[i], drp ow vs, vs1, μ2, G3, r3, k3.ex, re3, hgd, fun σ4 re4 b4 => ⟨wipe_but b4 hsl, vs1, st2, μ2, G3, _, re4, k3, ?_⟩⟩
        have h3 := Done.fut f3 h2
        cases hmt : mt vs1 st2 with
        | bad => rw [hmt] at h3; exact h3
        | exc e st4 => rw [hmt] at h3; exact h3.elim
        | ok z st4 =>
          rw [hmt] at h3
          intro μ4 G4 H4 f4 k4
          have f14 : Fut μ1 G1 μ4 G4 := (f2.trans f3).trans f4
          cases z with
          | bl kk =>
            refine ⟨kk, rfl, ?_⟩
            cases kk with
            | false =>
              rw [if_neg Bool.false_ne_true]
              exact ⟨acc, av, st4, μ4, G4, f14, k4, RepNK.fut (f3.trans f4) ra, Nat.le_succ_of_le hla, Done.fut f4 h3⟩
            | true =>
              rw [if_pos rfl]
              refine ⟨vs1, st4, μ4, G4, _, re4.fut f4, k4, ?_⟩
              have h4 := Done.fut f4 h3
              cases hmk : mk vs1 st4 with
              | bad =>
                have h4' : Done X.K X.mg W σ μ4 G4 F (((mk vs1 st4).okk fun y st2 => match topK y with
                  | none => .bad
                  | some k => (me vs1 st2).okk fun z st3 => (dcGoN g mt mk me (grd it) (drp ow vs) (it.1.drop (i + 1)) st3).okk fun ps st4 => .ok ((k, z) :: ps) st4).okk fun ps st => .ok (Dn.D.loc st.length) (st ++ [some (Ob.dtt (mergeN acc ps))])) (Fin X.K Q) := h4
                rw [hmk] at h4'
                exact h4'
              | exc e st5 =>
                have h4' : Done X.K X.mg W σ μ4 G4 F (((mk vs1 st4).okk fun y st2 => match topK y with
                  | none => .bad
                  | some k => (me vs1 st2).okk fun z st3 => (dcGoN g mt mk me (grd it) (drp ow vs) (it.1.drop (i + 1)) st3).okk fun ps st4 => .ok ((k, z) :: ps) st4).okk fun ps st => .ok (Dn.D.loc st.length) (st ++ [some (Ob.dtt (mergeN acc ps))])) (Fin X.K Q) := h4
                rw [hmk] at h4'
                exact h4'.elim
              | ok y st5 =>
                have h4' : Done X.K X.mg W σ μ4 G4 F (((mk vs1 st4).okk fun y st2 => match topK y with
                  | none => .bad
                  | some k => (me vs1 st2).okk fun z st3 => (dcGoN g mt mk me (grd it) (drp ow vs) (it.1.drop (i + 1)) st3).okk fun ps st4 => .ok ((k, z) :: ps) st4).okk fun ps st => .ok (Dn.D.loc st.length) (st ++ [some (Ob.dtt (mergeN acc ps))])) (Fin X.K Q) := h4
                rw [hmk] at h4'
                intro μ5 G5 H5 f5 k5 yv ry
                have h5 := Done.fut f5 h4'
                cases hkk : topK y with
                | none =>
                  have h5' : Done X.K X.mg W σ μ5 G5 F ((match topK y with
                    | none => (.bad : Re (List (NestedKey × Dn.D)))
                    | some k => (me vs1 st5).okk fun z st3 => (dcGoN g mt mk me (grd it) (drp ow vs) (it.1.drop (i + 1)) st3).okk fun ps st4 => .ok ((k, z) :: ps) st4).okk fun ps st => .ok (Dn.D.loc st.length) (st ++ [some (Ob.dtt (mergeN acc ps))])) (Fin X.K Q) := h5
                  rw [hkk] at h5'
                  exact h5'.elim
                | some kk =>
                  have h5' : Done X.K X.mg W σ μ5 G5 F ((match topK y with
                    | none => (.bad : Re (List (NestedKey × Dn.D)))
                    | some k => (me vs1 st5).okk fun z st3 => (dcGoN g mt mk me (grd it) (drp ow vs) (it.1.drop (i + 1)) st3).okk fun ps st4 => .ok ((k, z) :: ps) st4).okk fun ps st => .ok (Dn.D.loc st.length) (st ++ [some (Ob.dtt (mergeN acc ps))])) (Fin X.K Q) := h5
                  rw [hkk] at h5'
                  simp only at h5'
                  refine ⟨vs1, st5, μ5, G5, _, (re4.fut f4).fut f5, k5, ?_⟩
                  cases hme : me vs1 st5 with
                  | bad => rw [hme] at h5'; exact h5'
                  | exc e st6 => rw [hme] at h5'; exact h5'.elim
                  | ok z st6 =>
                    rw [hme] at h5'
                    intro μ6 G6 H6 f6 k6 zv rz
                    obtain ⟨b, rfl, hj, hb, hkv, h8⟩ := topK_rep k6.ex (ry.fut f6) hkk
                    have ra6 : RepNK X.K μ6 G6 acc av := RepNK.fut (((f3.trans f4).trans f5).trans f6) ra
                    have hal : acc.length < sizeLine := room_lt (Nat.le_trans (by omega) hr)
                    refine ⟨av, kk, b, rfl, hkv, h8, k6.gat, ⟨.of k6.gat, by rw [repNK_len ra]; omega, hsD, repNK_keys k6.ex ra6⟩, setK acc kk z, putN av kk b zv, st6, μ6, G6, (f14.trans f5).trans f6, k6.reguard, repNK_put hj hb rz ra6, ?_, ?_⟩
                    · have := setN_len (kvs := acc) (k := kk) (d := z)
                      omega
                    · have h6 := Done.fut f6 h5'
                      cases hc : dcGoN g mt mk me (grd it) (drp ow vs) (it.1.drop (i + 1)) st6 with
                      | bad =>
                        have h6' : Done X.K X.mg W σ μ6 G6 F (((dcGoN g mt mk me (grd it) (drp ow vs) (it.1.drop (i + 1)) st6).okk fun ps st4 => .ok ((kk, z) :: ps) st4).okk fun ps st => .ok (Dn.D.loc st.length) (st ++ [some (Ob.dtt (mergeN acc ps))])) (Fin X.K Q) := h6
                        rw [hc] at h6'
                        exact h6'
                      | exc e st7 =>
                        have h6' : Done X.K X.mg W σ μ6 G6 F (((dcGoN g mt mk me (grd it) (drp ow vs) (it.1.drop (i + 1)) st6).okk fun ps st4 => .ok ((kk, z) :: ps) st4).okk fun ps st => .ok (Dn.D.loc st.length) (st ++ [some (Ob.dtt (mergeN acc ps))])) (Fin X.K Q) := h6
                        rw [hc] at h6'
                        exact h6'.elim
                      | ok ps st7 =>
                        have h6' : Done X.K X.mg W σ μ6 G6 F (((dcGoN g mt mk me (grd it) (drp ow vs) (it.1.drop (i + 1)) st6).okk fun ps st4 => .ok ((kk, z) :: ps) st4).okk fun ps st => .ok (Dn.D.loc st.length) (st ++ [some (Ob.dtt (mergeN acc ps))])) (Fin X.K Q) := h6
                        rw [hc] at h6'
                        exact h6'
          | _ => exact h3.elim
    · rw [if_neg hq] at h2; exact h2.elim
  · have e : i = it.1.length := by omega
    subst e
    rw [List.drop_length] at h2
    unfold dcGoN at h2
    by_cases hq : grd it st2
    · rw [if_pos hq] at h2
      obtain ⟨hst, _⟩ := hJ μ2 G2 _ st2 H2 f2 k2 hq
      refine .inl ⟨hst, ?_⟩
      have h3 : Done X.K X.mg W σ μ2 G2 F (.ok (Dn.D.loc st2.length) (st2 ++ [some (Ob.dtt acc)])) (Fin X.K Q) := h2
      have hal : acc.length < sizeLine := room_lt (Nat.le_trans (by omega) hr)
      refine h3 (μ2 ++ [D]) G2 H2 ⟨⟨[D], rfl⟩, .refl G2⟩ (k2.place (ob := .dtt acc) fD ⟨av, rfl, by omega, hsD, ra⟩) _ (.loc ?_)
      rw [← k2.len, List.getElem?_append_right (Nat.le_refl _), Nat.sub_self]
      rfl
    · rw [if_neg hq] at h2; exact h2.elim
theorem m_dcN (own : List (Str × Nat)) (hu : X.A.units + 65 < cLine) (hN : X.N.Nodup) (hi : MI X W tg iter im) (ok : BlkOk X.N X.env.scope scope own)
    (hg : ∀ (s : Shared) (H : Hp) (C : Addr) (cl : List (Str × Addr)) (fp : List Addr), MG (X.blk s H scope (compEnvC scope cl C X.env) fp) tg sl g)
    (ht : ∀ (s : Shared) (H : Hp) (C : Addr) (cl : List (Str × Addr)) (fp : List Addr), MTs (X.blk s H scope (compEnvC scope cl C X.env) fp) W0 ifs mt)
    (hk : ∀ (s : Shared) (H : Hp) (C : Addr) (cl : List (Str × Addr)) (fp : List Addr), ME (X.blk s H scope (compEnvC scope cl C X.env) fp) W0 kx mk)
    (he : ∀ (s : Shared) (H : Hp) (C : Addr) (cl : List (Str × Addr)) (fp : List Addr), ME (X.blk s H scope (compEnvC scope cl C X.env) fp) W0 vx me)
    (hsl : ∀ j ∈ sl, j ∈ own.map (·.2) := by decide) (hc : X.calm = true := by rfl) (hs : ∀ x, foldedSetIterable iter X.env x = pure x := by intro _; rfl) : ME X W (.DictComp kx vx [⟨tg, iter, ifs, 0⟩] scope pos) (eDcN im g mt mk me (own.map (·.2))) :=
  (pe_dcN hu hc hN hi ok hg ht hk he hs).of (dc_ofN hsl)
end
/-! ### their values -/
theorem eDcN_wp {im : IM} {g : TM} {t ek ev : EM} {own : List Nat} {vs : Vars} {st : Store} {Q : D → Store → Prop} :
    wp (eDcN im g t ek ev own vs st) Q = wp (im vs st) fun it st => room it.1.length ∧ wp (dcGoN g t ek ev (grd it) (drp own vs) it.1 st) fun ps st => Q (.loc st.length) (st ++ [some (.dtt (mergeN [] ps))]) := by
  unfold eDcN
  rw [wp_bind]
  congr 1
  funext it st
  split
  · rename_i h
    simp only [wp_okk, h, true_and]
    congr 1
    funext a st
    exact wp_ok
  · rename_i h
    simp only [h, false_and]
    exact wp_bad
theorem dcGoN_map {α : Type} {g : TM} {ek ev : EM} {gd : Store → Prop} {vs : Vars} {st : Store} {f : α → D} {hk : α → D} {kk : α → NestedKey} {hv : α → D} (hg : gd st) : ∀ {xs : List α},
    (∀ x ∈ xs, ∃ vs1, g (f x) vs = some vs1 ∧ ek vs1 st = .ok (hk x) st ∧ topK (hk x) = some (kk x) ∧ ev vs1 st = .ok (hv x) st) → dcGoN g (eC (.bl true)) ek ev gd vs (xs.map f) st = .ok (xs.map fun x => (kk x, hv x)) st
  | [], _ => by
    show dcGoN g (eC (.bl true)) ek ev gd vs [] st = _
    unfold dcGoN
    rw [if_pos hg]
    rfl
  | x :: xs, H => by
    show dcGoN g (eC (.bl true)) ek ev gd vs (f x :: xs.map f) st = _
    unfold dcGoN
    rw [if_pos hg]
    obtain ⟨vs1, h1, h2, h3, h4⟩ := H x List.mem_cons_self
    have ih := dcGoN_map hg (xs := xs) fun y hy => H y (List.mem_cons_of_mem _ hy)
    have ht : eC (.bl true) vs1 st = .ok (.bl true) st := rfl
    simp only [h1, ht, Re.okk, h2, h3, h4, ih]
    rfl
end Dn
/-! several except clauses, with names or without -/
namespace Dn
open PySem PySem.Spec PyProof.Rows L2
/-- a clause: its class, the slot of its name, what its suite is -/
abbrev ClT := Value × Option Nat × (Addr → Value → Option Addr → TS)
/-- where a suite's name is gone -/
def dropE (i : Option Nat) (D : Ends) : Ends := match i with
  | none => D
  | some i => { nx := fun σ' H' => D.nx (σ'.set i none) H', rt := D.rt, bk := fun σ' H' => D.bk (σ'.set i none) H', ct := fun σ' H' => D.ct (σ'.set i none) H' }
def bindE (i : Option Nat) (a : Addr) (σ : L2.St) : L2.St := match i with
  | none => σ
  | some i => σ.set i (some (.ref a))
/-- the wish of the clauses, one after the other -/
def wMix (K : PySem.W.Frag) (Wout : WX) (D : Ends) : List ClT → WX
  | [] => Wout
  | (c, i, ts) :: r => fun cls d σ H => ∃ b, PySem.W.exmOne K cls c = some b ∧ (b = true → ∀ a, H a = none → ts a cls d (dropE i D) (bindE i a σ) H) ∧ (b = false → wMix K Wout D r cls d σ H)
inductive ClsOk (X : Cx) : List ExceptHandler → List ClT → Prop
  | nil : ClsOk X [] []
  | on {x : Str} {c : Value} {ts : Addr → Value → Option Addr → TS} {b₀ : Stmt} {suite : List Stmt} {np pos' : Pos} {hds : List ExceptHandler} {l : List ClT} (hc : Names X x c)
      (hsu : ∀ (a : Addr) (oe : Obj) (cls : Value) (d : Option Addr) (pn : List (Addr × Obj)), Zc cls d oe → (∃ vs, oe.data = .fields vs) → PSs (X.suite a ((a, oe) :: pn)) (b₀ :: suite) (ts a cls d)) (r : ClsOk X hds l) :
      ClsOk X (.ExceptHandler (some (.Name x np)) none (b₀ :: suite) pos' :: hds) ((c, none, ts) :: l)
  | as {x n : Str} {i : Nat} {c : Value} {ts : Addr → Value → Option Addr → TS} {b₀ : Stmt} {suite : List Stmt} {np pos' : Pos} {hds : List ExceptHandler} {l : List ClT} (hc : Names X x c) (hi : X.N[i]? = some n) (hln : X.env.kindOf n = some .local)
      (hsu : ∀ (a : Addr) (oe : Obj) (cls : Value) (d : Option Addr) (pn : List (Addr × Obj)), Zc cls d oe → (∃ vs, oe.data = .fields vs) → PSs (X.suite a ((a, oe) :: pn)) (b₀ :: suite) (ts a cls d)) (r : ClsOk X hds l) :
      ClsOk X (.ExceptHandler (some (.Name x np)) (some n) (b₀ :: suite) pos' :: hds) ((c, some i, ts) :: l)
section
variable {X : Cx} {body : List Stmt} {h₀ : ExceptHandler} {hds : List ExceptHandler} {l : List ClT} {pos : Pos} {tb : WX → TS} {Wout : WX}
theorem ps_try_mix (hs : X.stack = X.env :: X.outer) (hf : X.env.frame = some X.env.locals) (hN : X.N.Nodup) (tk : Takes X Wout)
    (hb : ∀ (W : WX) (pn : List (Addr × Obj)) (xe : Value → Shared → Prop), Takes (X.tr pn xe) W → PassesOwn (model X.prog X.w) X.A X.env xe → PSs (X.tr pn xe) body (tb W))
    (hh : ClsOk X (h₀ :: hds) l) : PS X (.Try body (h₀ :: hds) [] [] pos) (fun D σ H => tb (wMix X.K Wout D l) D σ H) := by
  refine ⟨fun pins s σ H D I h => ?_⟩
  have ok := I.ok
  have frames : X.A.frames = some (X.env :: X.outer) := by rw [ok.frames, hs]
  refine wpAny_Try_except ?_
  refine wpAny_mono ((hb (wMix X.K Wout D l) (X.pn ++ pins) (fun e s₁ => wpAny (model X.prog X.w) X.A (noteFrame e X.env) (fun _ s₂ => wpAny (model X.prog X.w) X.A (setFlight e none) (fun _ s₃ =>
    wpAny (model X.prog X.w) X.A (handleBy e X.env (h₀ :: hds)) (SP X pins D) X.xe s₃) X.xe s₂) X.xe s₁) (fun u s' xx => ?_) PassesOwn.looking).run [] s σ H D (I.toTry _) h) (fun f s1 hsp => ?_) (fun e s1 he => he)
  · -- an exception of the body: it lands here
    obtain ⟨a, B, sI, pins', σ', H', cls, d, rfl, J', nb, up, sky, na, os, ag, w⟩ := xx
    have J : Inv X pins σ' H' sI := J'.ofTry ok
    show wpAny (model X.prog X.w) X.A (noteFrame (.ref a) X.env) _ _ _
    refine Sky.land Zc.steady frames hf (show Sky B (X.env :: X.outer) a (Zc cls d) X.env.locals s'.heap by rw [← hs]; exact sky) fun h3 fl3 up3 => ?_
    have J3 : Inv X pins σ' H' { s' with heap := h3 } := J.landed nb fl3.1 (up.trans up3) os ag
    obtain ⟨oe3, vs3, he3, hz3, hd3⟩ := fl3.there
    have nfr : a ∉ frs (X.env :: X.outer) := fun hm => by
      obtain ⟨_, o', e', hnf⟩ := fl3.2.2.1.mem hm
      rw [he3] at e'
      cases e'
      exact hnf _ hd3
    have nL : a ≠ X.env.locals := fun z => nfr (List.mem_filterMap.mpr ⟨X.env, List.mem_cons_self, by rw [hf, z]⟩)
    have nF : a ∉ X.fs := fun hm => by
      obtain ⟨e, he, q⟩ := List.mem_filterMap.mp hm
      exact nfr (List.mem_filterMap.mpr ⟨e, List.mem_cons_of_mem _ he, q⟩)
    have S3 := J3.suite he3 hd3 na nL nF
    -- does a clause's class take it?
    have asks : ∀ {x : Str} {c : Value} {np : Pos}, Names X x c → ∀ {Q : Value → Shared → Prop} {E : Value → Shared → Prop}, Q c { s' with heap := h3 } → wpAny (model X.prog X.w) (X.A.mark (some (.ref a))) (eval (.Name x np) X.env) Q E { s' with heap := h3 } := by
      intro x c np hc Q E q
      obtain ⟨hg, hdbg, hm | ⟨hm, hv, hnn⟩⟩ := hc
      · exact ld_glob (X := X.suite a ((a, oe3) :: (X.pn ++ pins))) S3 hg hm q hdbg
      · exact ld_blt (X := X.suite a ((a, oe3) :: (X.pn ++ pins))) S3 hg hm hv q hnn hdbg
    have looks : PySem.W.Looks (model X.prog X.w) h3 (typeOf (.ref a)) cls := fun A Q E s k q => wpAny_typeOf_ref (k _ _ he3) (by rw [hz3.1]; exact q)
    have go : ∀ {hds' : List ExceptHandler} {l' : List ClT}, ClsOk X hds' l' → wMix X.K Wout D l' cls d σ' H' →
        wpAny (model X.prog X.w) X.A (handleBy (.ref a) X.env hds') (SP X pins D) X.xe { s' with heap := h3 } := by
      intro hds' l' hk
      induction hk with
      | nil =>
        intro w
        refine wpAny_handleBy_nil ?_
        obtain ⟨k1, k2, k3, oe, vs, T, oT, ts', he, hz, hd, h1, hr⟩ := id fl3
        unfold PySem.passOn
        refine wpAny_bind (wpAny_field he hd h1 ?_)
        rw [if_neg (show ¬ ((Value.ref T == Value.none) = true) from by simp)]
        have fin : wpAny (model X.prog X.w) X.A (setFlight (.ref a) X.env.frame) (fun _ s4 => wpAny (model X.prog X.w) X.A (throw (.ref a) : Sem Flow) (SP X pins D) X.xe s4) X.xe { s' with heap := h3 } := by
          rw [hf]
          refine HandSPX.setFlight_upZ fl3 fun h4 hh4 up4 => wpAny_throw (tk _ _ ?_)
          exact ⟨a, B, sI, pins, σ', H', cls, d, rfl, J, nb, (up.trans up3).trans up4, .inr (.inr (by rw [hs]; exact hh4)), na, os, ag, w⟩
        first
          | exact wpAny_bind (wpAny_pure (wpAny_bind fin))
          | exact wpAny_bind fin
      | @on x c ts b₀ suite np pos' hds2 l2 hc hsu r ih =>
        intro w
        obtain ⟨b, hb1, hyes, hno⟩ := w
        refine wpAny_handleBy_cons (codeAny_handlers_test (asks hc ((PySem.W.exm_one (M := model X.prog X.w) (J3.kIn) looks hb1).here ?_))) (by intro q; cases q)
        cases b with
        | false => exact ih (hno rfl)
        | true =>
          refine codeAny_handlers_suite (HandSPX.lands_againZ fl3 fun h4 fl4 up4 => ?_)
          have J4 : Inv X pins σ' H' { s' with heap := h4 } := J.landed nb fl4.1 ((up.trans up3).trans up4) os ag
          obtain ⟨oe4, vs4, he4, hz4, hd4⟩ := fl4.there
          refine wpAny_mono ((hsu a oe4 cls d (X.pn ++ pins) hz4 ⟨_, hd4⟩).run [] _ _ H' _ (J4.suite he4 hd4 na nL nF) (hyes rfl a na)) (fun f s6 hsp => ?_) (fun _ _ z => False.elim z)
          cases f with
          | next => exact let ⟨σ6, H6, S6, q6⟩ := hsp; ⟨_, _, S6.unsuite ok, q6⟩
          | brk => exact let ⟨σ6, H6, S6, q6⟩ := hsp; ⟨_, _, S6.unsuite ok, q6⟩
          | cont => exact let ⟨σ6, H6, S6, q6⟩ := hsp; ⟨_, _, S6.unsuite ok, q6⟩
          | ret u => exact let ⟨v6, σ6, H6, S6, r6, q6⟩ := hsp; ⟨_, _, _, S6.unsuite ok, r6, q6⟩
      | @as x n i c ts b₀ suite np pos' hds2 l2 hc hi hln hsu r ih =>
        intro w
        obtain ⟨b, hb1, hyes, hno⟩ := w
        refine wpAny_handleBy_cons (codeAny_handlers_test (asks hc ((PySem.W.exm_one (M := model X.prog X.w) (J3.kIn) looks hb1).here ?_))) (by intro q; cases q)
        cases b with
        | false => exact ih (hno rfl)
        | true =>
          refine codeAny_handlers_suite_as (HandSPX.lands_againZ fl3 fun h4 fl4 up4 => ?_)
          have J4 : Inv X pins σ' H' { s' with heap := h4 } := J.landed nb fl4.1 ((up.trans up3).trans up4) os ag
          obtain ⟨oe4, vs4, he4, hz4, hd4⟩ := fl4.there
          refine store_ok (X := X.suite a ((a, oe4) :: (X.pn ++ pins))) (v := .ref a) (J4.suite he4 hd4 na nL nF) hN hi (.inl hln) rfl (fun s5 S5 => ?_) (.inr hln)
          refine wpAny_mono ((hsu a oe4 cls d (X.pn ++ pins) hz4 ⟨_, hd4⟩).run [] s5 _ H' _ S5 (hyes rfl a na)) (fun f s6 hsp => ?_) (fun _ _ z => False.elim z)
          have gone : ∀ {σ6 : L2.St} {H6 : Hp} {Q : Shared → Prop}, Inv (X.suite a ((a, oe4) :: (X.pn ++ pins))) [] σ6 H6 s6 → (∀ s7, Inv X pins (σ6.set i none) H6 s7 → Q s7) →
              wpAny (model X.prog X.w) X.A (do bindName X.env n .none; unbindBehindTheSuite X.env n pos') (fun _ s7 => Q s7) X.xe s6 := fun {σ6 H6 Q} S6 hq => gone_ok (S6.unsuite ok) hN hi hln hq
          cases f with
          | next => exact let ⟨σ6, H6, S6, q6⟩ := hsp; gone S6 fun s7 J7 => ⟨_, _, J7, q6⟩
          | brk => exact let ⟨σ6, H6, S6, q6⟩ := hsp; gone S6 fun s7 J7 => ⟨_, _, J7, q6⟩
          | cont => exact let ⟨σ6, H6, S6, q6⟩ := hsp; gone S6 fun s7 J7 => ⟨_, _, J7, q6⟩
          | ret u => exact let ⟨v6, σ6, H6, S6, r6, q6⟩ := hsp; gone S6 fun s7 J7 => ⟨_, _, _, J7, r6, q6⟩
    exact go hh w
  · cases f with
    | next => exact let ⟨σ', H', J', q⟩ := hsp; wpAny_execs_nil ⟨σ', H', J'.ofTry ok, q⟩
    | brk => exact let ⟨σ', H', J', q⟩ := hsp; ⟨σ', H', J'.ofTry ok, q⟩
    | cont => exact let ⟨σ', H', J', q⟩ := hsp; ⟨σ', H', J'.ofTry ok, q⟩
    | ret u => exact let ⟨v, σ', H', J', r, q⟩ := hsp; ⟨v, σ', H', J'.ofTry ok, r, q⟩
end
/-! what the clauses mean -/
inductive ClM where
  | as (x : Str) (i : Nat) (h : Addr → Addr → SM)
  | on (x : Str) (h : SM)
noncomputable def handM : List ClM → Exn → Vars → Store → Rs
  | [], e, vs1, st1 => .exc e vs1 st1
  | .as x i h :: r, e, vs1, st1 => if catches e.c x = true then (match exD e with
      | some ds => unif fun a dd => dropI i (h a dd (vs1.set i (some (.exn a dd ds))) st1)
      | none => .bad) else handM r e vs1 st1
  | .on x h :: r, e, vs1, st1 => if catches e.c x = true then (match h vs1 st1 with
      | .exc _ _ _ => .bad
      | q => q) else handM r e vs1 st1
noncomputable def sTryM (names : List Str) (l : List ClM) (b : SM) : SM := fun vs st => match b vs st with
  | .exc e vs1 st1 => if names.contains e.c = true then handM l e vs1 st1 else .bad
  | q => q
inductive MCls (X : Cx) (names : List Str) : List ExceptHandler → List ClM → Prop
  | nil : MCls X names [] []
  | on {x : Str} {h : SM} {b₀ : Stmt} {suite : List Stmt} {np pos' : Pos} {hds : List ExceptHandler} {l : List ClM} (T : ExmsT X.K X.mg names x)
      (hsu : ∀ (a : Addr) (oe : Obj) (pn : List (Addr × Obj)), MSs (X.suite a ((a, oe) :: pn)) (fun _ _ _ _ => False) (b₀ :: suite) h) (hg : Gl X x) (hdb : (x == ("__debug__" : Str)) = false) (r : MCls X names hds l) :
      MCls X names (.ExceptHandler (some (.Name x np)) none (b₀ :: suite) pos' :: hds) (.on x h :: l)
  | as {x n : Str} {i : Nat} {h : Addr → Addr → SM} {b₀ : Stmt} {suite : List Stmt} {np pos' : Pos} {hds : List ExceptHandler} {l : List ClM} (T : ExmsT X.K X.mg names x) (hi : X.N[i]? = some n) (hln : X.env.kindOf n = some .local)
      (hsu : ∀ (a : Addr) (oe : Obj) (C dd : Addr) (pn : List (Addr × Obj)), ErrFld X.K C → Zc (.ref C) (some dd) oe → (∃ vs, oe.data = .fields vs) → MSs (X.suite a ((a, oe) :: pn)) (fun _ _ _ _ => False) (b₀ :: suite) (h a dd)) (hg : Gl X x) (hdb : (x == ("__debug__" : Str)) = false) (r : MCls X names hds l) :
      MCls X names (.ExceptHandler (some (.Name x np)) (some n) (b₀ :: suite) pos' :: hds) (.as x i h :: l)
section
variable {X : Cx} {W : WX} {names : List Str} {body : List Stmt} {h₀ : ExceptHandler} {hds : List ExceptHandler} {l : List ClM} {pos : Pos} {mb : SM}
/-- the clauses as wishes -/
theorem mcls_ok (h : MCls X names hds l) : ∃ l', ClsOk X hds l' ∧ ∀ (D : Ends) (e : Exn) (vs1 : Vars) (st1 : Store) (μ1 : List Addr) (G1 F H1 : Hp) (σ1 : L2.St) (cls : Value) (dd : Option Addr), names.contains e.c = true → Kn X.K X.mg μ1 G1 F st1 H1 → RepE X.K μ1 G1 vs1 σ1 → RepX X.K X.mg μ1 G1 e cls dd →
    DoneS X.K X.mg W μ1 G1 F (handM l e vs1 st1) D → wMix X.K W D l' cls dd σ1 H1 := by
  induction h with
  | nil => exact ⟨[], .nil, fun D e vs1 st1 μ1 G1 F H1 σ1 cls dd hn k1 re1 x1 h => h μ1 G1 H1 σ1 cls dd (.refl _ _) k1 re1 x1⟩
  | @on x hm b₀ suite np pos' hds l T hsu hg hdb r ih =>
    obtain ⟨l', ok', w'⟩ := ih
    obtain ⟨cv, hx, he⟩ := T.ok
    refine ⟨(cv, none, fun a cls d => tS X.K X.mg (fun _ _ _ _ => False) hm) :: l', .on ⟨hg, hdb, .inl hx⟩ (fun a oe cls d pn hz hv => hsu a oe pn) ok', fun D e vs1 st1 μ1 G1 F H1 σ1 cls dd hn k1 re1 x1 h => ?_⟩
    obtain ⟨C, hC, hfl, hex⟩ := he e.c (by simpa using hn)
    obtain ⟨C', rfl, e2, hx2⟩ := id x1
    rw [hC] at e2
    cases e2
    have h : DoneS X.K X.mg W μ1 G1 F (if catches e.c x = true then (match hm vs1 st1 with
      | .exc _ _ _ => .bad
      | q => q) else handM l e vs1 st1) D := h
    refine ⟨catches e.c x, hex, fun hy a ha => ?_, fun hno => ?_⟩
    · rw [if_pos hy] at h
      refine ⟨vs1, st1, μ1, G1, F, re1, k1, ?_⟩
      cases hh : hm vs1 st1 with
      | exc _ _ _ => rw [hh] at h; exact h.elim
      | bad => rw [hh] at h; exact h
      | nx _ _ => rw [hh] at h; exact h
      | ret _ _ => rw [hh] at h; exact h
      | brk _ _ => rw [hh] at h; exact h
      | ct _ _ => rw [hh] at h; exact h
    · rw [if_neg (by rw [hno]; decide)] at h
      exact w' D e vs1 st1 μ1 G1 F H1 σ1 _ dd hn k1 re1 x1 h
  | @as x n i hm b₀ suite np pos' hds l T hi hln hsu hg hdb r ih =>
    obtain ⟨l', ok', w'⟩ := ih
    obtain ⟨cv, hx, he⟩ := T.ok
    refine ⟨(cv, some i, fun a cls d => fun E σ H => ∃ C dd, cls = .ref C ∧ d = some dd ∧ ErrFld X.K C ∧ tS X.K X.mg (fun _ _ _ _ => False) (hm a dd) E σ H) :: l',
      .as ⟨hg, hdb, .inl hx⟩ hi hln (fun a oe cls d pn hz hv => ⟨fun pins s σ H D I ⟨C, dd, e1, e2, ef, h⟩ => by subst e1; subst e2; exact (hsu a oe C dd pn ef hz hv).run pins s σ H D I h⟩) ok', fun D e vs1 st1 μ1 G1 F H1 σ1 cls dd hn k1 re1 x1 h => ?_⟩
    obtain ⟨C, hC, hfl, hex⟩ := he e.c (by simpa using hn)
    obtain ⟨C', rfl, e2, hx2⟩ := id x1
    rw [hC] at e2
    cases e2
    have h : DoneS X.K X.mg W μ1 G1 F (if catches e.c x = true then (match exD e with
      | some ds => unif fun a dd => dropI i (hm a dd (vs1.set i (some (.exn a dd ds))) st1)
      | none => .bad) else handM l e vs1 st1) D := h
    refine ⟨catches e.c x, hex, fun hy a ha => ?_, fun hno => ?_⟩
    · rw [if_pos hy] at h
      cases hd : exD e with
      | none => rw [hd] at h; exact h.elim
      | some ds =>
        rw [hd] at h
        obtain ⟨_, d1, rfl, rx⟩ := x1.get hC hd a
        refine ⟨C, d1, rfl, rfl, hfl, vs1.set i (some (.exn a d1 ds)), st1, μ1, G1, F, re1.set rx i, k1, ?_⟩
        have h : DoneS X.K X.mg W μ1 G1 F (unif fun a dd => dropI i (hm a dd (vs1.set i (some (.exn a dd ds))) st1)) D := h
        rcases unif_bad (f := fun a dd => dropI i (hm a dd (vs1.set i (some (.exn a dd ds))) st1)) a d1 with q | q
        · rw [q] at h
          cases hh : hm a d1 (vs1.set i (some (.exn a d1 ds))) st1 with
          | bad => rw [hh] at h; exact h.elim
          | exc _ _ _ => rw [hh] at h; exact h.elim
          | ret d st => rw [hh] at h; exact h
          | nx vs2 st2 => rw [hh] at h; exact fun a b c d e f g => h a b c _ e f g.clear
          | brk vs2 st2 => rw [hh] at h; exact fun a b c d e f g => h a b c _ e f g.clear
          | ct vs2 st2 => rw [hh] at h; exact fun a b c d e f g => h a b c _ e f g.clear
        · rw [q] at h; exact h.elim
    · rw [if_neg (by rw [hno]; decide)] at h
      exact w' D e vs1 st1 μ1 G1 F H1 σ1 _ dd hn k1 re1 x1 h
theorem st_try_m (hs : X.stack = X.env :: X.outer) (hf : X.env.frame = some X.env.locals) (hN : X.N.Nodup) (tk : Takes X W)
    (hb : ∀ (W : WX) (pn : List (Addr × Obj)) (xe : Value → Shared → Prop), Takes (X.tr pn xe) W → PassesOwn (model X.prog X.w) X.A X.env xe → MSs (X.tr pn xe) W body mb)
    (hh : MCls X names (h₀ :: hds) l) : MS X W (.Try body (h₀ :: hds) [] [] pos) (sTryM names l mb) := by
  obtain ⟨l', ok', w'⟩ := mcls_ok (W := W) hh
  refine (ps_try_mix (tb := fun W => tS X.K X.mg W mb) (Wout := W) hs hf hN tk hb ok').of fun E σ H h => ?_
  obtain ⟨vs, st, μ, G, F, re, k, h⟩ := h
  refine ⟨vs, st, μ, G, F, re, k, ?_⟩
  unfold sTryM at h
  cases hr : mb vs st with
  | bad => rw [hr] at h; exact h
  | nx _ _ => rw [hr] at h; exact h
  | ret _ _ => rw [hr] at h; exact h
  | brk _ _ => rw [hr] at h; exact h
  | ct _ _ => rw [hr] at h; exact h
  | exc e vs1 st1 =>
    rw [hr] at h
    intro μ1 G1 H1 σ1 cls dd f1 k1 re1 x1
    have h : DoneS X.K X.mg W μ G F (if names.contains e.c = true then handM l e vs1 st1 else .bad) E := h
    by_cases hn : names.contains e.c = true
    · rw [if_pos hn] at h
      exact w' E e vs1 st1 μ1 G1 F H1 σ1 cls dd hn k1 re1 x1 (DoneS.fut f1 h)
    · rw [if_neg hn] at h; exact h.elim
end
/-- a try with several clauses -/
theorem wpS_tryM {names : List Str} {l : List ClM} {b : SM} {vs : Vars} {st : Store} {P : Po}
    (hb : wpSX (b vs st) P fun e vs1 st1 => names.contains e.c = true ∧ wpS (handM l e vs1 st1) P) : wpS (sTryM names l b vs st) P := by
  unfold sTryM
  cases hr : b vs st with
  | bad => rw [hr] at hb; exact hb.of.elim
  | exc e vs1 st1 =>
    rw [hr, wpSX_exc] at hb
    simp only [hb.1, if_true]
    exact hb.2
  | nx _ _ => rw [hr] at hb; exact ⟨hb.of⟩
  | ret _ _ => rw [hr] at hb; exact ⟨hb.of⟩
  | brk _ _ => rw [hr] at hb; exact ⟨hb.of⟩
  | ct _ _ => rw [hr] at hb; exact ⟨hb.of⟩
theorem handM_as {x : Str} {i : Nat} {h : Addr → Addr → SM} {r : List ClM} {e : Exn} {ds : List D} {vs1 : Vars} {st1 : Store} {q : Rs} (hc : catches e.c x = true) (he : exD e = some ds) (hq : ∀ a dd, dropI i (h a dd (vs1.set i (some (.exn a dd ds))) st1) = q) : handM (.as x i h :: r) e vs1 st1 = q := by
  rw [handM, if_pos hc, he]
  exact unif_of hq
theorem handM_skipA {x : Str} {i : Nat} {h : Addr → Addr → SM} {r : List ClM} {e : Exn} {vs1 : Vars} {st1 : Store} (hc : catches e.c x = false) : handM (.as x i h :: r) e vs1 st1 = handM r e vs1 st1 := by
  rw [handM, if_neg (by rw [hc]; decide)]
theorem handM_skipO {x : Str} {h : SM} {r : List ClM} {e : Exn} {vs1 : Vars} {st1 : Store} (hc : catches e.c x = false) : handM (.on x h :: r) e vs1 st1 = handM r e vs1 st1 := by
  rw [handM, if_neg (by rw [hc]; decide)]
end Dn
/-! a op b op c op d, as a test -/
namespace Dn
open PySem PySem.Spec PyProof.Rows L2
def tChain3 (r r' r'' : R2) (ta tb tc td : TE) : TE := fun σ H Q => ta σ H fun x H1 => tb σ H1 fun y H2 => r x y H2 fun z H3 => ∃ k, z = .bl k ∧
  (if k = true then tc σ H3 fun w H4 => r' y w H4 fun z2 H5 => ∃ k2, z2 = .bl k2 ∧ (if k2 = true then td σ H5 fun w2 H6 => r'' w w2 H6 Q else Q (.bl false) H5) else Q (.bl false) H3)
section
variable {X : Cx} {a b c d : Expr} {ta tb tc td : TE} {pos : Pos}
theorem pt_chain3 {op op' op'' : CmpOp} {r r' r'' : R2} (ho : OpR X (compareOp op) r) (ho' : OpR X (compareOp op') r') (ho'' : OpR X (compareOp op'') r'') (ha : PE X a ta) (hb : PE X b tb) (hc : PE X c tc) (hd : PE X d td)
    (hm : lastMarks [op, op', op''] [b, c, d] = false := by with_unfolding_all rfl) : PT X (.Compare a [op, op', op''] [b, c, d] pos) (tTest (tChain3 r r' r'' ta tb tc td)) := by
  refine ⟨fun pins s σ H Q I h => ?_⟩
  refine isTrue_chain (thn (ha.run pins s σ H _ I h) fun v s1 ⟨x, H1, I1, r1, q1⟩ => test_link (thn (hb.run pins s1 σ H1 _ I1 q1) fun u s2 ⟨y, H2, I2, r2, q2⟩ =>
    thn (ho pins s2 σ H2 x y v u _ I2 r1 r2 q2) fun d s3 ⟨z, H3, I3, r3, k, e, q3⟩ => ?_)) hm
  subst e
  cases r3
  refine wpAny_truthy_bool ?_
  cases k with
  | false =>
    obtain ⟨k', e', q'⟩ := q3
    cases e'
    exact ite_ff ⟨H3, I3, q'⟩
  | true =>
    refine ite_tt (test_link (thn (hc.run pins s3 σ H3 _ I3 q3) fun w' s4 ⟨z', H4, I4, r4, q4⟩ => thn (ho' pins s4 σ H4 y z' u w' _ I4 r2 r4 q4) fun d' s5 ⟨z2, H5, I5, r5, k2, e2, q5⟩ => ?_))
    subst e2
    cases r5
    refine wpAny_truthy_bool ?_
    cases k2 with
    | false =>
      obtain ⟨k', e', q'⟩ := q5
      cases e'
      exact ite_ff ⟨H5, I5, q'⟩
    | true =>
      refine ite_tt (test_last (thn (hd.run pins s5 σ H5 _ I5 q5) fun w2 s6 ⟨z3, H6, I6, r6, q6⟩ => thn (ho'' pins s6 σ H6 z' z3 w' w2 _ I6 r4 r6 q6) fun d2 s7 ⟨z4, H7, I7, r7, k3, e3, q7⟩ => ?_))
      subst e3
      cases r7
      exact wpAny_truthy_bool ⟨H7, I7, q7⟩
end
def eChain3 (f g h : D → D → Store → Re D) (a b c d : EM) : EM := fun vs st => (a vs st).bind fun x st => (b vs st).bind fun y st => (f x y st).bind fun z st => onB z ((c vs st).bind fun w st => (g y w st).bind fun z2 st => onB z2 ((d vs st).bind fun u st => h w u st) (.ok (.bl false) st)) (.ok (.bl false) st)
@[simp] theorem eChain3_eq {f g h : D → D → Store → Re D} {a b c d : EM} {vs : Vars} {st : Store} : eChain3 f g h a b c d vs st = (a vs st).bind fun x st => (b vs st).bind fun y st => (f x y st).bind fun z st => onB z ((c vs st).bind fun w st => (g y w st).bind fun z2 st => onB z2 ((d vs st).bind fun u st => h w u st) (.ok (.bl false) st)) (.ok (.bl false) st) := rfl
section
variable {X : Cx} {W : WX} {a b c d : Expr} {ma mb mc md : EM} {pos : Pos}
theorem t_chain3 {op op' op'' : CmpOp} {r r' r'' : R2} {f g h : D → D → Store → Re D} (ho : OpR X (compareOp op) r) (hs : S2 X.K X.mg f r) (ho' : OpR X (compareOp op') r') (hs' : S2 X.K X.mg g r') (ho'' : OpR X (compareOp op'') r'') (hs'' : S2 X.K X.mg h r'')
    (ha : ME X W a ma) (hb : ME X W b mb) (hc : ME X W c mc) (hd : ME X W d md)
    (hm : lastMarks [op, op', op''] [b, c, d] = false := by with_unfolding_all rfl) : MT X W (.Compare a [op, op', op''] [b, c, d] pos) (eChain3 f g h ma mb mc md) := (pt_chain3 ho ho' ho'' ha hb hc hd hm).of fun σ H Q q => by
  have q := tT_tE q
  obtain ⟨vs, st, μ, G, F, re, k, q⟩ := q
  refine ⟨vs, st, μ, G, F, re, k, (Done.bind q).mono fun μ1 G1 x st1 H1 f1 k1 h1 v rv => ?_⟩
  refine ⟨vs, st1, μ1, G1, F, re.fut f1, k1, (Done.bind h1).mono fun μ2 G2 y st2 H2 f2 k2 h2 w rw' => ?_⟩
  refine hs W σ μ2 G2 F st2 H2 x y v w _ k2 (rv.fut f2) rw' ((Done.bind h2).mono fun μ3 G3 z st3 H3 f3 k3 h3 z' rz => ?_)
  obtain ⟨kk, rfl, h3⟩ := onB_done (α := Unit) h3
  refine ⟨kk, rep_bl rz, ?_⟩
  cases kk with
  | false =>
    rw [if_neg Bool.false_ne_true]
    exact fin_here k3 h3 .bl
  | true =>
    rw [if_pos rfl]
    have h3' : Done X.K X.mg W σ μ3 G3 F ((mc vs st3).bind fun w st => (g y w st).bind fun z2 st => onB z2 ((md vs st).bind fun u st => h w u st) (.ok (.bl false) st)) _ := h3
    refine ⟨vs, st3, μ3, G3, F, ((re.fut f1).fut f2).fut f3, k3, (Done.bind h3').mono fun μ4 G4 u st4 H4 f4 k4 h4 u' ru => ?_⟩
    refine hs' W σ μ4 G4 F st4 H4 y u w u' _ k4 ((rw'.fut f3).fut f4) ru ((Done.bind h4).mono fun μ5 G5 z st5 H5 f5 k5 h5 z' rz => ?_)
    obtain ⟨kk, rfl, h5⟩ := onB_done (α := Unit) h5
    refine ⟨kk, rep_bl rz, ?_⟩
    cases kk with
    | false =>
      rw [if_neg Bool.false_ne_true]
      exact fin_here k5 h5 .bl
    | true =>
      rw [if_pos rfl]
      have h5' : Done X.K X.mg W σ μ5 G5 F ((md vs st5).bind fun w st => h u w st) _ := h5
      refine ⟨vs, st5, μ5, G5, F, ((((re.fut f1).fut f2).fut f3).fut f4).fut f5, k5, (Done.bind h5').mono fun μ6 G6 t st6 H6 f6 k6 h6 t' rt => ?_⟩
      exact hs'' W σ μ6 G6 F st6 H6 u t u' t' _ k6 ((ru.fut f5).fut f6) rt h6
end
end Dn
/-! isinstance(x, T), T a built-in type -/
namespace Dn
open PySem PySem.Spec PyProof.Rows L2
def tyn (st : Store) : D → Option String
  | .non => some "NoneType"
  | .bl _ => some "bool"
  | .int _ => some "int"
  | .str _ => some "str"
  | .tup _ => some "tuple"
  | .lst _ => some "list"
  | .loc n => match cell st n with
    | some (.lst _) => some "list"
    | _ => none
  | _ => none
def isiD (T : String) (x : D) (st : Store) : Re D := match tyn st x with
  | some a => match kitB a T with
    | some b => .ok (.bl b) st
    | none => .bad
  | none => .bad
theorem tyx_tup {K : PySem.W.Frag} {H : Hp} {a : Addr} {vs : List V} (h : SqT K H a vs) : TyX K H (.ref a) (.type "tuple") := by
  rcases h with (h | ⟨o, h⟩) | ⟨o, its, n, h1, h2, _⟩
  · exact .base (.tup h)
  · exact .fTuple h
  · exact .kTuple h1 h2
theorem tyn_rep {K : PySem.W.Frag} {mg : Str → Option Value} {μ : List Addr} {G F H : Hp} {st : Store} {x : D} {v : V} {T : String} (k : Kn K mg μ G F st H) (r : Rep K μ G x v) (e : tyn st x = some T) : TyX K H v (.type T) := by
  cases x with
  | non => injection e with e; subst e; rw [rep_non r]; exact .base .non
  | bl b => injection e with e; subst e; rw [rep_bl r]; exact .base (.bl b)
  | int i => injection e with e; subst e; rw [rep_int r]; exact .base (.int i)
  | str i => injection e with e; subst e; rw [rep_str r]; exact .base (.str i)
  | tup ds =>
    injection e with e
    subst e
    obtain ⟨a, vs, rfl, hs, _⟩ := rep_tup r
    exact tyx_tup (k.ex.sqt hs)
  | lst ds =>
    injection e with e
    subst e
    obtain ⟨a, vs, rfl, hs, _⟩ := rep_lst r
    exact .base (.lst (k.ex a _ hs))
  | frz ds => cases e
  | exn _ _ _ => cases e
  | loc n =>
    have e' : (match cell st n with | some (.lst _) => some "list" | _ => none) = some T := e
    split at e'
    · rename_i ds hc
      injection e' with e'
      subst e'
      obtain ⟨a, rfl, ha⟩ := rep_loc r
      obtain ⟨a', o, h1, _, _, h4, vs, rfl, _⟩ := k.cell n _ (cell_some hc)
      rw [ha] at h1
      cases h1
      exact .base (.lst h4)
    · cases e'
section
variable {X : Cx} {W : WX} {a : Expr} {ma : EM} {p np pos : Pos} {T : String} {tn : Str}
theorem m_isi (T : String) (hm : X.mg "isinstance" = none) (hT : X.mg tn = none) (hb : bootBuiltins tn = some (.type T)) (ha : ME X W a ma) (hg : Gl X "isinstance" := by rfl) (hgT : Gl X tn := by rfl) (hn : tn ≠ "__name__" := by decide) (hd : (tn == ("__debug__" : Str)) = false := by decide)
    (he : starEach [a, .Name tn np] X.env = (false, eval a X.env) :: starEach [.Name tn np] X.env := by rfl) (he2 : starEach [.Name tn np] X.env = (false, eval (.Name tn np) X.env) :: starEach [] X.env := by rfl)
    (hpl : (backTo pos (starEach [.Name tn np] X.env)).any (·.1) = false := by rfl) :
    ME X W (.Call (.Name "isinstance" p) [a, .Name tn np] [] pos) (e1 (isiD T) ma) := by
  refine (pe_callB (X := X) call_isi hg hm PyProof.Rows.boot_isinstance (pa_cons ha (pa_cons (pe_bltn (v := V.ty T) hgT hT hb rfl hn hd) pa_nil he2) he) (he := he) (hpl := hpl)).of fun σ H Q h => ?_
  obtain ⟨vs, st, μ, G, F, re, k, h⟩ := h
  refine ⟨vs, st, μ, G, F, re, k, (Done.bind h).mono fun μ1 G1 x st1 H1 f1 k1 h1 v rv => ?_⟩
  have h1 : Done X.K X.mg W σ μ1 G1 F (isiD T x st1) (Fin X.K Q) := h1
  unfold isiD at h1
  cases e : tyn st1 x with
  | none => rw [e] at h1; exact h1.elim
  | some t =>
    simp only [e] at h1
    cases e2 : kitB t T with
    | none => simp only [e2] at h1; exact h1.elim
    | some b =>
      simp only [e2] at h1
      exact ⟨v, .ty T, .type t, .type T, b, rfl, .ty T, tyn_rep k1 rv e, kit_ty e2, fin_here k1 h1 .bl⟩
end
section
variable {st : Store}
theorem kitB_NoneType_int : kitB "NoneType" "int" = some false := by decide +kernel
@[simp] theorem isiD_NoneType_int : isiD "int" .non st = .ok (.bl false) st := by
  unfold isiD
  simp only [tyn, kitB_NoneType_int]
theorem kitB_NoneType_bool : kitB "NoneType" "bool" = some false := by decide +kernel
@[simp] theorem isiD_NoneType_bool : isiD "bool" .non st = .ok (.bl false) st := by
  unfold isiD
  simp only [tyn, kitB_NoneType_bool]
theorem kitB_NoneType_str : kitB "NoneType" "str" = some false := by decide +kernel
@[simp] theorem isiD_NoneType_str : isiD "str" .non st = .ok (.bl false) st := by
  unfold isiD
  simp only [tyn, kitB_NoneType_str]
theorem kitB_NoneType_tuple : kitB "NoneType" "tuple" = some false := by decide +kernel
@[simp] theorem isiD_NoneType_tuple : isiD "tuple" .non st = .ok (.bl false) st := by
  unfold isiD
  simp only [tyn, kitB_NoneType_tuple]
theorem kitB_bool_int : kitB "bool" "int" = some true := by decide +kernel
@[simp] theorem isiD_bool_int {b : Bool} : isiD "int" (.bl b) st = .ok (.bl true) st := by
  unfold isiD
  simp only [tyn, kitB_bool_int]
theorem kitB_bool_bool : kitB "bool" "bool" = some true := by decide +kernel
@[simp] theorem isiD_bool_bool {b : Bool} : isiD "bool" (.bl b) st = .ok (.bl true) st := by
  unfold isiD
  simp only [tyn, kitB_bool_bool]
theorem kitB_bool_str : kitB "bool" "str" = some false := by decide +kernel
@[simp] theorem isiD_bool_str {b : Bool} : isiD "str" (.bl b) st = .ok (.bl false) st := by
  unfold isiD
  simp only [tyn, kitB_bool_str]
theorem kitB_bool_tuple : kitB "bool" "tuple" = some false := by decide +kernel
@[simp] theorem isiD_bool_tuple {b : Bool} : isiD "tuple" (.bl b) st = .ok (.bl false) st := by
  unfold isiD
  simp only [tyn, kitB_bool_tuple]
theorem kitB_int_int : kitB "int" "int" = some true := by decide +kernel
@[simp] theorem isiD_int_int {i : Int} : isiD "int" (.int i) st = .ok (.bl true) st := by
  unfold isiD
  simp only [tyn, kitB_int_int]
theorem kitB_int_bool : kitB "int" "bool" = some false := by decide +kernel
@[simp] theorem isiD_int_bool {i : Int} : isiD "bool" (.int i) st = .ok (.bl false) st := by
  unfold isiD
  simp only [tyn, kitB_int_bool]
theorem kitB_int_str : kitB "int" "str" = some false := by decide +kernel
@[simp] theorem isiD_int_str {i : Int} : isiD "str" (.int i) st = .ok (.bl false) st := by
  unfold isiD
  simp only [tyn, kitB_int_str]
theorem kitB_int_tuple : kitB "int" "tuple" = some false := by decide +kernel
@[simp] theorem isiD_int_tuple {i : Int} : isiD "tuple" (.int i) st = .ok (.bl false) st := by
  unfold isiD
  simp only [tyn, kitB_int_tuple]
theorem kitB_str_int : kitB "str" "int" = some false := by decide +kernel
@[simp] theorem isiD_str_int {x : Str} : isiD "int" (.str x) st = .ok (.bl false) st := by
  unfold isiD
  simp only [tyn, kitB_str_int]
theorem kitB_str_bool : kitB "str" "bool" = some false := by decide +kernel
@[simp] theorem isiD_str_bool {x : Str} : isiD "bool" (.str x) st = .ok (.bl false) st := by
  unfold isiD
  simp only [tyn, kitB_str_bool]
theorem kitB_str_str : kitB "str" "str" = some true := by decide +kernel
@[simp] theorem isiD_str_str {x : Str} : isiD "str" (.str x) st = .ok (.bl true) st := by
  unfold isiD
  simp only [tyn, kitB_str_str]
theorem kitB_str_tuple : kitB "str" "tuple" = some false := by decide +kernel
@[simp] theorem isiD_str_tuple {x : Str} : isiD "tuple" (.str x) st = .ok (.bl false) st := by
  unfold isiD
  simp only [tyn, kitB_str_tuple]
theorem kitB_tuple_int : kitB "tuple" "int" = some false := by decide +kernel
@[simp] theorem isiD_tuple_int {ds : List D} : isiD "int" (.tup ds) st = .ok (.bl false) st := by
  unfold isiD
  simp only [tyn, kitB_tuple_int]
theorem kitB_tuple_bool : kitB "tuple" "bool" = some false := by decide +kernel
@[simp] theorem isiD_tuple_bool {ds : List D} : isiD "bool" (.tup ds) st = .ok (.bl false) st := by
  unfold isiD
  simp only [tyn, kitB_tuple_bool]
theorem kitB_tuple_str : kitB "tuple" "str" = some false := by decide +kernel
@[simp] theorem isiD_tuple_str {ds : List D} : isiD "str" (.tup ds) st = .ok (.bl false) st := by
  unfold isiD
  simp only [tyn, kitB_tuple_str]
theorem kitB_tuple_tuple : kitB "tuple" "tuple" = some true := by decide +kernel
@[simp] theorem isiD_tuple_tuple {ds : List D} : isiD "tuple" (.tup ds) st = .ok (.bl true) st := by
  unfold isiD
  simp only [tyn, kitB_tuple_tuple]
theorem kitB_list_int : kitB "list" "int" = some false := by decide +kernel
@[simp] theorem isiD_list_int {ds : List D} : isiD "int" (.lst ds) st = .ok (.bl false) st := by
  unfold isiD
  simp only [tyn, kitB_list_int]
theorem kitB_list_bool : kitB "list" "bool" = some false := by decide +kernel
@[simp] theorem isiD_list_bool {ds : List D} : isiD "bool" (.lst ds) st = .ok (.bl false) st := by
  unfold isiD
  simp only [tyn, kitB_list_bool]
theorem kitB_list_str : kitB "list" "str" = some false := by decide +kernel
@[simp] theorem isiD_list_str {ds : List D} : isiD "str" (.lst ds) st = .ok (.bl false) st := by
  unfold isiD
  simp only [tyn, kitB_list_str]
theorem kitB_list_tuple : kitB "list" "tuple" = some false := by decide +kernel
@[simp] theorem isiD_list_tuple {ds : List D} : isiD "tuple" (.lst ds) st = .ok (.bl false) st := by
  unfold isiD
  simp only [tyn, kitB_list_tuple]
end
end Dn
/-! x[i] op= e, x a list -/
namespace Dn
open PySem PySem.Spec PyProof.Rows L2
def itemL (st : Store) (x y : D) : Option D := match x, y with
  | .loc n, .int k => (lstAt st n).bind fun ds => if 0 ≤ k ∧ k ≤ 1000000 then ds[k.toNat]? else none
  | _, _ => none
def sAugL (f : D → D → Store → Re D) (o i m : EM) : SM := fun vs st => (o vs st).thn vs fun x st => (i vs st).thn vs fun y st => match itemL st x y with
  | some d => (m vs st).thn vs fun z st => (f d z st).thn vs fun w st => match setD x y w st with
    | some st => .nx vs st
    | none => .bad
  | none => .bad
def rGetL (K : PySem.W.Frag) : V → V → Hp → VK → Prop := fun x y H Q => ∃ p xs k v, x = .ref p ∧ y = .int k ∧ H p = some (.lst xs) ∧ 0 ≤ k ∧ k < 2 ^ 63 ∧ xs[k.toNat]? = some v ∧ Q v H
section
variable {X : Cx} {W : WX} {o i e : Expr} {mo mi me : EM} {pos tpos : Pos}
theorem get_list : PGet X (rGetL X.K) := by
  intro pins s σ H x y v u Q I rx ry h
  obtain ⟨p, xs, k, z, rfl, rfl, hp, h0, h1, hz, q⟩ := h
  obtain rfl : v = Value.ref p := rx
  obtain ⟨t, rfl⟩ : ∃ t, u = Value.int k t := ry
  obtain ⟨its, rv, hl, _⟩ := I.list (.inl (.inl hp))
  obtain ⟨u', hu, ru⟩ := rv.get hz
  exact wpAny_getItem_list hl.isList h0 h1 (by simpa using hu) ⟨z, H, I, ru, q⟩
theorem st_augL {op : Operator} {r : R2} {f : D → D → Store → Re D} (ho : OpR X (inplaceOp op) r) (hsf : S2 X.K X.mg f r) (hx : ME X W o mo) (hi : ME X W i mi) (he : ME X W e me)
    (ha : ∀ ov iv new, augStore i ov iv new = (do holding [new, ov, iv] (setItem ov iv new); release [new, ov, iv] []; pure .next) := by intros; rfl) :
    MS X W (.AugAssign (.Subscript o i tpos) op e pos) (sAugL f mo mi me) :=
  (ps_augS (tip := r) hx hi get_list he (fun pins s σ H x y v u Q I rx ry h => ho pins s σ H x y v u Q I rx ry h) set_list ha).of fun D σ H h => by
  obtain ⟨vs, st, μ, G, F, re, k, h⟩ := h
  refine ⟨vs, st, μ, G, F, re, k, (DoneS.thn re h).mono fun μ1 G1 x st1 H1 f1 k1 h1 xv rx => ?_⟩
  refine ⟨vs, st1, μ1, G1, F, re.fut f1, k1, (DoneS.thn (re.fut f1) h1).mono fun μ2 G2 y st2 H2 f2 k2 h2 yv ry => ?_⟩
  cases hd : itemL st2 x y with
  | none => simp only [hd] at h2; exact h2.elim
  | some d =>
    simp only [hd] at h2
    unfold itemL at hd
    split at hd
    · rename_i n j
      cases hl : lstAt st2 n with
      | none => rw [hl] at hd; cases hd
      | some ds =>
        rw [hl] at hd
        have hd : (if 0 ≤ j ∧ j ≤ 1000000 then ds[j.toNat]? else none) = some d := hd
        split at hd
        · rename_i hj
          have rx2 := rx.fut f2
          obtain ⟨a, rfl, ha⟩ := rep_loc rx2
          obtain ⟨a', ob, h1', _, _, h4, ws, rfl, rws⟩ := k2.cell n _ (cell_some (lstAt_cell hl))
          rw [ha] at h1'
          cases h1'
          obtain rfl := rep_int ry
          obtain ⟨w, hw, rw1⟩ := rws.get hd
          refine ⟨a, ws, j, w, rfl, rfl, h4, hj.1, Int.lt_of_le_of_lt hj.2 (by decide), hw, ?_⟩
          refine ⟨vs, st2, μ2, G2, F, (re.fut f1).fut f2, k2, (DoneS.thn ((re.fut f1).fut f2) h2).mono fun μ3 G3 z st3 H3 f3 k3 h3 zv rz => ?_⟩
          refine hsf W σ μ3 G3 F st3 H3 d z w zv _ k3 (rw1.fut f3) rz ((DoneS.thn (((re.fut f1).fut f2).fut f3) h3).mono fun μ4 G4 u st4 H4 f4 k4 h4' uv ru => ?_)
          split at h4'
          · rename_i st5 e5
            exact s_setL μ4 G4 F st4 st5 H4 _ _ u _ _ uv _ k4 ((rx2.fut f3).fut f4) .int ru e5 fun H' k5 => h4' μ4 G4 H' σ (.refl _ _) k5 ((((re.fut f1).fut f2).fut f3).fut f4)
          · exact h4'.elim
        · cases hd
    · cases hd
end
@[simp] theorem wpS_augL {f : D → D → Store → Re D} {o i m : EM} {vs : Vars} {st : Store} : sAugL f o i m vs st = (o vs st).thn vs fun x st => (i vs st).thn vs fun y st => match itemL st x y with
  | some d => (m vs st).thn vs fun z st => (f d z st).thn vs fun w st => match setD x y w st with
    | some st => .nx vs st
    | none => .bad
  | none => .bad := rfl
theorem itemL_of {st : Store} {n : Nat} {ds : List D} {k : Nat} {d : D} (h : lstAt st n = some ds) (hk : ds[k]? = some d) (hl : ds.length ≤ 1000000) : itemL st (.loc n) (.int (k : Int)) = some d := by
  have := (List.getElem?_eq_some_iff.mp hk).1
  unfold itemL
  simp only [h, Option.bind_some]
  rw [if_pos (by omega)]
  simpa using hk
theorem setD_of {st : Store} {n : Nat} {ds : List D} {k : Nat} {d : D} (h : lstAt st n = some ds) (hk : k < ds.length) : setD (.loc n) (.int (k : Int)) d st = some (st.set n (some (.lst (ds.set k d)))) := by
  unfold setD
  simp only [h, Option.bind_some]
  rw [ixN_pos (by omega) (by omega)]
  simp
end Dn
/-! a if c else b, as a test -/
namespace Dn
open PySem PySem.Spec PyProof.Rows L2
def tIfT (c a b : TT) : TT := fun σ H Q => c σ H fun k H1 => if k = true then a σ H1 Q else b σ H1 Q
theorem pt_if {X : Cx} {c a b : Expr} {tc ta tb : TT} {pos : Pos} (hc : PT X c tc) (ha : PT X a ta) (hb : PT X b tb) : PT X (.IfExp c a b pos) (tIfT tc ta tb) := by
  refine ⟨fun pins s σ H Q I h => ?_⟩
  refine isTrue_IfExp (thn (hc.run pins s σ H _ I h) fun k s1 ⟨H1, I1, q1⟩ => ?_)
  cases k with
  | true => exact ha.run pins s1 σ H1 Q I1 (by rw [if_pos rfl] at q1; exact q1)
  | false => exact hb.run pins s1 σ H1 Q I1 (by rw [if_neg Bool.false_ne_true] at q1; exact q1)
theorem t_if {X : Cx} {W : WX} {c a b : Expr} {mc ma mb : EM} {pos : Pos} (hc : MT X W c mc) (ha : MT X W a ma) (hb : MT X W b mb) : MT X W (.IfExp c a b pos) (eIf mc ma mb) := (pt_if hc ha hb).of fun σ H Q h => by
  obtain ⟨vs, st, μ, G, F, re, k, h⟩ := h
  refine ⟨vs, st, μ, G, F, re, k, (Done.bind h).mono fun μ1 G1 x st1 H1 f1 k1 h1 => ?_⟩
  obtain ⟨kk, rfl, h1⟩ := onB_done (α := Unit) h1
  refine ⟨kk, rfl, ?_⟩
  cases kk with
  | true =>
    rw [if_pos rfl]
    exact ⟨vs, st1, μ1, G1, F, re.fut f1, k1, h1⟩
  | false =>
    rw [if_neg Bool.false_ne_true]
    exact ⟨vs, st1, μ1, G1, F, re.fut f1, k1, h1⟩
end Dn
/-! tuple * 0 -/
namespace Dn
open PySem PySem.Spec PyProof.Rows L2
theorem tuple_mul0W (l : Addr) (items : Array Value) (n : Nat) (dd : Option Addr) (sl : Array (Option Value)) (u : Tok) (hi : items.isEmpty = false) :
    Meets (Builtin.«tuple.__mul__» ⟨[.ref l, .int 0 u], []⟩) (fun _ R s => s.heap.get? l = some { cls := .type "tuple", dict := dd, data := .seq items n, slots := sl } ∧
      R (.ok (.ret (Value.ref s.heap.objs.size))) { s with heap := s.heap.push { cls := Value.type "tuple", data := Data.seq #[] }, toks := s.toks }) :=
  .of_wp fun prog w A R s h => by
    obtain ⟨hp, g, d, tk, os⟩ := s
    obtain ⟨hl, h⟩ := h
    have f1 := AutoSeq1.idx_int
    have c0 : (decide ((0 : Int) < -(2 ^ 63)) || decide ((0 : Int) ≥ 2 ^ 63)) = false := by decide
    have c1 : (items.isEmpty || (0 : Int) == 1) = false := by rw [hi]; rfl
    have c2 : (decide ((0 : Int) ≤ 0) || items.isEmpty) = true := by simp
    wp_walk using wpAny_loadPart' hl
    repeat (first
      | (refine wpAny_ite_false (decide_eq_false (by rw [c0]; exact Bool.false_ne_true)) ?_; wp_walk using wpAny_loadPart' hl)
      | (refine wpAny_ite_false (decide_eq_false (by rw [c1]; exact Bool.false_ne_true)) ?_; wp_walk using wpAny_loadPart' hl)
      | (refine wpAny_ite_true (decide_eq_true c2) ?_; wp_walk using wpAny_loadPart' hl))
    exact ⟨_, rfl, h⟩
def rRepT0 (K : PySem.W.Frag) : R2 := fun x y H Q => ∃ l xs, x = .ref l ∧ y = .int 0 ∧ SqT K H l xs ∧ xs ≠ [] ∧ ∀ p, H p = none → Q (.ref p) (upd H p (.tup []))
theorem op_repT0 {X : Cx} : OpR X (binaryOp .Mult) (rRepT0 X.K) := by
  intro pins s σ H x y v u Q I rx ry h
  obtain ⟨l, xs, rfl, rfl, hT, hne, q⟩ := h
  cases rx
  obtain ⟨t, rfl⟩ := ry
  obtain ⟨its, r, ⟨⟨cls, dd, data, sl⟩, ho, hc, n, hd⟩, hs⟩ := I.tuple hT
  simp only at hc hd
  subst hc hd
  have hle : its.length = xs.length := r.length.symm
  have hi : its.toArray.isEmpty = false := by
    cases its with
    | nil =>
      refine absurd (List.eq_nil_of_length_eq_zero (l := xs) ?_) hne
      rw [← hle]
      rfl
    | cons a b => rfl
  refine wpAny_binaryOp_repeat_ref (T := "tuple") (U := "int") (by decide) ⟨_, ho, rfl⟩ (fun s' => typeIs_int s' 0 t) noFill_tuple_mul F.fills_int_mul F.slot_int_rmul repeat_tuple F.slot_int_index.lookup
    (call_meets F.slot_int_rmul (typeIs_int s 0 t) F.entry_int_rmul (F.args_int_rmul_2 _ _) (int_rmul_tuple 0 t l its.toArray n dd sl)
      ⟨ho, rfl, ⟨_, ho, rfl⟩, call_meets F.slot_tuple_mul ⟨_, ho, rfl⟩ F.entry_tuple_mul (F.args_tuple_mul_2 _ _) (tuple_mul0W l its.toArray n dd sl t hi) ⟨ho, ?_⟩⟩)
  refine ⟨.ref s.heap.objs.size, _, I.laid (t' := s.toks) (o := .tup []) (fun b ob q => Heap.get?_push_of_some _ q) (Nat.le_refl _) ?_, rfl, q _ (I.hok.fresh (Nat.le_refl _))⟩
  exact ⟨Nat.zero_le _, [], .nil, IsTup.new _ _⟩
abbrev rMulZ (K : PySem.W.Frag) : R2 := fun x y H Q => rMulQ K x y H Q ∨ rRepT0 K x y H Q
theorem or_mulZ {X : Cx} : OpR X (binaryOp .Mult) (rMulZ X.K) := or_mulQ.or op_repT0
/-- a tuple of one thing or more, some times or never -/
def mulZ (b : Bool) (x y : D) (st : Store) : Re D := match x, y with
  | .tup (d :: u), .int k => if k = 0 then .ok (.tup []) st else mulQ b (.tup (d :: u)) (.int k) st
  | x, y => mulQ b x y st
theorem s_mulZ {K : PySem.W.Frag} {mg : Str → Option Value} (b : Bool) : S2 K mg (mulZ b) (rMulZ K) := by
  intro W σ μ G F st H x y v w Q k rx ry h
  unfold mulZ at h
  split at h
  · split at h
    · rename_i e
      subst e
      obtain ⟨a, vs, rfl, ha, ru⟩ := rep_tup rx
      rw [rep_int ry]
      refine .inr ⟨a, vs, rfl, rfl, k.ex.sqt ha, fun e => ?_, fun p hp => ?_⟩
      · obtain ⟨_, _, e2, _, _⟩ := reps_cons ru
        rw [e] at e2
        cases e2
      · exact h μ (upd G p (.tup [])) _ (.know (.new (k.ex.free hp))) (k.learn hp) (.ref p) (.tup (.of upd_same) .nil)
    · exact .inl (s_mulQ b W σ μ G F st H _ _ v w Q k rx ry h)
  · exact .inl (s_mulQ b W σ μ G F st H _ _ v w Q k rx ry h)
theorem mulZ_zero {b : Bool} {d : D} {u : List D} {st : Store} : mulZ b (.tup (d :: u)) (.int 0) st = .ok (.tup []) st := rfl
theorem mulZ_pos {b : Bool} {u : List D} {k : Int} {st : Store} (h : k ≠ 0) : mulZ b (.tup u) (.int k) st = mulQ b (.tup u) (.int k) st := by
  unfold mulZ
  split
  · rename_i e1 e2
    cases e1
    cases e2
    rw [if_neg h]
  · rfl
end Dn
/-! sorted(set(xs)), xs a row of tuples of any ints -/
namespace Dn
open PySem PySem.Spec PyProof PyProof.Rows PySem.W L2
theorem leDt_tup (x y : List Int) : leDt (tupD x) (tupD y) = decide (x ≤ y) := by
  have e : ∀ k : List Int, pd (tupD k) = .tuple (k.map .int) := fun k => by
    unfold tupD
    rw [pd, pds_map]
    rw [List.map_map]
    rfl
  have e2 : leDt (tupD x) (tupD y) = !rowLt (y.map .int) (x.map .int) := by
    rw [leDt_is]
    unfold ltDt
    rw [e, e, dataLt_tuple]
    rfl
  rw [e2, dataLt_ints]
  by_cases h : y < x
  · have : ¬ x ≤ y := fun h2 => h2 h
    simp [h, this]
  · have : x ≤ y := h
    simp [h, this]
def leL (x y : List Int) : Bool := leDt (tupD x) (tupD y)
theorem leL_anti {x y : List Int} (h : leL x y = true) (k : leL y x = true) : x = y := by
  unfold leL at h k
  rw [leDt_tup] at h k
  exact List.le_antisymm (of_decide_eq_true h) (of_decide_eq_true k)
def ssL (ks : List (List Int)) : List (List Int) := (dd ks).mergeSort leL
theorem leL_pw (l : List (List Int)) : (l.mergeSort leL).Pairwise fun x y => leL x y = true := List.pairwise_mergeSort (le := leL) (fun _ _ _ h k => le_trans h k) (fun x y => by rw [Bool.or_eq_true]; exact le_total _ _) l
/-- two sorted rows with the same members -/
theorem sorted_one {α : Type} {le : α → α → Bool} (ha : ∀ x y, le x y = true → le y x = true → x = y) : ∀ {l m : List α}, l.Pairwise (fun x y => le x y = true) → m.Pairwise (fun x y => le x y = true) → l.Nodup → m.Nodup → (∀ x, x ∈ l ↔ x ∈ m) → l = m
  | [], [], _, _, _, _, _ => rfl
  | [], y :: m, _, _, _, _, h => absurd ((h y).mpr List.mem_cons_self) (by simp)
  | x :: l, [], _, _, _, _, h => absurd ((h x).mp List.mem_cons_self) (by simp)
  | x :: l, y :: m, hl, hm, nl, nm, h => by
    obtain ⟨l1, l2⟩ := List.pairwise_cons.mp hl
    obtain ⟨m1, m2⟩ := List.pairwise_cons.mp hm
    obtain ⟨n1, n2⟩ := List.nodup_cons.mp nl
    obtain ⟨k1, k2⟩ := List.nodup_cons.mp nm
    have e : x = y := by
      rcases List.mem_cons.mp ((h x).mp List.mem_cons_self) with e | e
      · exact e
      · rcases List.mem_cons.mp ((h y).mpr List.mem_cons_self) with e2 | e2
        · exact e2.symm
        · exact ha x y (l1 y e2) (m1 x e)
    subst e
    refine congrArg (x :: ·) (sorted_one ha l2 m2 n2 k2 fun z => ?_)
    constructor
    · intro hz
      rcases List.mem_cons.mp ((h z).mp (List.mem_cons_of_mem _ hz)) with e | e
      · subst e; exact absurd hz n1
      · exact e
    · intro hz
      rcases List.mem_cons.mp ((h z).mpr (List.mem_cons_of_mem _ hz)) with e | e
      · subst e; exact absurd hz k1
      · exact e
theorem mem_ssL {ks : List (List Int)} {k : List Int} : k ∈ ssL ks ↔ k ∈ ks := by
  unfold ssL
  rw [(List.mergeSort_perm _ _).mem_iff, mem_dd]
theorem ssL_nd (ks : List (List Int)) : (ssL ks).Nodup := (List.mergeSort_perm _ _).nodup_iff.mpr nd_dd
theorem ssL_len (ks : List (List Int)) : (ssL ks).length ≤ ks.length := by
  unfold ssL
  rw [(List.mergeSort_perm _ _).length_eq]
  exact dd_len
theorem ssL_uniq {ks L : List (List Int)} (hm : ∀ k, k ∈ L ↔ k ∈ ks) (hn : L.Nodup) (hp : L.Pairwise fun x y => leL x y = true) : L = ssL ks :=
  sorted_one (fun _ _ => leL_anti) hp (leL_pw _) hn (ssL_nd ks) fun x => by rw [hm, mem_ssL]
def ssOkL (ks : List (List Int)) : Bool := decide (ks.length < 64) && ks.all fun k => decide (k ≠ [])
/-! ### the rule -/
section
variable {P : Program} {w : World} {A : Around} {E : Value → Shared → Prop} {s : Shared}
theorem sorted_setQ {a : Addr} {L : List (Addr × List Int)} {es : Array (Int × Value)} {ep : Nat} {t : SetTable} {Q : Value → Shared → Prop} (R : SetTR P w s.heap a L es ep t) (hh : A.handled = none) (hu : A.units + 65 < cLine)
    (hne : ∀ p ∈ L, p.2 ≠ []) (hr : ∀ p ∈ L, ∃ as, Reads s.heap (.ref p.1) (pd (tupD p.2)) as)
    (hQ : ∀ s' p (out : Array Value) (c : Nat) (L' : List (Addr × List Int)), (∀ b o, s.heap.get? b = some o → s'.heap.get? b = some o) → s'.gens = s.gens → s'.os = s.os → s.heap.objs.size ≤ p →
      s'.heap.get? p = some (seqObj "list" out c) → out.toList = L'.map (fun q => Value.ref q.1) → L'.Perm L → L'.Pairwise (fun q r => leL q.2 r.2 = true) → Q (.ref p) s') :
    wpAny (model P w) A (call (.builtin "sorted") [.ref a]) Q E s := by
  obtain ⟨o, ho, hex, hd⟩ := R.ob
  have hsz := R.size
  have hfew := R.few
  refine PySem.Calls.call_function_entry kind_sorted plain_sorted entry_sorted (args_sorted1 _) ?_
  unfold Builtin.«sorted»
  refine wpAny_bind (m := checkCount "sorted" 1 1 _) (wpAny_pure ?_)
  refine wpAny_bind (collect_set (A := A.in1) hh ⟨o, ho, hex.1, hd⟩ R.fits (by unfold scanBound; omega) R.tab.ris R.led fun s1 vs k1 hz g1 o1 pm => ?_)
  have hes : es.toList.map (·.2) = L.map fun q => Value.ref q.1 := by
    rw [R.rows]
    unfold L2.rowsOf
    rw [List.map_map] <;> rfl
  rw [hes] at pm
  have ord : ∀ vs : List Value, (∀ v ∈ vs, ∃ q ∈ L, v = Value.ref q.1) → ∃ L1 : List (Addr × List Int), vs = L1.map (fun q => Value.ref q.1) ∧ ∀ q ∈ L1, q ∈ L := by
    intro vs
    induction vs with
    | nil => intro _; exact ⟨[], rfl, fun q hq => (by cases hq)⟩
    | cons v vs ih =>
      intro hv
      obtain ⟨q, hq, e⟩ := hv v List.mem_cons_self
      obtain ⟨L1, e1, hs⟩ := ih fun u hu => hv u (List.mem_cons_of_mem _ hu)
      refine ⟨q :: L1, by rw [List.map_cons, e, e1], fun r hr => ?_⟩
      rcases List.mem_cons.mp hr with z | z
      · rw [z]; exact hq
      · exact hs r z
  have one : ∀ q ∈ L, ∀ r ∈ L, q.1 = r.1 → q = r := fun q hq r hr e => by
    have a1 := R.tup q hq
    have a2 := R.tup r hr
    rw [e] at a1
    have e2 : q.2 = r.2 := a1.inj a2
    exact Prod.ext e e2
  have perm_of : ∀ L1 : List (Addr × List Int), (∀ q ∈ L1, q ∈ L) → (L1.map (fun q => Value.ref q.1)).Perm (L.map fun q => Value.ref q.1) → L1.Perm L := by
    intro L1 hs pm1
    have nL : L.Nodup := nodup_of_map R.nd
    have nref : (L.map fun q => Value.ref q.1).Nodup := by
      refine List.pairwise_map.mpr (List.Pairwise.imp_of_mem (fun {q r} hq hr hne e => ?_) nL)
      injection e with e
      exact hne (one q hq r hr e)
    have n1 : L1.Nodup := nodup_of_map (pm1.nodup_iff.mpr nref)
    refine (List.perm_ext_iff_of_nodup n1 nL).mpr fun q => ⟨hs q, fun hq => ?_⟩
    have hm : Value.ref q.1 ∈ L1.map (fun q => Value.ref q.1) := pm1.mem_iff.mpr (List.mem_map.mpr ⟨q, hq, rfl⟩)
    obtain ⟨r, hr, e⟩ := List.mem_map.mp hm
    injection e with e
    rw [← one r (hs r hr) q hq e]
    exact hr
  obtain ⟨L1, e1, hs1⟩ := ord vs fun v hv => by
    obtain ⟨q, hq, e⟩ := List.mem_map.mp (pm.mem_iff.mp hv)
    exact ⟨q, hq, e.symm⟩
  have p1 : L1.Perm L := perm_of L1 hs1 (by rw [← e1]; exact pm)
  have hvl : vs.length < 64 := by rw [pm.length_eq, List.length_map]; exact hfew
  have hvL : vs.length ≤ sizeLine := by rw [sizeLine_eq]; omega
  refine wpAny_bind (wpAny_newList ?_ hvL)
  have hoL : (s1.heap.push (seqObj "list" vs.toArray 0)).get? s1.heap.objs.size = some (seqObj "list" vs.toArray 0) := Heap.get?_push_size _ rfl
  have hold : ∀ b ob, s.heap.get? b = some ob → (s1.heap.push (seqObj "list" vs.toArray 0)).get? b = some ob := fun b ob q => Heap.get?_push_of_some _ (k1 b ob q)
  have hneq : ∀ b ob, s.heap.get? b = some ob → b ≠ s1.heap.objs.size := fun b ob q => Nat.ne_of_lt (Heap.lt_size (k1 b ob q))
  have eR : ∀ L2 : List (Addr × List Int), EachIs (fun v (q : Addr × List Int) => v = Value.ref q.1) (L2.map fun q => Value.ref q.1) L2 := by
    intro L2
    induction L2 with
    | nil => exact .nil
    | cons q L2 ih => exact .cons rfl ih
  have er0 : ∀ L2 : List (Addr × List Int), (∀ q ∈ L2, q ∈ L) → EachIs (fun v (q : Addr × List Int) => ∃ as, Reads (sortingHeap (s1.heap.push (seqObj "list" vs.toArray 0)) s1.heap.objs.size vs) v (pd (tupD q.2)) as) (L2.map fun q => Value.ref q.1) L2 := by
    intro L2
    induction L2 with
    | nil => intro _; exact .nil
    | cons q L2 ih =>
      intro h
      obtain ⟨as, r⟩ := hr q (h q List.mem_cons_self)
      exact .cons ⟨as, PyProof.Rows.Reads.keeps (fun b ob q => sortingHeap_old (hneq b ob q) (hold b ob q)) r⟩ (ih fun r hr => h r (List.mem_cons_of_mem _ hr))
  have er := er0 L1 hs1
  have e := eR L1
  rw [← e1] at er e
  have ep : ∀ k : List Int, pd (tupD k) = .tuple (k.map .int) := fun k => by
    unfold tupD
    rw [pd, pds_map, List.map_map]
    rfl
  have hal : AllAlike (L1.map fun q => pd (tupD q.2)) := fun d hd d' hd' => by
    obtain ⟨q, _, rfl⟩ := List.mem_map.mp hd
    obtain ⟨q', _, rfl⟩ := List.mem_map.mp hd'
    rw [ep, ep]
    have al : ∀ x y : List Int, alikeAll (x.map .int) (y.map .int) = true := by
      intro x
      induction x with
      | nil => intro y; cases y <;> simp [alikeAll]
      | cons i x ih => intro y; cases y <;> simp [alikeAll, alike, ih]
    simpa [alike] using al q.2 q'.2
  have hk : Sortable (L1.map fun q => pd (tupD q.2)) := .inl fun d hd => by
    obtain ⟨q, hq, rfl⟩ := List.mem_map.mp hd
    rw [ep]
    cases h : q.2 with
    | nil => exact absurd h (hne q (hs1 q hq))
    | cons x r => exact ⟨_, _, rfl⟩
  have hdep : ∀ q ∈ L1, A.units + 2 + (pd (tupD q.2)).depth < cLine := fun q _ => by
    have : okd 40 (tupD q.2) = true := okd_tup (n := 39) (okd_map fun _ _ => okd_int)
    have := (okd_shape 40 _ this).2
    omega
  have S : SortsAt P w A.in1.in1 { s1 with heap := sortingHeap (s1.heap.push (seqObj "list" vs.toArray 0)) s1.heap.objs.size vs } (dataKind (sortingHeap (s1.heap.push (seqObj "list" vs.toArray 0)) s1.heap.objs.size vs) (L1.map fun q => pd (tupD q.2))) vs :=
    SortsAt.data (s := { s1 with heap := sortingHeap (s1.heap.push (seqObj "list" vs.toArray 0)) s1.heap.objs.size vs }) (each_map (R := fun v d => ∃ as, Reads (sortingHeap (s1.heap.push (seqObj "list" vs.toArray 0)) s1.heap.objs.size vs) v d as) (fun q : Addr × List Int => pd (tupD q.2)) er) hal hk (bound_map hdep)
  have eo := sortVals_data false e er hal
  have eo2 : (sortVals (dataKind (sortingHeap (s1.heap.push (seqObj "list" vs.toArray 0)) s1.heap.objs.size vs) (L1.map fun q => pd (tupD q.2))) false vs vs) = (L1.mergeSort (dataLe false fun q : Addr × List Int => pd (tupD q.2))).map fun q => Value.ref q.1 := by
    generalize (sortVals (dataKind (sortingHeap (s1.heap.push (seqObj "list" vs.toArray 0)) s1.heap.objs.size vs) (L1.map fun q => pd (tupD q.2))) false vs vs) = o1 at *
    generalize (L1.mergeSort (dataLe false fun q : Addr × List Int => pd (tupD q.2))) = o2 at *
    clear S
    induction eo with
    | nil => rfl
    | cons h _ ih => rw [h, ih, List.map_cons]
  refine wpAny_bind (wpAny_holding (wpAny_call_entry_kw slot_list_sort ⟨_, hoL, rfl⟩ entry_list_sort ?body (args_list_sort _)))
  case body =>
    refine wpAny_mono (Q := fun f s' => f = .done (.ret .none) ∧ Q (.ref s1.heap.objs.size) s') ?_ (fun f s' hf => ?_) fun _ _ e => e
    · refine list_sort_vals (s := { s1 with heap := s1.heap.push (seqObj "list" vs.toArray 0) }) hoL S hvL ⟨rfl, ?_⟩
      obtain ⟨c, hc⟩ := sortedHeap_at (out := (sortVals (dataKind (sortingHeap (s1.heap.push (seqObj "list" vs.toArray 0)) s1.heap.objs.size vs) (L1.map fun q => pd (tupD q.2))) false vs vs).toArray) hoL
      refine hQ _ s1.heap.objs.size _ c (L1.mergeSort (dataLe false fun q : Addr × List Int => pd (tupD q.2))) (fun b u e => ?_) g1 o1 hz hc (by simpa using eo2) ((List.mergeSort_perm _ _).trans p1) ?_
      · show (sortedHeap (s1.heap.push (seqObj "list" vs.toArray 0)) s1.heap.objs.size vs _).get? b = some u
        rw [sortedHeap_old (hneq b u e) (Heap.lt_size (hold b u e))]
        exact hold b u e
      · have := List.pairwise_mergeSort (le := fun q r : Addr × List Int => leL q.2 r.2) (fun _ _ _ h k => le_trans h k) (fun x y => by rw [Bool.or_eq_true]; exact le_total _ _) L1
        exact this
    · obtain ⟨rfl, hq⟩ := hf
      exact ⟨_, rfl, wpAny_pure ⟨_, rfl, hq⟩⟩
end
def rSortedQ (K : PySem.W.Frag) (P : Program) (w : World) : List V → Hp → VK → Prop := fun vs H Q => ∃ (a : Addr) (L : List (Addr × List Int)), vs = [V.ref a] ∧ H a = some (SetTO P w a L) ∧ (∀ p ∈ L, SqT K H p.1 (p.2.map V.int)) ∧ (∀ p ∈ L, p.2 ≠ []) ∧
  (∀ p ∈ L, Dp K H (.ref p.1) (pd (tupD p.2))) ∧
  ∀ (L' : List (Addr × List Int)) (p : Addr), L'.Perm L → (L'.map (·.2)).Nodup → L'.length < 64 → L'.Pairwise (fun q r => leL q.2 r.2 = true) → H p = none → Q (.ref p) (upd H p (.lst (L'.map fun q => V.ref q.1)))
section
variable {X : Cx}
theorem cr_sortedQ (hc : X.calm = true) (hu : X.A.units + 65 < cLine) : CallR X (.builtin "sorted") (rSortedQ X.K X.prog X.w) := by
  intro pins s σ H vs us Q I r h
  obtain ⟨a, L, rfl, ha, hk, hne, hdp, q⟩ := h
  have R0 : SetT0 X.prog X.w s.heap a L := (I.hok a _ ha).1
  obtain ⟨es, ep, t, R⟩ := R0.full fun p hp => I.isT (hk p hp)
  rw [Vals.ref1 r]
  refine sorted_setQ R (I.ok.hd hc) hu hne (fun p hp => ?_) fun s' p out c L' k g o hp hg hout pm pw => ?_
  · obtain ⟨as, hra⟩ := Dp.readsAll I [pd (tupD p.2)] [V.ref p.1] [Value.ref p.1] (.cons (hdp p hp) .nil) (.cons rfl .nil)
    have := PySem.W.readsAll_each (fun q : List Int => pd (tupD q)) (bs := [p.2]) hra
    cases this with
    | cons h _ => exact h
  have hfew : L'.length < 64 := by rw [pm.length_eq]; exact R.few
  have hlen : (L'.map fun q => V.ref q.1).length ≤ sizeLine := by rw [List.length_map, sizeLine_eq]; omega
  have hn : H p = none := I.hok.fresh hp
  have hv : Vals (L'.map fun q => V.ref q.1) out.toList := by rw [hout]; exact vals_of_refs L'
  have J : Inv X pins σ (upd H p (.lst (L'.map fun q => V.ref q.1))) { s with heap := s'.heap, gens := s'.gens, drawn := s'.drawn, toks := s'.toks } :=
    I.call (ch := []) (Un.laid k hp hn) (I.hok.laid k hp ⟨hlen, out.toList, c, hv, hg⟩) (by rw [g]; exact I.bare) (fun _ z => nomatch z)
  have e : s' = { s with heap := s'.heap, gens := s'.gens, drawn := s'.drawn, toks := s'.toks } := by
    cases s'
    cases s
    cases o
    rfl
  rw [e]
  exact ⟨.ref p, _, J, rfl, q L' p pm ((pm.map (·.2)).nodup_iff.mpr R.nd) hfew pw hn⟩
end
abbrev rSetTs (K : PySem.W.Frag) (P : Program) (w : World) : List V → Hp → VK → Prop := fun xs H Q => rSetOfT K P w xs H Q ∨ rSetTT K P w xs H Q
theorem cr_setTs {X : Cx} (hc : X.calm = true) (hu : X.A.units + 64 < cLine) : CallR X (.type "set") (rSetTs X.K X.prog X.w) := (cr_setOfT hc hu).or (cr_setTT hc hu)
def ssQ (b : Bool) : List D → Store → Re D := one fun x st => opt (seqOf st x) fun ds => opt (keysOf ds) fun ks => if ssOkL ks = true then mkNew b ((ssL ks).map tupD) st else .bad
section
variable {K : PySem.W.Frag} {mg : Str → Option Value} {μ : List Addr} {G : Hp}
theorem s_ssQ (b : Bool) (P : Program) (w : World) : ∀ (W : WX) (σ : L2.St) (μ : List Addr) (G F : Hp) (st : Store) (H : Hp) (xs : List D) (vs : List V) (Q : VK), Kn K mg μ G F st H → Reps K μ G xs vs →
    Done K mg W σ μ G F (ssQ b xs st) (Fin K Q) → rSetTs K P w vs H fun u H1 => rSortedQ K P w [u] H1 Q := by
  intro W σ μ G F st H xs vs Q k rv h
  cases xs with
  | nil => exact h.elim
  | cons x r =>
    cases r with
    | cons _ _ => exact h.elim
    | nil =>
      obtain ⟨v, t, rfl, hv, ht⟩ := reps_cons rv
      rw [reps_nil ht]
      have h : Done K mg W σ μ G F (opt (seqOf st x) fun ds => opt (keysOf ds) fun ks => if ssOkL ks = true then mkNew b ((ssL ks).map tupD) st else .bad) (Fin K Q) := h
      obtain ⟨ds, e, h⟩ := opt_done h
      obtain ⟨ks, e2, h2⟩ := opt_done h
      clear h
      obtain ⟨ho, h⟩ := ite_done h2
      clear h2
      obtain ⟨a, ws, rfl, hs, rw'⟩ := seqOf_rep k hv e
      have e3 := keysOf_map e2
      subst e3
      obtain ⟨ps, rfl, rfl, hp⟩ := reps_tups rw'
      unfold ssOkL at ho
      rw [Bool.and_eq_true] at ho
      have hl : ps.length < 64 := by simpa using ho.1
      have hne : ∀ p ∈ ps, p.2 ≠ [] := fun p hp => by
        have := List.all_eq_true.mp ho.2 p.2 (List.mem_map_of_mem hp)
        exact of_decide_eq_true this
      have fin : ∀ a' L, H a' = none → (∀ p ∈ L, p ∈ ps) → (∀ p ∈ ps, p.2 ∈ L.map (·.2)) → rSortedQ K P w [.ref a'] (upd H a' (SetTO P w a' L)) Q := fun a' L ha m1 m2 => by
        have sq : ∀ p ∈ L, SqT K (upd H a' (SetTO P w a' L)) p.1 (p.2.map V.int) := fun p hp' => (Ex.new ha).sqt (k.ex.sqt (hp p (m1 p hp')))
        refine ⟨a', L, rfl, upd_same, sq, fun p hp' => hne p (m1 p hp'), fun p hp' => ?_, fun L' q pm nd _ pw hq => ?_⟩
        · exact rep_dp (μ := μ) (k.ex.trans (Ex.new ha)) 40 (tupD p.2) (.ref p.1) (okd_tup (n := 39) (okd_map fun _ _ => okd_int)) (.tup (hp p (m1 p hp')) .ints)
        have m3 : ∀ p ∈ L', p ∈ ps := fun p hp' => m1 p (pm.mem_iff.mp hp')
        have en : L'.map (·.2) = ssL (ps.map (·.2)) := ssL_uniq (fun x => by
          constructor
          · intro hx
            obtain ⟨p, hp', rfl⟩ := List.mem_map.mp hx
            exact List.mem_map_of_mem (m3 p hp')
          · intro hx
            obtain ⟨p, hp', rfl⟩ := List.mem_map.mp hx
            obtain ⟨q', hq', e⟩ := List.mem_map.mp (m2 p hp')
            exact List.mem_map.mpr ⟨q', pm.mem_iff.mpr hq', e⟩) nd (List.pairwise_map.mpr pw)
        rw [← en] at h
        exact new_list (k.junk ha) (tups_reps fun p hp' => hp p (m3 p hp')) h q hq
      rcases hs with hs | hs
      · exact .inl ⟨a, ps, rfl, hs, fun p hp' => k.ex.sqt (hp p hp'), hl, fin⟩
      · exact .inr ⟨a, ps, rfl, hs, fun p hp' => k.ex.sqt (hp p hp'), hl, fin⟩
end
section
variable {X : Cx} {W : WX} {e : Expr} {m : EM} {p p2 q pos : Pos}
theorem m_ssQ (b : Bool) (hc : X.calm = true) (hu : X.A.units + 65 < cLine) (hm1 : X.mg "sorted" = none) (hm2 : X.mg "set" = none) (ha : ME X W e m) (hg1 : Gl X "sorted" := by rfl) (hg2 : Gl X "set" := by rfl)
    (he : starEach [e] X.env = (false, eval e X.env) :: starEach [] X.env := by rfl) :
    ME X W (.Call (.Name "sorted" p) [.Call (.Name "set" p2) [e] [] q] [] pos) (eN (ssQ b) (aCons m aNil)) := by
  have h1 := pe_callTy (p := p2) (pos := q) (cr_setTs hc (by omega)) hg2 hm2 (by decide +kernel) (pa_cons ha pa_nil he) (by decide) (by decide) he rfl
  have h2 := pe_callB (p := p) (pos := pos) (cr_sortedQ hc hu) hg1 hm1 (by decide +kernel) (pa_cons h1 pa_nil) (by decide) (by decide)
  refine h2.of fun σ H Q h => ?_
  obtain ⟨vs, st, μ, G, F, re, k, h⟩ := h
  show tE X.K X.mg W m σ H fun v H1 => rSetTs X.K X.prog X.w [v] H1 fun u H2 => rSortedQ X.K X.prog X.w [u] H2 Q
  refine ⟨vs, st, μ, G, F, re, k, ?_⟩
  have h2 := Done.bind (Done.bind h)
  refine h2.mono fun μ1 G1 d st1 H1 f1 k1 h3 v rv => ?_
  have h4 := h3 μ1 G1 H1 (.refl _ _) k1
  exact s_ssQ b X.prog X.w W σ μ1 G1 F st1 H1 [d] [v] Q k1 (.cons rv .nil) h4
end
end Dn
/-! len(set(xs)), xs ints in a list or a tuple -/
namespace Dn
open PySem PySem.Spec PyProof.Rows L2
def rLenS (w : World) : List V → Hp → VK → Prop := fun vs H Q => ∃ (a : Addr) (S : Int → Bool) (n : Nat), vs = [V.ref a] ∧ H a = some (SetO w a S n) ∧ n < 64 ∧ ∀ ks : List Int, ks.Nodup → (∀ k, S k = true ↔ k ∈ ks) → ks.length = n → Q (.int n) H
theorem cr_lenS {X : Cx} : CallR X (.builtin "len") (rLenS X.w) := by
  intro pins s σ H vs us Q I r h
  obtain ⟨a, S, n, rfl, ha, hn, q⟩ := h
  rw [Vals.ref1 r]
  have R0 : SetR X.w s.heap a S n := (I.hok a _ ha).1
  obtain ⟨o, es, ep, t, ho, hex, hd, _, hnd, hm, _, hf, hs, _⟩ := R0
  refine call_len_set ho hex hd hf (by rw [hs]; omega) ⟨.int n, H, I.tok _, ⟨_, by rw [hs]⟩, q _ hnd hm ?_⟩
  rw [List.length_map, Array.length_toList, hs]
def lenSetD : List D → Store → Re D := one fun x st => opt (seqOf st x) fun ds => opt (intsOf ds) fun ns => if ns.length < 60 then .ok (.int ((dd ns).length : Nat)) st else .bad
section
variable {K : PySem.W.Frag} {mg : Str → Option Value} {μ : List Addr} {G : Hp}
theorem s_lenSet (w : World) : ∀ (W : WX) (σ : L2.St) (μ : List Addr) (G F : Hp) (st : Store) (H : Hp) (xs : List D) (vs : List V) (Q : VK), Kn K mg μ G F st H → Reps K μ G xs vs →
    Done K mg W σ μ G F (lenSetD xs st) (Fin K Q) → rSetI K w vs H fun u H1 => rLenS w [u] H1 Q := by
  intro W σ μ G F st H xs vs Q k rv h
  cases xs with
  | nil => exact h.elim
  | cons x r =>
    cases r with
    | cons _ _ => exact h.elim
    | nil =>
      obtain ⟨v, t, rfl, hv, ht⟩ := reps_cons rv
      rw [reps_nil ht]
      have h : Done K mg W σ μ G F (opt (seqOf st x) fun ds => opt (intsOf ds) fun ns => if ns.length < 60 then .ok (.int ((dd ns).length : Nat)) st else .bad) (Fin K Q) := h
      obtain ⟨ds, e, h⟩ := opt_done h
      obtain ⟨ns, e2, h2⟩ := opt_done h
      clear h
      obtain ⟨ho, h⟩ := ite_done h2
      clear h2
      obtain ⟨a, ws, rfl, hs, rw'⟩ := seqOf_rep k hv e
      have e3 := intsOf_map e2
      subst e3
      rw [reps_ints rw'] at hs
      refine ⟨a, ns, rfl, hs, ho, fun a' n ha hn => ⟨a', _, n, rfl, upd_same, by omega, fun ks nd mm hl => ?_⟩⟩
      have en : n = (dd ns).length := by
        rw [← hl]
        have p : ks.Perm (dd ns) := (List.perm_ext_iff_of_nodup nd nd_dd).mpr fun i => by rw [← mm, mem_dd]; simp
        exact p.length_eq
      subst en
      exact fin_here (k.junk ha) h .int
end
section
variable {X : Cx} {W : WX} {e : Expr} {m : EM} {p p2 q pos : Pos}
theorem m_lenSet (hc : X.calm = true) (hm1 : X.mg "len" = none) (hm2 : X.mg "set" = none) (ha : ME X W e m) (hg1 : Gl X "len" := by rfl) (hg2 : Gl X "set" := by rfl)
    (he : starEach [e] X.env = (false, eval e X.env) :: starEach [] X.env := by rfl) :
    ME X W (.Call (.Name "len" p) [.Call (.Name "set" p2) [e] [] q] [] pos) (eN lenSetD (aCons m aNil)) := by
  have h1 := pe_callTy (p := p2) (pos := q) (cr_setI hc) hg2 hm2 (by decide +kernel) (pa_cons ha pa_nil he) (by decide) (by decide) he rfl
  have h2 := pe_callB (p := p) (pos := pos) (cr_lenS (X := X)) hg1 hm1 (by decide +kernel) (pa_cons h1 pa_nil) (by decide) (by decide)
  refine h2.of fun σ H Q h => ?_
  obtain ⟨vs, st, μ, G, F, re, k, h⟩ := h
  show tE X.K X.mg W m σ H fun v H1 => rSetI X.K X.w [v] H1 fun u H2 => rLenS X.w [u] H2 Q
  refine ⟨vs, st, μ, G, F, re, k, ?_⟩
  have h2 := Done.bind (Done.bind h)
  refine h2.mono fun μ1 G1 d st1 H1 f1 k1 h3 v rv => ?_
  have h4 := h3 μ1 G1 H1 (.refl _ _) k1
  exact s_lenSet X.w W σ μ1 G1 F st1 H1 [d] [v] Q k1 (.cons rv .nil) h4
end
end Dn
/-! max(xs), xs a tuple of ints -/
namespace Dn
open PySem PySem.Spec PyProof.Rows L2
theorem maxD_ints : ∀ (i : Int) (ns : List Int), ∃ M, PySem.W.maxD (.int i) (ns.map .int) = .int M ∧ M ∈ i :: ns ∧ ∀ y ∈ i :: ns, y ≤ M
  | i, [] => ⟨i, rfl, by simp, by simp⟩
  | i, j :: ns => by
    unfold PySem.W.maxD
    rw [List.map_cons, List.foldl_cons, PySem.W.dataLt_int]
    by_cases h : i < j
    · rw [if_pos (by simpa using h)]
      obtain ⟨M, e, m, hm⟩ := maxD_ints j ns
      unfold PySem.W.maxD at e
      refine ⟨M, e, List.mem_cons_of_mem _ m, fun y hy => ?_⟩
      rcases List.mem_cons.mp hy with rfl | hy
      · have := hm j List.mem_cons_self; omega
      · exact hm y hy
    · rw [if_neg (by simpa using h)]
      obtain ⟨M, e, m, hm⟩ := maxD_ints i ns
      unfold PySem.W.maxD at e
      refine ⟨M, e, ?_, fun y hy => ?_⟩
      · rcases List.mem_cons.mp m with rfl | m
        · exact List.mem_cons_self
        · exact List.mem_cons_of_mem _ (List.mem_cons_of_mem _ m)
      · rcases List.mem_cons.mp hy with rfl | hy
        · exact hm _ List.mem_cons_self
        · rcases List.mem_cons.mp hy with rfl | hy
          · have := hm i List.mem_cons_self; omega
          · exact hm y (List.mem_cons_of_mem _ hy)
def rMaxT (K : PySem.W.Frag) : List V → Hp → VK → Prop := fun vs H Q => ∃ (a : Addr) (ns : List Int), vs = [V.ref a] ∧ SqT K H a (ns.map V.int) ∧ ns ≠ [] ∧ Q (.int (maxI ns)) H
theorem cr_maxT {X : Cx} (hc : X.calm = true) (hu : X.A.units + 65 < cLine) : CallR X (.builtin "max") (rMaxT X.K) := by
  intro pins s σ H vs us Q I r h
  obtain ⟨a, ns, rfl, hs, hne, q⟩ := h
  obtain ⟨its, rv, hl, _⟩ := I.tuple hs
  rw [Vals.ref1 r]
  cases ns with
  | nil => exact absurd rfl hne
  | cons i ns =>
    have hd : ∀ l : List Int, DpAll X.K H (l.map V.int) (l.map PyData.int) := fun l => by
      induction l with
      | nil => exact .nil
      | cons x l ih => exact .cons (rep_dp (K := X.K) (μ := []) (G := H) (H := H) (.refl _) 40 (.int x) (.int x) okd_int .int) ih
    obtain ⟨as, hra⟩ := Dp.readsAll I _ _ its (hd (i :: ns)) rv
    have hra : ReadsAll s.heap its.toArray.toList (.int i :: ns.map .int) as := by simpa using hra
    have hal : PySem.W.AlikeAll (.int i :: ns.map PyData.int) := ⟨fun x hx y hy => by
      have ex : ∀ z, z ∈ (PyData.int i :: ns.map PyData.int) → ∃ k, z = .int k := fun z hz => by
        rcases List.mem_cons.mp hz with rfl | hz
        · exact ⟨_, rfl⟩
        · obtain ⟨k, _, rfl⟩ := List.mem_map.mp hz; exact ⟨_, rfl⟩
      obtain ⟨k, rfl⟩ := ex x hx
      obtain ⟨k', rfl⟩ := ex y hy
      simp [PySem.W.alike], fun x hx e => by
      subst e
      rcases List.mem_cons.mp hx with hx | hx
      · cases hx
      · obtain ⟨k, _, hk⟩ := List.mem_map.mp hx; cases hk⟩
    have hdep : PyData.depthAll (.int i :: ns.map PyData.int) ≤ 2 := by
      have : ∀ l : List Int, PyData.depthAll (l.map PyData.int) ≤ 2 := fun l => by
        induction l with
        | nil => simp [PyData.depthAll]
        | cons x l ih => simp [PyData.depthAll, PyData.depth]; omega
      exact this (i :: ns)
    refine PySem.W.max_tuple_data (I.ok.hd hc) hl hra hal (by omega) fun j v h' tk bs hv hr hk => ?_
    obtain ⟨M, e, m, hm⟩ := maxD_ints i ns
    rw [e] at hr
    have eM : M = maxI (i :: ns) := max_uniq m hm
    subst eM
    cases hr with
    | int => exact ⟨.int _, H, I.kept hk, ⟨_, rfl⟩, q⟩
def maxT : List D → Store → Re D := one fun x st => match x with
  | .tup ds => opt (intsOf ds) fun ns => if ns = [] then .bad else .ok (.int (maxI ns)) st
  | _ => .bad
theorem s_maxT {K : PySem.W.Frag} {mg : Str → Option Value} : SN K mg maxT (rMaxT K) := sn_one fun W σ μ G F st H x v Q k rv h => by
  cases x with
  | tup ds =>
    obtain ⟨ns, e, h2⟩ := opt_done (show Done K mg W σ μ G F (opt (intsOf ds) fun ns => if ns = [] then .bad else .ok (.int (maxI ns)) st) (Fin K Q) from h)
    clear h
    have e := intsOf_map e
    subst e
    obtain ⟨a, ws, rfl, hs, hr⟩ := rep_tup rv
    rw [reps_ints hr] at hs
    by_cases hn : ns = []
    · rw [if_pos hn] at h2; exact h2.elim
    · rw [if_neg hn] at h2
      exact ⟨a, ns, rfl, k.ex.sqt hs, hn, fin_here k h2 .int⟩
  | _ => exact h.elim
theorem maxT_ints {ns : List Int} {st : Store} (h : ns ≠ []) : maxT [.tup (ns.map .int)] st = .ok (.int (maxI ns)) st := by
  show opt (intsOf (ns.map .int)) _ = _
  rw [intsOf_map']
  show (if ns = [] then _ else _) = _
  rw [if_neg h]
end Dn
namespace Lk69
open PySem PySem.Spec PyProof.Rows L2 Dn
def topS (i : Nat) : Stmt := PySem.Challenge.pw_callsheets_k69_takes_on_rolls.main.body.getD i (.Pass ⟨0, 0, 0, 0⟩)
def d_MOST_TAKES : D := (.int 12)
def d_MOST_MINUTES : D := (.int 999)
structure Zs (P : Program) (K : PySem.W.Frag) (mg : Str → Option Value) : Prop where
  abs : mg "abs" = none
  all : mg "all" = none
  int : mg "int" = none
  len : mg "len" = none
  list : mg "list" = none
  max : mg "max" = none
  min : mg "min" = none
  range : mg "range" = none
  set : mg "set" = none
  sorted : mg "sorted" = none
  sum : mg "sum" = none
  tuple : mg "tuple" = none
  zip : mg "zip" = none
  c_MOST_TAKES : Cst K mg "MOST_TAKES" d_MOST_TAKES
  c_MOST_MINUTES : Cst K mg "MOST_MINUTES" d_MOST_MINUTES
  x_StockError : ErrT P K mg "StockError"
  y0 : ExmsT K mg ["StockError"] "StockError"
abbrev s_check_takes : Stmt := topS 6
theorem sc_check_takes : FnScope ["takes", "roll", "take"] ["takes", "roll"] (defScope s_check_takes) := ⟨rfl, rfl, rfl, by decide +kernel, rfl, by decide +kernel, by decide +kernel⟩
abbrev s_put_in_order : Stmt := topS 7
theorem sc_put_in_order : FnScope ["takes", "roll", "found", "number", "left", "take"] ["takes", "roll"] (defScope s_put_in_order) := ⟨rfl, rfl, rfl, by decide +kernel, rfl, by decide +kernel, by decide +kernel⟩
abbrev s_in_order : Stmt := topS 8
theorem sc_in_order : FnScope ["takes", "roll"] ["takes", "roll"] (defScope s_in_order) := ⟨rfl, rfl, rfl, by decide +kernel, rfl, by decide +kernel, by decide +kernel⟩
abbrev s_fitting : Stmt := topS 9
theorem sc_fitting : FnScope ["takes", "roll", "many", "rolls", "lefts", "number", "take", "most"] ["takes", "roll", "many"] (defScope s_fitting) := ⟨rfl, rfl, rfl, by decide +kernel, rfl, by decide +kernel, by decide +kernel⟩
abbrev s_fewest_rolls : Stmt := topS 10
theorem sc_fewest_rolls : FnScope ["takes", "roll", "many", "found"] ["takes", "roll"] (defScope s_fewest_rolls) := ⟨rfl, rfl, rfl, by decide +kernel, rfl, by decide +kernel, by decide +kernel⟩
abbrev s_loads : Stmt := topS 11
theorem sc_loads : FnScope ["takes", "rolls", "found", "take", "number"] ["takes", "rolls"] (defScope s_loads) := ⟨rfl, rfl, rfl, by decide +kernel, rfl, by decide +kernel, by decide +kernel⟩
abbrev s_is_fit : Stmt := topS 12
theorem sc_is_fit : FnScope ["takes", "roll", "rolls", "number", "load"] ["takes", "roll", "rolls"] (defScope s_is_fit) := ⟨rfl, rfl, rfl, by decide +kernel, rfl, by decide +kernel, by decide +kernel⟩
abbrev s_takes_rolls : Stmt := topS 13
theorem sc_takes_rolls : FnScope ["takes", "roll", "rolls"] ["takes", "roll", "rolls"] (defScope s_takes_rolls) := ⟨rfl, rfl, rfl, by decide +kernel, rfl, by decide +kernel, by decide +kernel⟩
abbrev s_short_ends : Stmt := topS 14
theorem sc_short_ends : FnScope ["takes", "roll", "rolls", "load"] ["takes", "roll", "rolls"] (defScope s_short_ends) := ⟨rfl, rfl, rfl, by decide +kernel, rfl, by decide +kernel, by decide +kernel⟩
abbrev s_law_begin : Stmt := topS 16
theorem sc_law_begin : FnScope ["script", "seed", "cell"] ["script"] (defScope s_law_begin) := ⟨rfl, rfl, rfl, by decide +kernel, rfl, by decide +kernel, by decide +kernel⟩
abbrev s_law_take : Stmt := topS 17
theorem sc_law_take : FnScope ["d", "many", "small", "digit"] ["d", "many"] (defScope s_law_take) := ⟨rfl, rfl, rfl, by decide +kernel, rfl, by decide +kernel, by decide +kernel⟩
abbrev s_law_asked : Stmt := topS 18
theorem sc_law_asked : FnScope ["takes", "roll", "rolls", "told", "kind", "e"] ["takes", "roll", "rolls"] (defScope s_law_asked) := ⟨rfl, rfl, rfl, by decide +kernel, rfl, by decide +kernel, by decide +kernel⟩
abbrev s_law_fits : Stmt := topS 19
theorem sc_law_fits : FnScope ["takes", "roll", "rolls", "number", "k"] ["takes", "roll", "rolls"] (defScope s_law_fits) := ⟨rfl, rfl, rfl, by decide +kernel, rfl, by decide +kernel, by decide +kernel⟩
abbrev s_law_all : Stmt := topS 20
theorem sc_law_all : FnScope ["many", "found", "k", "longer", "row", "number"] ["many"] (defScope s_law_all) := ⟨rfl, rfl, rfl, by decide +kernel, rfl, by decide +kernel, by decide +kernel⟩
abbrev s_law_used : Stmt := topS 21
theorem sc_law_used : FnScope ["rolls"] ["rolls"] (defScope s_law_used) := ⟨rfl, rfl, rfl, by decide +kernel, rfl, by decide +kernel, by decide +kernel⟩
abbrev s_law_ordered : Stmt := topS 22
theorem sc_law_ordered : FnScope ["takes", "roll", "rolls", "left", "k"] ["takes", "roll"] (defScope s_law_ordered) := ⟨rfl, rfl, rfl, by decide +kernel, rfl, by decide +kernel, by decide +kernel⟩
abbrev s_law : Stmt := topS 23
theorem sc_law : FnScope ["script", "d", "roll", "takes", "k", "rolls", "ordered", "ways", "row", "least", "kept", "fewest", "told", "number", "fits", "ends", "wrong", "other", "code"] ["script"] (defScope s_law) := ⟨rfl, rfl, rfl, by decide +kernel, rfl, by decide +kernel, by decide +kernel⟩
noncomputable def b_check_takes  : SM := sSeq (sIf (e2 gtD (eN lenD (aCons (eV 0) (aNil))) (eC d_MOST_TAKES)) (sRaise "StockError" (eC (.str "many"))) (sNil)) (sSeq (sIf (eNot (eChain leD leD (eC (.int 1)) (eV 1) (eC d_MOST_MINUTES))) (sRaise "StockError" (eC (.str "roll"))) (sNil)) (sIf (eNot (eTru (eN allD (aCons (eComp false (iE (eV 0)) (gN 2) (eC (.bl true)) (eChain leD leD (eC (.int 1)) (eV 2) (eV 1)) [2]) (aNil))))) (sRaise "StockError" (eC (.str "take"))) (sNil)))
noncomputable def m_check_takes : FnD := fnD 3 b_check_takes
noncomputable def b_put_in_order_7  : SM := sAsg (gN 4) (eV 1)
noncomputable def b_put_in_order_6  : SM := sSeq (sAug 3 iaddD (eC (.int 1))) (b_put_in_order_7)
noncomputable def b_put_in_order_9  : SM := sAug 4 subD (eV 5)
noncomputable def b_put_in_order_8  : SM := sSeq (sExpr (eM "list" appendD (eV 2) (aCons (eV 3) (aNil)))) (b_put_in_order_9)
noncomputable def b_put_in_order_5  : SM := sSeq (sIf (e2 gtD (eV 5) (eV 4)) (b_put_in_order_6) (sNil)) (b_put_in_order_8)
noncomputable def b_put_in_order_10  : SM := sRet (eN tupleD (aCons (eV 2) (aNil)))
noncomputable def b_put_in_order_4  : SM := sSeq (sFor (iE (eV 0)) (gN 5) (b_put_in_order_5) [5]) (b_put_in_order_10)
noncomputable def b_put_in_order_3  : SM := sSeq (sAsg (gN 4) (eV 1)) (b_put_in_order_4)
noncomputable def b_put_in_order_2  : SM := sSeq (sAsg (gN 3) (eC (.int 0))) (b_put_in_order_3)
noncomputable def b_put_in_order  : SM := sSeq (sAsg (gN 2) (eLst true (aNil))) (b_put_in_order_2)
noncomputable def m_put_in_order : FnD := fnD 6 b_put_in_order
noncomputable def b_in_order  : SM := sSeq (sExpr (eN m_check_takes (aCons (eV 0) (aCons (eV 1) (aNil))))) (sRet (eN m_put_in_order (aCons (eV 0) (aCons (eV 1) (aNil)))))
noncomputable def m_in_order : FnD := fnD 2 b_in_order
noncomputable def b_fitting_8  : SM := sAug 5 iaddD (eC (.int 1))
noncomputable def b_fitting_12  : SM := sAsg (gN 5) (eC (.int 0))
noncomputable def b_fitting_11  : SM := sSeq (sAugL subD (eV 4) (eV 5) (eV 6)) (b_fitting_12)
noncomputable def b_fitting_10  : SM := sSeq (sExpr (eM "list" appendD (eV 3) (aCons (eV 5) (aNil)))) (b_fitting_11)
noncomputable def b_fitting_16  : SM := sAug 5 iaddD (eC (.int 1))
noncomputable def b_fitting_15  : SM := sSeq (sAugL iaddD (eV 4) (eV 5) (e2 ixA (eV 0) (eN lenD (aCons (eV 3) (aNil))))) (b_fitting_16)
noncomputable def b_fitting_14  : SM := sSeq (sAsg (gN 5) (eM "list" popD (eV 3) (aNil))) (b_fitting_15)
noncomputable def b_fitting_9  : SM := sIf (e2 ltD (eV 5) (eV 7)) (b_fitting_10) (sIf (eTru (eV 3)) (b_fitting_14) (sRet (eC .non)))
noncomputable def b_fitting_7  : SM := sSeq (sWhile (eAnd (e2 ltD (eV 5) (eV 7)) (e2 ltD (e2 ixA (eV 4) (eV 5)) (eV 6))) (b_fitting_8)) (b_fitting_9)
noncomputable def b_fitting_6  : SM := sSeq (sAsg (gN 7) (eN minB (aCons (eV 2) (aCons (e2 (addD false) (eN maxD (aCons (e2 (addD false) (eV 3) (eLst false (aCons (e1 negD (eC (.int 1))) (aNil)))) (aNil))) (eC (.int 2))) (aNil))))) (b_fitting_7)
noncomputable def b_fitting_5  : SM := sSeq (sAsg (gN 6) (e2 ixA (eV 0) (eN lenD (aCons (eV 3) (aNil))))) (b_fitting_6)
noncomputable def b_fitting_19  : SM := sRet (eN tupleD (aCons (eV 3) (aNil)))
noncomputable def b_fitting_4  : SM := sSeq (sWhile (e2 ltD (eN lenD (aCons (eV 3) (aNil))) (eN lenD (aCons (eV 0) (aNil)))) (b_fitting_5)) (b_fitting_19)
noncomputable def b_fitting_3  : SM := sSeq (sAsg (gN 5) (eC (.int 0))) (b_fitting_4)
noncomputable def b_fitting_2  : SM := sSeq (sAsg (gN 4) (e2 (mulD true) (eLst false (aCons (eV 1) (aNil))) (eV 2))) (b_fitting_3)
noncomputable def b_fitting  : SM := sSeq (sAsg (gN 3) (eLst true (aNil))) (b_fitting_2)
noncomputable def m_fitting : FnD := fnD 8 b_fitting
noncomputable def b_fewest_rolls_6  : SM := sAsg (gN 3) (eN m_fitting (aCons (eV 0) (aCons (eV 1) (aCons (eV 2) (aNil)))))
noncomputable def b_fewest_rolls_5  : SM := sSeq (sAug 2 iaddD (eC (.int 1))) (b_fewest_rolls_6)
noncomputable def b_fewest_rolls_7  : SM := sRet (eV 3)
noncomputable def b_fewest_rolls_4  : SM := sSeq (sWhile (e2 isD (eV 3) (eC .non)) (b_fewest_rolls_5)) (b_fewest_rolls_7)
noncomputable def b_fewest_rolls_3  : SM := sSeq (sAsg (gN 3) (eN m_fitting (aCons (eV 0) (aCons (eV 1) (aCons (eV 2) (aNil)))))) (b_fewest_rolls_4)
noncomputable def b_fewest_rolls_2  : SM := sSeq (sAsg (gN 2) (e2 fdivD (e2 subD (e2 (addD false) (eN sumQ (aCons (eV 0) (aNil))) (eV 1)) (eC (.int 1))) (eV 1))) (b_fewest_rolls_3)
noncomputable def b_fewest_rolls  : SM := sSeq (sExpr (eN m_check_takes (aCons (eV 0) (aCons (eV 1) (aNil))))) (b_fewest_rolls_2)
noncomputable def m_fewest_rolls : FnD := fnD 4 b_fewest_rolls
noncomputable def b_loads  : SM := sSeq (sAsg (gN 2) (e2 (mulD true) (eLst false (aCons (eC (.int 0)) (aNil))) (eIf (eTru (eV 1)) (e2 (addD false) (eN maxT (aCons (eV 1) (aNil))) (eC (.int 1))) (eC (.int 0))))) (sSeq (sFor (iZp (aCons (eV 0) (aCons (eV 1) (aNil)))) (gT [gN 3, gN 4]) (sAugL iaddD (eV 2) (eV 4) (eV 3)) [3, 4]) (sRet (eV 2)))
noncomputable def m_loads : FnD := fnD 5 b_loads
noncomputable def b_is_fit  : SM := sSeq (sIf (eOr (e2 neD (eN lenD (aCons (eV 2) (aNil))) (eN lenD (aCons (eV 0) (aNil)))) (eNot (eTru (eN allD (aCons (eComp false (iE (eV 2)) (gN 3) (eC (.bl true)) (e2 geD (eV 3) (eC (.int 0))) [3]) (aNil)))))) (sRet (eC (.bl false))) (sNil)) (sRet (eN allD (aCons (eComp false (iE (eN m_loads (aCons (eV 0) (aCons (eV 2) (aNil))))) (gN 4) (eC (.bl true)) (e2 leD (eV 4) (eV 1)) [4]) (aNil))))
noncomputable def m_is_fit : FnD := fnD 5 b_is_fit
noncomputable def b_takes_rolls  : SM := sSeq (sExpr (eN m_check_takes (aCons (eV 0) (aCons (eV 1) (aNil))))) (sRet (eN m_is_fit (aCons (eV 0) (aCons (eV 1) (aCons (eV 2) (aNil))))))
noncomputable def m_takes_rolls : FnD := fnD 3 b_takes_rolls
noncomputable def b_short_ends  : SM := sSeq (sExpr (eN m_check_takes (aCons (eV 0) (aCons (eV 1) (aNil))))) (sSeq (sIf (eNot (eTru (eN m_is_fit (aCons (eV 0) (aCons (eV 1) (aCons (eV 2) (aNil))))))) (sRaise "StockError" (eC (.str "rolls"))) (sNil)) (sRet (eN tupleD (aCons (eComp false (iE (eN m_loads (aCons (eV 0) (aCons (eV 2) (aNil))))) (gN 3) (eC (.bl true)) (e2 subD (eV 1) (eV 3)) [3]) (aNil)))))
noncomputable def m_short_ends : FnD := fnD 4 b_short_ends
noncomputable def b_law_begin  : SM := sSeq (sAsg (gN 1) (eC (.int 1))) (sSeq (sFor (iE (eV 0)) (gN 2) (sAsg (gN 1) (e2 modD (e2 (addD false) (e2 (addD false) (e2 (mulD false) (eV 1) (eC (.int 69621))) (e2 modD (eN intD (aCons (eV 2) (aNil))) (eC (.int 2147483629)))) (eC (.int 7))) (eC (.int 2147483647)))) [2]) (sRet (eLst true (aCons (eN (listD false) (aCons (eV 0) (aNil))) (aCons (eC (.int 0)) (aCons (eC (.int 0)) (aCons (eV 1) (aNil))))))))
noncomputable def m_law_begin : FnD := fnK 3 b_law_begin
noncomputable def b_law_take  : SM := sSeq (sIf (eAnd (e2 eqD (e2 ixA (eV 0) (eC (.int 2))) (eC (.int 0))) (e2 ltD (e2 ixA (eV 0) (eC (.int 1))) (eN lenD (aCons (e2 ixA (eV 0) (eC (.int 0))) (aNil))))) (sSeq (sSub setA (eV 0) (eC (.int 2)) (eN absD (aCons (eN intD (aCons (e2 ixA (e2 ixA (eV 0) (eC (.int 0))) (e2 ixA (eV 0) (eC (.int 1)))) (aNil))) (aNil)))) (sSeq (sSub setA (eV 0) (eC (.int 1)) (e2 (addD false) (e2 ixA (eV 0) (eC (.int 1))) (eC (.int 1)))) (sIf (e2 ltD (e2 ixA (eV 0) (eC (.int 2))) (e2 powD (eC (.int 10)) (eC (.int 18)))) (sSeq (sAsg (gN 2) (eN intD (aCons (e2 ixA (eV 0) (eC (.int 2))) (aNil)))) (sSeq (sSub setA (eV 0) (eC (.int 2)) (eC (.int 0))) (sRet (e2 modD (eV 2) (eV 1))))) (sNil)))) (sNil)) (sSeq (sIf (e2 gtD (e2 ixA (eV 0) (eC (.int 2))) (eC (.int 0))) (sSeq (sAsg (gN 3) (e2 modD (eN intD (aCons (e2 ixA (eV 0) (eC (.int 2))) (aNil))) (eV 1))) (sSeq (sSub setA (eV 0) (eC (.int 2)) (e2 fdivD (eN intD (aCons (e2 ixA (eV 0) (eC (.int 2))) (aNil))) (eV 1))) (sRet (eV 3)))) (sNil)) (sSeq (sSub setA (eV 0) (eC (.int 3)) (e2 modD (eN intD (aCons (e2 (addD false) (e2 (mulD false) (e2 ixA (eV 0) (eC (.int 3))) (eC (.int 48271))) (eC (.int 11))) (aNil))) (eC (.int 2147483647)))) (sRet (e2 modD (eN intD (aCons (e2 fdivD (e2 ixA (eV 0) (eC (.int 3))) (eC (.int 3))) (aNil))) (eV 1)))))
noncomputable def m_law_take : FnD := fnD 4 b_law_take
noncomputable def b_law_asked_4  : SM := sIf (e2 eqD (eV 4) (eC (.int 0))) (sExpr (eM "list" appendD (eV 3) (aCons (eN m_in_order (aCons (eV 0) (aCons (eV 1) (aNil)))) (aNil)))) (sIf (e2 eqD (eV 4) (eC (.int 1))) (sExpr (eM "list" appendD (eV 3) (aCons (eN m_fewest_rolls (aCons (eV 0) (aCons (eV 1) (aNil)))) (aNil)))) (sIf (e2 eqD (eV 4) (eC (.int 2))) (sExpr (eM "list" appendD (eV 3) (aCons (eN m_takes_rolls (aCons (eV 0) (aCons (eV 1) (aCons (eV 2) (aNil))))) (aNil)))) (sExpr (eM "list" appendD (eV 3) (aCons (eN m_short_ends (aCons (eV 0) (aCons (eV 1) (aCons (eV 2) (aNil))))) (aNil))))))
noncomputable def b_law_asked_3  : SM := sTryAs ["StockError"] "StockError" 5 (b_law_asked_4) (fun a dd => sExpr (eM "list" appendD (eV 3) (aCons (eExn 5 a dd) (aNil))))
noncomputable def b_law_asked_14  : SM := sRet (eV 3)
noncomputable def b_law_asked_2  : SM := sSeq (sFor (iR (aCons (eC (.int 4)) (aNil))) (gN 4) (b_law_asked_3) [4]) (b_law_asked_14)
noncomputable def b_law_asked  : SM := sSeq (sAsg (gN 3) (eLst true (aNil))) (b_law_asked_2)
noncomputable def m_law_asked : FnD := fnD 6 b_law_asked
noncomputable def b_law_fits  : SM := sSeq (sIf (eOr (e2 neD (eN lenD (aCons (eV 2) (aNil))) (eN lenD (aCons (eV 0) (aNil)))) (e2 gtD (eN lenD (aCons (eComp false (iE (eV 2)) (gN 3) (e2 ltD (eV 3) (eC (.int 0))) (eV 3) [3]) (aNil))) (eC (.int 0)))) (sRet (eC (.bl false))) (sNil)) (sSeq (sFor (iR (aCons (eIf (e2 gtD (eN lenD (aCons (eV 2) (aNil))) (eC (.int 0))) (e2 (addD false) (eN maxT (aCons (eV 2) (aNil))) (eC (.int 1))) (eC (.int 0))) (aNil))) (gN 3) (sIf (e2 gtD (eN sumD (aCons (eComp false (iR (aCons (eN lenD (aCons (eV 0) (aNil))) (aNil))) (gN 4) (e2 eqD (e2 ixA (eV 2) (eV 4)) (eV 3)) (e2 ixA (eV 0) (eV 4)) [4]) (aNil))) (eV 1)) (sRet (eC (.bl false))) (sNil)) [3]) (sRet (eC (.bl true))))
noncomputable def m_law_fits : FnD := fnD 5 b_law_fits
noncomputable def b_law_all_5  : SM := sAsg (gN 3) (e2 (addD false) (eV 3) (eComp false (iR (aCons (e2 (addD false) (eN maxT (aCons (e2 (addD false) (eV 4) (eTup (aCons (e1 negD (eC (.int 1))) (aNil)))) (aNil))) (eC (.int 2))) (aNil))) (gN 5) (eC (.bl true)) (e2 (addD false) (eV 4) (eTup (aCons (eV 5) (aNil)))) [5]))
noncomputable def b_law_all_6  : SM := sAsg (gN 1) (eV 3)
noncomputable def b_law_all_4  : SM := sSeq (sFor (iE (eV 1)) (gN 4) (b_law_all_5) [4]) (b_law_all_6)
noncomputable def b_law_all_3  : SM := sSeq (sAsg (gN 3) (eLst false (aNil))) (b_law_all_4)
noncomputable def b_law_all_7  : SM := sRet (eV 1)
noncomputable def b_law_all_2  : SM := sSeq (sFor (iR (aCons (eV 0) (aNil))) (gN 2) (b_law_all_3) [2, 3, 4]) (b_law_all_7)
noncomputable def b_law_all  : SM := sSeq (sAsg (gN 1) (eLst false (aCons (eTup (aNil)) (aNil)))) (b_law_all_2)
noncomputable def m_law_all : FnD := fnD 6 b_law_all
noncomputable def b_law_used  : SM := sRet (eN lenSetD (aCons (eV 0) (aNil)))
noncomputable def m_law_used : FnD := fnD 1 b_law_used
noncomputable def b_law_ordered_6  : SM := sAsg (gN 2) (e2 (addD false) (eV 2) (eTup (aCons (e2 ixA (eV 2) (e1 negD (eC (.int 1)))) (aNil))))
noncomputable def b_law_ordered_5  : SM := sSeq (sAsg (gN 3) (e2 subD (eV 3) (e2 ixA (eV 0) (eV 4)))) (b_law_ordered_6)
noncomputable def b_law_ordered_9  : SM := sAsg (gN 2) (e2 (addD false) (eV 2) (eTup (aCons (eIf (e2 gtD (eV 4) (eC (.int 0))) (e2 (addD false) (e2 ixA (eV 2) (e1 negD (eC (.int 1)))) (eC (.int 1))) (eC (.int 0))) (aNil))))
noncomputable def b_law_ordered_8  : SM := sSeq (sAsg (gN 3) (e2 subD (eV 1) (e2 ixA (eV 0) (eV 4)))) (b_law_ordered_9)
noncomputable def b_law_ordered_4  : SM := sIf (eAnd (e2 gtD (eV 4) (eC (.int 0))) (e2 leD (e2 ixA (eV 0) (eV 4)) (eV 3))) (b_law_ordered_5) (b_law_ordered_8)
noncomputable def b_law_ordered_10  : SM := sRet (eV 2)
noncomputable def b_law_ordered_3  : SM := sSeq (sFor (iR (aCons (eN lenD (aCons (eV 0) (aNil))) (aNil))) (gN 4) (b_law_ordered_4) [4]) (b_law_ordered_10)
noncomputable def b_law_ordered_2  : SM := sSeq (sAsg (gN 3) (eC (.int 0))) (b_law_ordered_3)
noncomputable def b_law_ordered  : SM := sSeq (sAsg (gN 2) (eTup (aNil))) (b_law_ordered_2)
noncomputable def m_law_ordered : FnD := fnD 5 b_law_ordered
noncomputable def b_law_17  : SM := sIf (e2 neD (eN m_law_asked (aCons (eV 3) (aCons (eV 2) (aCons (eV 12) (aNil))))) (eLst false (aCons (eV 6) (aCons (eV 11) (aCons (eV 14) (aCons (eV 15) (aNil))))))) (sRet (eC (.bl false))) (sNil)
noncomputable def b_law_15  : SM := sSeq (sIf (eTru (eV 14)) (sAsg (gN 15) (eN tupleD (aCons (eComp false (iR (aCons (eIf (e2 gtD (eN lenD (aCons (eV 12) (aNil))) (eC (.int 0))) (e2 (addD false) (eN maxT (aCons (eV 12) (aNil))) (eC (.int 1))) (eC (.int 0))) (aNil))) (gN 13) (eC (.bl true)) (e2 subD (eV 2) (eN sumD (aCons (eComp false (iR (aCons (eN lenD (aCons (eV 3) (aNil))) (aNil))) (gN 4) (e2 eqD (e2 ixA (eV 12) (eV 4)) (eV 13)) (e2 ixA (eV 3) (eV 4)) [4]) (aNil)))) [13]) (aNil)))) (sNil)) (b_law_17)
noncomputable def b_law_14  : SM := sSeq (sAsg (gN 15) (eC (.str "rolls"))) (b_law_15)
noncomputable def b_law_13  : SM := sSeq (sAsg (gN 14) (eN m_law_fits (aCons (eV 3) (aCons (eV 2) (aCons (eV 12) (aNil)))))) (b_law_14)
noncomputable def b_law_20  : SM := sIf (e2 neD (eN m_law_asked (aCons (eV 16) (aCons (eV 17) (aCons (e2 (mulQ false) (eTup (aCons (eC (.int 0)) (aNil))) (eN lenD (aCons (eV 16) (aNil)))) (aNil))))) (e2 (mulD false) (eLst false (aCons (eV 18) (aNil))) (eC (.int 4)))) (sRet (eC (.bl false))) (sNil)
noncomputable def b_law_22  : SM := sRet (eC (.bl true))
noncomputable def b_law_19  : SM := sSeq (sFor (iE (eLst false (aCons (eTup (aCons (e2 (mulQ false) (eTup (aCons (eC (.int 1)) (aNil))) (eC (.int 13))) (aCons (eC (.int 5)) (aCons (eC (.str "many")) (aNil))))) (aCons (eTup (aCons (eTup (aCons (eC (.int 2)) (aNil))) (aCons (eC (.int 0)) (aCons (eC (.str "roll")) (aNil))))) (aCons (eTup (aCons (eTup (aCons (eC (.int 2)) (aNil))) (aCons (eC (.int 1000)) (aCons (eC (.str "roll")) (aNil))))) (aCons (eTup (aCons (eTup (aCons (eC (.int 0)) (aNil))) (aCons (eC (.int 5)) (aCons (eC (.str "take")) (aNil))))) (aCons (eTup (aCons (eTup (aCons (eC (.int 6)) (aNil))) (aCons (eC (.int 5)) (aCons (eC (.str "take")) (aNil))))) (aCons (eTup (aCons (e2 (mulQ false) (eTup (aCons (eC (.int 1)) (aNil))) (eC (.int 13))) (aCons (eC (.int 0)) (aCons (eC (.str "many")) (aNil))))) (aCons (eTup (aCons (eTup (aCons (eC (.int 3)) (aCons (e1 negD (eC (.int 1))) (aNil)))) (aCons (eC (.int 5)) (aCons (eC (.str "take")) (aNil))))) (aNil)))))))))) (gT [gN 16, gN 17, gN 18]) (b_law_20) [16, 17, 18]) (b_law_22)
noncomputable def b_law_12  : SM := sSeq (sFor (iE (eLst false (aCons (eV 5) (aCons (eV 11) (aCons (eV 6) (aCons (e2 (addD false) (eV 11) (eTup (aCons (eC (.int 0)) (aNil)))) (aCons (eSl false (eV 11) (oSome (eC (.int 1))) (oNone)) (aCons (eN tupleD (aCons (eComp false (iE (eV 11)) (gN 13) (eC (.bl true)) (e2 subD (eV 13) (eC (.int 1))) [13]) (aNil))) (aCons (eN tupleD (aCons (eComp false (iE (eV 11)) (gN 13) (eC (.bl true)) (e2 (addD false) (eV 13) (eC (.int 1))) [13]) (aNil))) (aNil)))))))))) (gN 12) (b_law_13) [12, 14, 15]) (b_law_19)
noncomputable def b_law_11  : SM := sSeq (sAsg (gN 11) (e2 ixA (eComp false (iE (eV 7)) (gN 8) (e2 eqD (eN m_law_used (aCons (eV 8) (aNil))) (eV 9)) (eV 8) [8]) (eC (.int 0)))) (b_law_12)
noncomputable def b_law_9  : SM := sSeq (sIf (eAnd (e2 gtD (eN lenD (aCons (eV 3) (aNil))) (eC (.int 0))) (e2 neD (eN m_law_used (aCons (eV 6) (aNil))) (eN minB (aCons (eV 10) (aNil))))) (sRet (eC (.bl false))) (sNil)) (b_law_11)
noncomputable def b_law_8  : SM := sSeq (sAsg (gN 10) (eComp false (iE (eV 7)) (gN 8) (e2 eqD (eN (listD false) (aCons (eV 8) (aNil))) (eN (sortQ false) (aCons (eV 8) (aNil)))) (eN m_law_used (aCons (eV 8) (aNil))) [8])) (b_law_9)
noncomputable def b_law_7  : SM := sSeq (sAsg (gN 9) (eN minB (aCons (eComp false (iE (eV 7)) (gN 8) (eC (.bl true)) (eN m_law_used (aCons (eV 8) (aNil))) [8]) (aNil)))) (b_law_8)
noncomputable def b_law_6  : SM := sSeq (sAsg (gN 7) (eComp false (iE (eN m_law_all (aCons (eN lenD (aCons (eV 3) (aNil))) (aNil)))) (gN 8) (eTru (eN m_law_fits (aCons (eV 3) (aCons (eV 2) (aCons (eV 8) (aNil)))))) (eV 8) [8])) (b_law_7)
noncomputable def b_law_5  : SM := sSeq (sAsg (gN 6) (eN m_law_ordered (aCons (eV 3) (aCons (eV 2) (aNil))))) (b_law_6)
noncomputable def b_law_4  : SM := sSeq (sAsg (gN 5) (eN tupleD (aCons (eComp false (iR (aCons (eN lenD (aCons (eV 3) (aNil))) (aNil))) (gN 4) (eC (.bl true)) (eN m_law_take (aCons (eV 1) (aCons (eC (.int 4)) (aNil)))) [4]) (aNil)))) (b_law_5)
noncomputable def b_law_3  : SM := sSeq (sAsg (gN 3) (eN tupleD (aCons (eComp false (iR (aCons (eN m_law_take (aCons (eV 1) (aCons (eC (.int 7)) (aNil)))) (aNil))) (gN 4) (eC (.bl true)) (eIf (e2 gtD (eN m_law_take (aCons (eV 1) (aCons (eC (.int 3)) (aNil)))) (eC (.int 0))) (e2 (addD false) (eC (.int 1)) (eN m_law_take (aCons (eV 1) (aCons (eV 2) (aNil))))) (eN maxD (aCons (eC (.int 1)) (aCons (e2 fdivD (eV 2) (e2 (addD false) (eC (.int 2)) (eN m_law_take (aCons (eV 1) (aCons (eC (.int 3)) (aNil)))))) (aNil))))) [4]) (aNil)))) (b_law_4)
noncomputable def b_law_2  : SM := sSeq (sAsg (gN 2) (e2 ixA (eLst false (aCons (e2 (addD false) (eC (.int 1)) (eN m_law_take (aCons (eV 1) (aCons (eC (.int 20)) (aNil))))) (aCons (eC (.int 10)) (aCons (eC (.int 999)) (aCons (eC (.int 100)) (aNil)))))) (eN m_law_take (aCons (eV 1) (aCons (eC (.int 4)) (aNil)))))) (b_law_3)
noncomputable def b_law  : SM := sSeq (sAsg (gN 1) (eN m_law_begin (aCons (eV 0) (aNil)))) (b_law_2)
noncomputable def m_law : FnD := fnD 19 b_law
section
variable {P : Program} {w : World} {K : PySem.W.Frag} {mg : Str → Option Value} {base : Heap}
theorem ok_check_takes (Z : Zs P K mg) {fa : Addr} {fd : FuncData} (F : Fun K "check_takes" "check_takes" s_check_takes fa fd) : FnM P w K mg base (1 + 1) fa fd ["takes", "roll"] (fnD 3 (b_check_takes)) := fn_D F sc_check_takes fun cdv A outer s1 H1 E1 hr => by
  have tk : Takes (cxOf (L2.CX P w) P w K mg base ["takes", "roll", "take"] "check_takes" (defScope s_check_takes) fa cdv A outer s1 H1 E1) (fun cls d _ H => E1 cls d H) := takes_of rfl rfl rfl rfl
  have hp : PassesOwn (model P w) (cxOf (L2.CX P w) P w K mg base ["takes", "roll", "take"] "check_takes" (defScope s_check_takes) fa cdv A outer s1 H1 E1).A (cxOf (L2.CX P w) P w K mg base ["takes", "roll", "take"] "check_takes" (defScope s_check_takes) fa cdv A outer s1 H1 E1).env (cxOf (L2.CX P w) P w K mg base ["takes", "roll", "take"] "check_takes" (defScope s_check_takes) fa cdv A outer s1 H1 E1).xe := passes_of rfl
  exact ms_cons (st_if (t_cmp op_gt s_gt (m_bi or_len s_len Z.len (by decide +kernel) (ma_cons (m_var 0) (ma_nil))) (m_glob Z.c_MOST_TAKES)) (ms_one (st_raiseE (k := 0) rfl Z.x_StockError (hr.mono (by omega)) tk (m_str))) (ms_nil)) (ms_cons (st_if (t_not (t_chain op_le s_le op_le s_le (m_int) (m_var 1) (m_glob Z.c_MOST_MINUTES))) (ms_one (st_raiseE (k := 0) rfl Z.x_StockError (hr.mono (by omega)) tk (m_str))) (ms_nil)) (ms_one (st_if (t_not (t_tru (m_bi (cr_all rfl) s_all Z.all (by decide +kernel) (ma_cons (m_comp false [("take", 2)] sc_check_takes.nd (i_sq (m_var 0)) (blkOk_by (N := ["takes", "roll", "take"]) (sc := defScope s_check_takes) (by decide +kernel)) (fun s2 H2 C2 cl2 fp2 => g_name 2 sc_check_takes.nd) (fun s2 H2 C2 cl2 fp2 => ts_nil) (fun s2 H2 C2 cl2 fp2 => m_chain op_le s_le op_le s_le (m_int) (m_var 2) (m_var 1))) (ma_nil))))) (ms_one (st_raiseE (k := 0) rfl Z.x_StockError (hr.mono (by omega)) tk (m_str))) (ms_nil))))
theorem ok_put_in_order (Z : Zs P K mg) {fa : Addr} {fd : FuncData} (F : Fun K "put_in_order" "put_in_order" s_put_in_order fa fd) : FnM P w K mg base (0 + 1) fa fd ["takes", "roll"] (fnD 6 (b_put_in_order)) := fn_D F sc_put_in_order fun cdv A outer s1 H1 E1 hr => by
  have tk : Takes (cxOf (L2.CX P w) P w K mg base ["takes", "roll", "found", "number", "left", "take"] "put_in_order" (defScope s_put_in_order) fa cdv A outer s1 H1 E1) (fun cls d _ H => E1 cls d H) := takes_of rfl rfl rfl rfl
  have hp : PassesOwn (model P w) (cxOf (L2.CX P w) P w K mg base ["takes", "roll", "found", "number", "left", "take"] "put_in_order" (defScope s_put_in_order) fa cdv A outer s1 H1 E1).A (cxOf (L2.CX P w) P w K mg base ["takes", "roll", "found", "number", "left", "take"] "put_in_order" (defScope s_put_in_order) fa cdv A outer s1 H1 E1).env (cxOf (L2.CX P w) P w K mg base ["takes", "roll", "found", "number", "left", "take"] "put_in_order" (defScope s_put_in_order) fa cdv A outer s1 H1 E1).xe := passes_of rfl
  exact ms_cons (st_set 2 sc_put_in_order.nd (m_lst true (ma_nil))) (ms_cons (st_set 3 sc_put_in_order.nd (m_int)) (ms_cons (st_set 4 sc_put_in_order.nd (m_var 1)) (ms_cons (st_for [5] hp (i_sq (m_var 0)) (g_name 5 sc_put_in_order.nd) (ms_cons (st_if (t_cmp op_gt s_gt (m_var 5) (m_var 4)) (ms_cons (st_aug 3 sc_put_in_order.nd iop_add s_iadd (m_int)) (ms_one (st_set 4 sc_put_in_order.nd (m_var 1)))) (ms_nil)) (ms_cons (st_expr (m_meth PySem.F.plainAttrs_list PySem.F.slot_list_append PySem.F.type_list_append mt_append s_append (m_var 2) (ma_cons (m_var 3) (ma_nil)))) (ms_one (st_aug 4 sc_put_in_order.nd iop_sub s_sub (m_var 5)))))) (ms_one (st_ret (m_ty call_tuple_of s_tuple Z.tuple (by decide +kernel) (ma_cons (m_var 2) (ma_nil))))))))
theorem ok_in_order (Z : Zs P K mg) (C_check_takes : Cal P w K mg base "check_takes" 2 ["takes", "roll"] m_check_takes) (C_put_in_order : Cal P w K mg base "put_in_order" 1 ["takes", "roll"] m_put_in_order) {fa : Addr} {fd : FuncData} (F : Fun K "in_order" "in_order" s_in_order fa fd) : FnM P w K mg base (2 + 1) fa fd ["takes", "roll"] (fnD 2 (b_in_order)) := fn_D F sc_in_order fun cdv A outer s1 H1 E1 hr => by
  have tk : Takes (cxOf (L2.CX P w) P w K mg base ["takes", "roll"] "in_order" (defScope s_in_order) fa cdv A outer s1 H1 E1) (fun cls d _ H => E1 cls d H) := takes_of rfl rfl rfl rfl
  have hp : PassesOwn (model P w) (cxOf (L2.CX P w) P w K mg base ["takes", "roll"] "in_order" (defScope s_in_order) fa cdv A outer s1 H1 E1).A (cxOf (L2.CX P w) P w K mg base ["takes", "roll"] "in_order" (defScope s_in_order) fa cdv A outer s1 H1 E1).env (cxOf (L2.CX P w) P w K mg base ["takes", "roll"] "in_order" (defScope s_in_order) fa cdv A outer s1 H1 E1).xe := passes_of rfl
  exact ms_cons (st_expr (m_cal C_check_takes (hr.mono (by omega)) tk (ma_cons (m_var 0) (ma_cons (m_var 1) (ma_nil))))) (ms_one (st_ret (m_cal C_put_in_order (hr.mono (by omega)) tk (ma_cons (m_var 0) (ma_cons (m_var 1) (ma_nil))))))
theorem ok_fitting (Z : Zs P K mg) {fa : Addr} {fd : FuncData} (F : Fun K "fitting" "fitting" s_fitting fa fd) : FnM P w K mg base (0 + 1) fa fd ["takes", "roll", "many"] (fnD 8 (b_fitting)) := fn_D F sc_fitting fun cdv A outer s1 H1 E1 hr => by
  have tk : Takes (cxOf (L2.CX P w) P w K mg base ["takes", "roll", "many", "rolls", "lefts", "number", "take", "most"] "fitting" (defScope s_fitting) fa cdv A outer s1 H1 E1) (fun cls d _ H => E1 cls d H) := takes_of rfl rfl rfl rfl
  have hp : PassesOwn (model P w) (cxOf (L2.CX P w) P w K mg base ["takes", "roll", "many", "rolls", "lefts", "number", "take", "most"] "fitting" (defScope s_fitting) fa cdv A outer s1 H1 E1).A (cxOf (L2.CX P w) P w K mg base ["takes", "roll", "many", "rolls", "lefts", "number", "take", "most"] "fitting" (defScope s_fitting) fa cdv A outer s1 H1 E1).env (cxOf (L2.CX P w) P w K mg base ["takes", "roll", "many", "rolls", "lefts", "number", "take", "most"] "fitting" (defScope s_fitting) fa cdv A outer s1 H1 E1).xe := passes_of rfl
  exact ms_cons (st_set 3 sc_fitting.nd (m_lst true (ma_nil))) (ms_cons (st_set 4 sc_fitting.nd (m_op or_mul (s_mul true) (m_lst false (ma_cons (m_var 1) (ma_nil))) (m_var 2))) (ms_cons (st_set 5 sc_fitting.nd (m_int)) (ms_cons (st_while hp (t_cmp or_lt s_lt (m_bi or_len s_len Z.len (by decide +kernel) (ma_cons (m_var 3) (ma_nil))) (m_bi or_len s_len Z.len (by decide +kernel) (ma_cons (m_var 0) (ma_nil)))) (ms_cons (st_set 6 sc_fitting.nd (m_ixA (hu1 hr) (m_var 0) (m_bi or_len s_len Z.len (by decide +kernel) (ma_cons (m_var 3) (ma_nil))))) (ms_cons (st_set 7 sc_fitting.nd (m_bi (or_minB rfl (hu65 hr)) s_minB Z.min (by decide +kernel) (ma_cons (m_var 2) (ma_cons (m_op or_add (s_add false) (m_bi (or_max rfl) s_max Z.max (by decide +kernel) (ma_cons (m_op or_add (s_add false) (m_var 3) (m_lst false (ma_cons (m_un un_neg s_neg (m_int)) (ma_nil)))) (ma_nil))) (m_int)) (ma_nil))))) (ms_cons (st_while hp (t_w (w_and (t_cmp or_lt s_lt (m_var 5) (m_var 7)) (w_and1 (t_cmp or_lt s_lt (m_ixA (hu1 hr) (m_var 4) (m_var 5)) (m_var 6))))) (ms_one (st_aug 5 sc_fitting.nd iop_add s_iadd (m_int)))) (ms_one (st_if (t_cmp or_lt s_lt (m_var 5) (m_var 7)) (ms_cons (st_expr (m_meth PySem.F.plainAttrs_list PySem.F.slot_list_append PySem.F.type_list_append mt_append s_append (m_var 3) (ma_cons (m_var 5) (ma_nil)))) (ms_cons (st_augL iop_sub s_sub (m_var 4) (m_var 5) (m_var 6)) (ms_one (st_set 5 sc_fitting.nd (m_int))))) (ms_one (st_if (t_tru (m_var 3)) (ms_cons (st_set 5 sc_fitting.nd (m_meth0 PySem.F.plainAttrs_list PySem.F.slot_list_pop PySem.F.type_list_pop or_pop s_pop (m_var 3))) (ms_cons (st_augL iop_add s_iadd (m_var 4) (m_var 5) (m_ixA (hu1 hr) (m_var 0) (m_bi or_len s_len Z.len (by decide +kernel) (ma_cons (m_var 3) (ma_nil))))) (ms_one (st_aug 5 sc_fitting.nd iop_add s_iadd (m_int))))) (ms_one (st_ret (m_non))))))))))) (ms_one (st_ret (m_ty call_tuple_of s_tuple Z.tuple (by decide +kernel) (ma_cons (m_var 3) (ma_nil))))))))
theorem ok_fewest_rolls (Z : Zs P K mg) (C_check_takes : Cal P w K mg base "check_takes" 2 ["takes", "roll"] m_check_takes) (C_fitting : Cal P w K mg base "fitting" 1 ["takes", "roll", "many"] m_fitting) {fa : Addr} {fd : FuncData} (F : Fun K "fewest_rolls" "fewest_rolls" s_fewest_rolls fa fd) : FnM P w K mg base (2 + 1) fa fd ["takes", "roll"] (fnD 4 (b_fewest_rolls)) := fn_D F sc_fewest_rolls fun cdv A outer s1 H1 E1 hr => by
  have tk : Takes (cxOf (L2.CX P w) P w K mg base ["takes", "roll", "many", "found"] "fewest_rolls" (defScope s_fewest_rolls) fa cdv A outer s1 H1 E1) (fun cls d _ H => E1 cls d H) := takes_of rfl rfl rfl rfl
  have hp : PassesOwn (model P w) (cxOf (L2.CX P w) P w K mg base ["takes", "roll", "many", "found"] "fewest_rolls" (defScope s_fewest_rolls) fa cdv A outer s1 H1 E1).A (cxOf (L2.CX P w) P w K mg base ["takes", "roll", "many", "found"] "fewest_rolls" (defScope s_fewest_rolls) fa cdv A outer s1 H1 E1).env (cxOf (L2.CX P w) P w K mg base ["takes", "roll", "many", "found"] "fewest_rolls" (defScope s_fewest_rolls) fa cdv A outer s1 H1 E1).xe := passes_of rfl
  exact ms_cons (st_expr (m_cal C_check_takes (hr.mono (by omega)) tk (ma_cons (m_var 0) (ma_cons (m_var 1) (ma_nil))))) (ms_cons (st_set 2 sc_fewest_rolls.nd (m_op op_fdiv s_fdiv (m_op op_sub s_sub (m_op or_add (s_add false) (m_bi (cr_sumQ rfl) s_sumQ Z.sum (by decide +kernel) (ma_cons (m_var 0) (ma_nil))) (m_var 1)) (m_int)) (m_var 1))) (ms_cons (st_set 3 sc_fewest_rolls.nd (m_cal C_fitting (hr.mono (by omega)) tk (ma_cons (m_var 0) (ma_cons (m_var 1) (ma_cons (m_var 2) (ma_nil)))))) (ms_cons (st_while hp (t_cmp or_is s_is (m_var 3) (m_non)) (ms_cons (st_aug 2 sc_fewest_rolls.nd iop_add s_iadd (m_int)) (ms_one (st_set 3 sc_fewest_rolls.nd (m_cal C_fitting (hr.mono (by omega)) tk (ma_cons (m_var 0) (ma_cons (m_var 1) (ma_cons (m_var 2) (ma_nil))))))))) (ms_one (st_ret (m_var 3))))))
theorem ok_loads (Z : Zs P K mg) {fa : Addr} {fd : FuncData} (F : Fun K "loads" "loads" s_loads fa fd) : FnM P w K mg base (0 + 1) fa fd ["takes", "rolls"] (fnD 5 (b_loads)) := fn_D F sc_loads fun cdv A outer s1 H1 E1 hr => by
  have tk : Takes (cxOf (L2.CX P w) P w K mg base ["takes", "rolls", "found", "take", "number"] "loads" (defScope s_loads) fa cdv A outer s1 H1 E1) (fun cls d _ H => E1 cls d H) := takes_of rfl rfl rfl rfl
  have hp : PassesOwn (model P w) (cxOf (L2.CX P w) P w K mg base ["takes", "rolls", "found", "take", "number"] "loads" (defScope s_loads) fa cdv A outer s1 H1 E1).A (cxOf (L2.CX P w) P w K mg base ["takes", "rolls", "found", "take", "number"] "loads" (defScope s_loads) fa cdv A outer s1 H1 E1).env (cxOf (L2.CX P w) P w K mg base ["takes", "rolls", "found", "take", "number"] "loads" (defScope s_loads) fa cdv A outer s1 H1 E1).xe := passes_of rfl
  exact ms_cons (st_set 2 sc_loads.nd (m_op or_mul (s_mul true) (m_lst false (ma_cons (m_int) (ma_nil))) (m_if (t_tru (m_var 1)) (m_op or_add (s_add false) (m_bi (cr_maxT rfl (hu65 hr)) s_maxT Z.max (by decide +kernel) (ma_cons (m_var 1) (ma_nil))) (m_int)) (m_int)))) (ms_cons (st_for [3, 4] hp (i_zp Z.zip (ma_cons (m_var 0) (ma_cons (m_var 1) (ma_nil)))) (g_tup (g_cons (g_name 3 sc_loads.nd) (g_cons (g_name 4 sc_loads.nd) (g_nil)))) (ms_one (st_augL iop_add s_iadd (m_var 2) (m_var 4) (m_var 3)))) (ms_one (st_ret (m_var 2))))
theorem ok_is_fit (Z : Zs P K mg) (C_loads : Cal P w K mg base "loads" 1 ["takes", "rolls"] m_loads) {fa : Addr} {fd : FuncData} (F : Fun K "is_fit" "is_fit" s_is_fit fa fd) : FnM P w K mg base (1 + 1) fa fd ["takes", "roll", "rolls"] (fnD 5 (b_is_fit)) := fn_D F sc_is_fit fun cdv A outer s1 H1 E1 hr => by
  have tk : Takes (cxOf (L2.CX P w) P w K mg base ["takes", "roll", "rolls", "number", "load"] "is_fit" (defScope s_is_fit) fa cdv A outer s1 H1 E1) (fun cls d _ H => E1 cls d H) := takes_of rfl rfl rfl rfl
  have hp : PassesOwn (model P w) (cxOf (L2.CX P w) P w K mg base ["takes", "roll", "rolls", "number", "load"] "is_fit" (defScope s_is_fit) fa cdv A outer s1 H1 E1).A (cxOf (L2.CX P w) P w K mg base ["takes", "roll", "rolls", "number", "load"] "is_fit" (defScope s_is_fit) fa cdv A outer s1 H1 E1).env (cxOf (L2.CX P w) P w K mg base ["takes", "roll", "rolls", "number", "load"] "is_fit" (defScope s_is_fit) fa cdv A outer s1 H1 E1).xe := passes_of rfl
  exact ms_cons (st_if (t_w (w_or (t_cmp (or_ne (hu64 hr)) s_ne (m_bi or_len s_len Z.len (by decide +kernel) (ma_cons (m_var 2) (ma_nil))) (m_bi or_len s_len Z.len (by decide +kernel) (ma_cons (m_var 0) (ma_nil)))) (w_or1 (t_not (t_tru (m_bi (cr_all rfl) s_all Z.all (by decide +kernel) (ma_cons (m_comp false [("number", 3)] sc_is_fit.nd (i_sq (m_var 2)) (blkOk_by (N := ["takes", "roll", "rolls", "number", "load"]) (sc := defScope s_is_fit) (by decide +kernel)) (fun s2 H2 C2 cl2 fp2 => g_name 3 sc_is_fit.nd) (fun s2 H2 C2 cl2 fp2 => ts_nil) (fun s2 H2 C2 cl2 fp2 => m_cmp op_ge s_ge (m_var 3) (m_int))) (ma_nil)))))))) (ms_one (st_ret (m_bl))) (ms_nil)) (ms_one (st_ret (m_bi (cr_all rfl) s_all Z.all (by decide +kernel) (ma_cons (m_comp false [("load", 4)] sc_is_fit.nd (i_sq (m_cal C_loads (hr.mono (by omega)) tk (ma_cons (m_var 0) (ma_cons (m_var 2) (ma_nil))))) (blkOk_by (N := ["takes", "roll", "rolls", "number", "load"]) (sc := defScope s_is_fit) (by decide +kernel)) (fun s2 H2 C2 cl2 fp2 => g_name 4 sc_is_fit.nd) (fun s2 H2 C2 cl2 fp2 => ts_nil) (fun s2 H2 C2 cl2 fp2 => m_cmp op_le s_le (m_var 4) (m_var 1))) (ma_nil)))))
theorem ok_takes_rolls (Z : Zs P K mg) (C_check_takes : Cal P w K mg base "check_takes" 2 ["takes", "roll"] m_check_takes) (C_is_fit : Cal P w K mg base "is_fit" 2 ["takes", "roll", "rolls"] m_is_fit) {fa : Addr} {fd : FuncData} (F : Fun K "takes_rolls" "takes_rolls" s_takes_rolls fa fd) : FnM P w K mg base (2 + 1) fa fd ["takes", "roll", "rolls"] (fnD 3 (b_takes_rolls)) := fn_D F sc_takes_rolls fun cdv A outer s1 H1 E1 hr => by
  have tk : Takes (cxOf (L2.CX P w) P w K mg base ["takes", "roll", "rolls"] "takes_rolls" (defScope s_takes_rolls) fa cdv A outer s1 H1 E1) (fun cls d _ H => E1 cls d H) := takes_of rfl rfl rfl rfl
  have hp : PassesOwn (model P w) (cxOf (L2.CX P w) P w K mg base ["takes", "roll", "rolls"] "takes_rolls" (defScope s_takes_rolls) fa cdv A outer s1 H1 E1).A (cxOf (L2.CX P w) P w K mg base ["takes", "roll", "rolls"] "takes_rolls" (defScope s_takes_rolls) fa cdv A outer s1 H1 E1).env (cxOf (L2.CX P w) P w K mg base ["takes", "roll", "rolls"] "takes_rolls" (defScope s_takes_rolls) fa cdv A outer s1 H1 E1).xe := passes_of rfl
  exact ms_cons (st_expr (m_cal C_check_takes (hr.mono (by omega)) tk (ma_cons (m_var 0) (ma_cons (m_var 1) (ma_nil))))) (ms_one (st_ret (m_cal C_is_fit (hr.mono (by omega)) tk (ma_cons (m_var 0) (ma_cons (m_var 1) (ma_cons (m_var 2) (ma_nil)))))))
theorem ok_short_ends (Z : Zs P K mg) (C_check_takes : Cal P w K mg base "check_takes" 2 ["takes", "roll"] m_check_takes) (C_is_fit : Cal P w K mg base "is_fit" 2 ["takes", "roll", "rolls"] m_is_fit) (C_loads : Cal P w K mg base "loads" 1 ["takes", "rolls"] m_loads) {fa : Addr} {fd : FuncData} (F : Fun K "short_ends" "short_ends" s_short_ends fa fd) : FnM P w K mg base (2 + 1) fa fd ["takes", "roll", "rolls"] (fnD 4 (b_short_ends)) := fn_D F sc_short_ends fun cdv A outer s1 H1 E1 hr => by
  have tk : Takes (cxOf (L2.CX P w) P w K mg base ["takes", "roll", "rolls", "load"] "short_ends" (defScope s_short_ends) fa cdv A outer s1 H1 E1) (fun cls d _ H => E1 cls d H) := takes_of rfl rfl rfl rfl
  have hp : PassesOwn (model P w) (cxOf (L2.CX P w) P w K mg base ["takes", "roll", "rolls", "load"] "short_ends" (defScope s_short_ends) fa cdv A outer s1 H1 E1).A (cxOf (L2.CX P w) P w K mg base ["takes", "roll", "rolls", "load"] "short_ends" (defScope s_short_ends) fa cdv A outer s1 H1 E1).env (cxOf (L2.CX P w) P w K mg base ["takes", "roll", "rolls", "load"] "short_ends" (defScope s_short_ends) fa cdv A outer s1 H1 E1).xe := passes_of rfl
  exact ms_cons (st_expr (m_cal C_check_takes (hr.mono (by omega)) tk (ma_cons (m_var 0) (ma_cons (m_var 1) (ma_nil))))) (ms_cons (st_if (t_not (t_tru (m_cal C_is_fit (hr.mono (by omega)) tk (ma_cons (m_var 0) (ma_cons (m_var 1) (ma_cons (m_var 2) (ma_nil))))))) (ms_one (st_raiseE (k := 0) rfl Z.x_StockError (hr.mono (by omega)) tk (m_str))) (ms_nil)) (ms_one (st_ret (m_ty call_tuple_of s_tuple Z.tuple (by decide +kernel) (ma_cons (m_comp false [("load", 3)] sc_short_ends.nd (i_sq (m_cal C_loads (hr.mono (by omega)) tk (ma_cons (m_var 0) (ma_cons (m_var 2) (ma_nil))))) (blkOk_by (N := ["takes", "roll", "rolls", "load"]) (sc := defScope s_short_ends) (by decide +kernel)) (fun s2 H2 C2 cl2 fp2 => g_name 3 sc_short_ends.nd) (fun s2 H2 C2 cl2 fp2 => ts_nil) (fun s2 H2 C2 cl2 fp2 => m_op op_sub s_sub (m_var 1) (m_var 3))) (ma_nil))))))
theorem ok_law_begin (Z : Zs P K mg) {fa : Addr} {fd : FuncData} (F : Fun K "_law_begin" "_law_begin" s_law_begin fa fd) : FnM P w K mg base (0 + 1) fa fd ["script"] (fnK 3 (b_law_begin)) := fn_K F sc_law_begin fun cdv A outer s1 H1 E1 hr => by
  have tk : Takes (cxOf (L2.CX P w) P w K mg base ["script", "seed", "cell"] "_law_begin" (defScope s_law_begin) fa cdv A outer s1 H1 E1) (fun cls d _ H => E1 cls d H) := takes_of rfl rfl rfl rfl
  have hp : PassesOwn (model P w) (cxOf (L2.CX P w) P w K mg base ["script", "seed", "cell"] "_law_begin" (defScope s_law_begin) fa cdv A outer s1 H1 E1).A (cxOf (L2.CX P w) P w K mg base ["script", "seed", "cell"] "_law_begin" (defScope s_law_begin) fa cdv A outer s1 H1 E1).env (cxOf (L2.CX P w) P w K mg base ["script", "seed", "cell"] "_law_begin" (defScope s_law_begin) fa cdv A outer s1 H1 E1).xe := passes_of rfl
  exact ms_cons (st_set 1 sc_law_begin.nd (m_int)) (ms_cons (st_for [2] hp (i_sq (m_var 0)) (g_name 2 sc_law_begin.nd) (ms_one (st_set 1 sc_law_begin.nd (m_op op_mod s_mod (m_op or_add (s_add false) (m_op or_add (s_add false) (m_op or_mul (s_mul false) (m_var 1) (m_int)) (m_op op_mod s_mod (m_ty call_int1 s_intF Z.int (by decide +kernel) (ma_cons (m_var 2) (ma_nil))) (m_int))) (m_int)) (m_int))))) (ms_one (st_ret (m_lst true (ma_cons (m_ty call_list_of (s_list false) Z.list (by decide +kernel) (ma_cons (m_var 0) (ma_nil))) (ma_cons (m_int) (ma_cons (m_int) (ma_cons (m_var 1) (ma_nil)))))))))
theorem ok_law_take (Z : Zs P K mg) {fa : Addr} {fd : FuncData} (F : Fun K "_law_take" "_law_take" s_law_take fa fd) : FnM P w K mg base (0 + 1) fa fd ["d", "many"] (fnD 4 (b_law_take)) := fn_D F sc_law_take fun cdv A outer s1 H1 E1 hr => by
  have tk : Takes (cxOf (L2.CX P w) P w K mg base ["d", "many", "small", "digit"] "_law_take" (defScope s_law_take) fa cdv A outer s1 H1 E1) (fun cls d _ H => E1 cls d H) := takes_of rfl rfl rfl rfl
  have hp : PassesOwn (model P w) (cxOf (L2.CX P w) P w K mg base ["d", "many", "small", "digit"] "_law_take" (defScope s_law_take) fa cdv A outer s1 H1 E1).A (cxOf (L2.CX P w) P w K mg base ["d", "many", "small", "digit"] "_law_take" (defScope s_law_take) fa cdv A outer s1 H1 E1).env (cxOf (L2.CX P w) P w K mg base ["d", "many", "small", "digit"] "_law_take" (defScope s_law_take) fa cdv A outer s1 H1 E1).xe := passes_of rfl
  exact ms_cons (st_if (t_w (w_and (t_cmp (or_eq (hu64 hr)) s_eq (m_ixA (hu1 hr) (m_var 0) (m_int)) (m_int)) (w_and1 (t_cmp or_lt s_lt (m_ixA (hu1 hr) (m_var 0) (m_int)) (m_bi or_len s_len Z.len (by decide +kernel) (ma_cons (m_ixA (hu1 hr) (m_var 0) (m_int)) (ma_nil))))))) (ms_cons (st_sub (set_a (hu1 hr)) s_setA (m_var 0) (m_int) (m_bi call_abs s_abs Z.abs (by decide +kernel) (ma_cons (m_ty call_int1 s_intF Z.int (by decide +kernel) (ma_cons (m_ixA (hu1 hr) (m_ixA (hu1 hr) (m_var 0) (m_int)) (m_ixA (hu1 hr) (m_var 0) (m_int))) (ma_nil))) (ma_nil)))) (ms_cons (st_sub (set_a (hu1 hr)) s_setA (m_var 0) (m_int) (m_op or_add (s_add false) (m_ixA (hu1 hr) (m_var 0) (m_int)) (m_int))) (ms_one (st_if (t_cmp or_lt s_lt (m_ixA (hu1 hr) (m_var 0) (m_int)) (m_op op_pow s_pow (m_int) (m_int))) (ms_cons (st_set 2 sc_law_take.nd (m_ty call_int1 s_intF Z.int (by decide +kernel) (ma_cons (m_ixA (hu1 hr) (m_var 0) (m_int)) (ma_nil)))) (ms_cons (st_sub (set_a (hu1 hr)) s_setA (m_var 0) (m_int) (m_int)) (ms_one (st_ret (m_op op_mod s_mod (m_var 2) (m_var 1)))))) (ms_nil))))) (ms_nil)) (ms_cons (st_if (t_cmp op_gt s_gt (m_ixA (hu1 hr) (m_var 0) (m_int)) (m_int)) (ms_cons (st_set 3 sc_law_take.nd (m_op op_mod s_mod (m_ty call_int1 s_intF Z.int (by decide +kernel) (ma_cons (m_ixA (hu1 hr) (m_var 0) (m_int)) (ma_nil))) (m_var 1))) (ms_cons (st_sub (set_a (hu1 hr)) s_setA (m_var 0) (m_int) (m_op op_fdiv s_fdiv (m_ty call_int1 s_intF Z.int (by decide +kernel) (ma_cons (m_ixA (hu1 hr) (m_var 0) (m_int)) (ma_nil))) (m_var 1))) (ms_one (st_ret (m_var 3))))) (ms_nil)) (ms_cons (st_sub (set_a (hu1 hr)) s_setA (m_var 0) (m_int) (m_op op_mod s_mod (m_ty call_int1 s_intF Z.int (by decide +kernel) (ma_cons (m_op or_add (s_add false) (m_op or_mul (s_mul false) (m_ixA (hu1 hr) (m_var 0) (m_int)) (m_int)) (m_int)) (ma_nil))) (m_int))) (ms_one (st_ret (m_op op_mod s_mod (m_ty call_int1 s_intF Z.int (by decide +kernel) (ma_cons (m_op op_fdiv s_fdiv (m_ixA (hu1 hr) (m_var 0) (m_int)) (m_int)) (ma_nil))) (m_var 1))))))
theorem ok_law_asked (Z : Zs P K mg) (C_in_order : Cal P w K mg base "in_order" 3 ["takes", "roll"] m_in_order) (C_fewest_rolls : Cal P w K mg base "fewest_rolls" 3 ["takes", "roll"] m_fewest_rolls) (C_takes_rolls : Cal P w K mg base "takes_rolls" 3 ["takes", "roll", "rolls"] m_takes_rolls) (C_short_ends : Cal P w K mg base "short_ends" 3 ["takes", "roll", "rolls"] m_short_ends) {fa : Addr} {fd : FuncData} (F : Fun K "_law_asked" "_law_asked" s_law_asked fa fd) : FnM P w K mg base (3 + 1) fa fd ["takes", "roll", "rolls"] (fnD 6 (b_law_asked)) := fn_D F sc_law_asked fun cdv A outer s1 H1 E1 hr => by
  have tk : Takes (cxOf (L2.CX P w) P w K mg base ["takes", "roll", "rolls", "told", "kind", "e"] "_law_asked" (defScope s_law_asked) fa cdv A outer s1 H1 E1) (fun cls d _ H => E1 cls d H) := takes_of rfl rfl rfl rfl
  have hp : PassesOwn (model P w) (cxOf (L2.CX P w) P w K mg base ["takes", "roll", "rolls", "told", "kind", "e"] "_law_asked" (defScope s_law_asked) fa cdv A outer s1 H1 E1).A (cxOf (L2.CX P w) P w K mg base ["takes", "roll", "rolls", "told", "kind", "e"] "_law_asked" (defScope s_law_asked) fa cdv A outer s1 H1 E1).env (cxOf (L2.CX P w) P w K mg base ["takes", "roll", "rolls", "told", "kind", "e"] "_law_asked" (defScope s_law_asked) fa cdv A outer s1 H1 E1).xe := passes_of rfl
  exact ms_cons (st_set 3 sc_law_asked.nd (m_lst true (ma_nil))) (ms_cons (st_for [4] hp (i_rng1 Z.range (ma_cons (m_int) (ma_nil))) (g_name 4 sc_law_asked.nd) (ms_one (st_try_asE rfl rfl sc_law_asked.nd (i := 5) rfl rfl Z.y0 tk (fun W2 pn2 xe2 tk2 hp2 => ms_one (st_if (t_cmp (or_eq (hu64 hr)) s_eq (m_var 4) (m_int)) (ms_one (st_expr (m_meth PySem.F.plainAttrs_list PySem.F.slot_list_append PySem.F.type_list_append mt_append s_append (m_var 3) (ma_cons (m_cal C_in_order (hr.mono (by omega)) tk2 (ma_cons (m_var 0) (ma_cons (m_var 1) (ma_nil)))) (ma_nil))))) (ms_one (st_if (t_cmp (or_eq (hu64 hr)) s_eq (m_var 4) (m_int)) (ms_one (st_expr (m_meth PySem.F.plainAttrs_list PySem.F.slot_list_append PySem.F.type_list_append mt_append s_append (m_var 3) (ma_cons (m_cal C_fewest_rolls (hr.mono (by omega)) tk2 (ma_cons (m_var 0) (ma_cons (m_var 1) (ma_nil)))) (ma_nil))))) (ms_one (st_if (t_cmp (or_eq (hu64 hr)) s_eq (m_var 4) (m_int)) (ms_one (st_expr (m_meth PySem.F.plainAttrs_list PySem.F.slot_list_append PySem.F.type_list_append mt_append s_append (m_var 3) (ma_cons (m_cal C_takes_rolls (hr.mono (by omega)) tk2 (ma_cons (m_var 0) (ma_cons (m_var 1) (ma_cons (m_var 2) (ma_nil))))) (ma_nil))))) (ms_one (st_expr (m_meth PySem.F.plainAttrs_list PySem.F.slot_list_append PySem.F.type_list_append mt_append s_append (m_var 3) (ma_cons (m_cal C_short_ends (hr.mono (by omega)) tk2 (ma_cons (m_var 0) (ma_cons (m_var 1) (ma_cons (m_var 2) (ma_nil))))) (ma_nil))))))))))) (fun a oe C dd pn ef hz hf => ms_one (st_expr (m_meth PySem.F.plainAttrs_list PySem.F.slot_list_append PySem.F.type_list_append mt_append s_append (m_var 3) (ma_cons (m_code ef hz hf) (ma_nil)))))))) (ms_one (st_ret (m_var 3))))
theorem ok_law_fits (Z : Zs P K mg) {fa : Addr} {fd : FuncData} (F : Fun K "_law_fits" "_law_fits" s_law_fits fa fd) : FnM P w K mg base (0 + 1) fa fd ["takes", "roll", "rolls"] (fnD 5 (b_law_fits)) := fn_D F sc_law_fits fun cdv A outer s1 H1 E1 hr => by
  have tk : Takes (cxOf (L2.CX P w) P w K mg base ["takes", "roll", "rolls", "number", "k"] "_law_fits" (defScope s_law_fits) fa cdv A outer s1 H1 E1) (fun cls d _ H => E1 cls d H) := takes_of rfl rfl rfl rfl
  have hp : PassesOwn (model P w) (cxOf (L2.CX P w) P w K mg base ["takes", "roll", "rolls", "number", "k"] "_law_fits" (defScope s_law_fits) fa cdv A outer s1 H1 E1).A (cxOf (L2.CX P w) P w K mg base ["takes", "roll", "rolls", "number", "k"] "_law_fits" (defScope s_law_fits) fa cdv A outer s1 H1 E1).env (cxOf (L2.CX P w) P w K mg base ["takes", "roll", "rolls", "number", "k"] "_law_fits" (defScope s_law_fits) fa cdv A outer s1 H1 E1).xe := passes_of rfl
  exact ms_cons (st_if (t_w (w_or (t_cmp (or_ne (hu64 hr)) s_ne (m_bi or_len s_len Z.len (by decide +kernel) (ma_cons (m_var 2) (ma_nil))) (m_bi or_len s_len Z.len (by decide +kernel) (ma_cons (m_var 0) (ma_nil)))) (w_or1 (t_cmp op_gt s_gt (m_bi or_len s_len Z.len (by decide +kernel) (ma_cons (m_comp false [("number", 3)] sc_law_fits.nd (i_sq (m_var 2)) (blkOk_by (N := ["takes", "roll", "rolls", "number", "k"]) (sc := defScope s_law_fits) (by decide +kernel)) (fun s2 H2 C2 cl2 fp2 => g_name 3 sc_law_fits.nd) (fun s2 H2 C2 cl2 fp2 => ts_one (t_cmp or_lt s_lt (m_var 3) (m_int))) (fun s2 H2 C2 cl2 fp2 => m_var 3)) (ma_nil))) (m_int))))) (ms_one (st_ret (m_bl))) (ms_nil)) (ms_cons (st_for [3] hp (i_rng1 Z.range (ma_cons (m_if (t_cmp op_gt s_gt (m_bi or_len s_len Z.len (by decide +kernel) (ma_cons (m_var 2) (ma_nil))) (m_int)) (m_op or_add (s_add false) (m_bi (cr_maxT rfl (hu65 hr)) s_maxT Z.max (by decide +kernel) (ma_cons (m_var 2) (ma_nil))) (m_int)) (m_int)) (ma_nil))) (g_name 3 sc_law_fits.nd) (ms_one (st_if (t_cmp op_gt s_gt (m_bi (cr_sum rfl) s_sum Z.sum (by decide +kernel) (ma_cons (m_comp false [("k", 4)] sc_law_fits.nd (i_rng1 Z.range (ma_cons (m_bi or_len s_len Z.len (by decide +kernel) (ma_cons (m_var 0) (ma_nil))) (ma_nil))) (blkOk_by (N := ["takes", "roll", "rolls", "number", "k"]) (sc := defScope s_law_fits) (by decide +kernel)) (fun s2 H2 C2 cl2 fp2 => g_name 4 sc_law_fits.nd) (fun s2 H2 C2 cl2 fp2 => ts_one (t_cmp (or_eq (hu64 hr)) s_eq (m_ixA (hu1 hr) (m_var 2) (m_var 4)) (m_var 3))) (fun s2 H2 C2 cl2 fp2 => m_ixA (hu1 hr) (m_var 0) (m_var 4))) (ma_nil))) (m_var 1)) (ms_one (st_ret (m_bl))) (ms_nil)))) (ms_one (st_ret (m_bl))))
theorem ok_law_all (Z : Zs P K mg) {fa : Addr} {fd : FuncData} (F : Fun K "_law_all" "_law_all" s_law_all fa fd) : FnM P w K mg base (0 + 1) fa fd ["many"] (fnD 6 (b_law_all)) := fn_D F sc_law_all fun cdv A outer s1 H1 E1 hr => by
  have tk : Takes (cxOf (L2.CX P w) P w K mg base ["many", "found", "k", "longer", "row", "number"] "_law_all" (defScope s_law_all) fa cdv A outer s1 H1 E1) (fun cls d _ H => E1 cls d H) := takes_of rfl rfl rfl rfl
  have hp : PassesOwn (model P w) (cxOf (L2.CX P w) P w K mg base ["many", "found", "k", "longer", "row", "number"] "_law_all" (defScope s_law_all) fa cdv A outer s1 H1 E1).A (cxOf (L2.CX P w) P w K mg base ["many", "found", "k", "longer", "row", "number"] "_law_all" (defScope s_law_all) fa cdv A outer s1 H1 E1).env (cxOf (L2.CX P w) P w K mg base ["many", "found", "k", "longer", "row", "number"] "_law_all" (defScope s_law_all) fa cdv A outer s1 H1 E1).xe := passes_of rfl
  exact ms_cons (st_set 1 sc_law_all.nd (m_lst false (ma_cons (m_tup (ma_nil)) (ma_nil)))) (ms_cons (st_for [2, 3, 4] hp (i_rng1 Z.range (ma_cons (m_var 0) (ma_nil))) (g_name 2 sc_law_all.nd) (ms_cons (st_set 3 sc_law_all.nd (m_lst false (ma_nil))) (ms_cons (st_for [4] hp (i_sq (m_var 1)) (g_name 4 sc_law_all.nd) (ms_one (st_set 3 sc_law_all.nd (m_op or_add (s_add false) (m_var 3) (m_comp false [("number", 5)] sc_law_all.nd (i_rng1 Z.range (ma_cons (m_op or_add (s_add false) (m_bi (cr_maxT rfl (hu65 hr)) s_maxT Z.max (by decide +kernel) (ma_cons (m_op or_add (s_add false) (m_var 4) (m_tup (ma_cons (m_un un_neg s_neg (m_int)) (ma_nil)))) (ma_nil))) (m_int)) (ma_nil))) (blkOk_by (N := ["many", "found", "k", "longer", "row", "number"]) (sc := defScope s_law_all) (by decide +kernel)) (fun s2 H2 C2 cl2 fp2 => g_name 5 sc_law_all.nd) (fun s2 H2 C2 cl2 fp2 => ts_nil) (fun s2 H2 C2 cl2 fp2 => m_op or_add (s_add false) (m_var 4) (m_tup (ma_cons (m_var 5) (ma_nil))))))))) (ms_one (st_set 1 sc_law_all.nd (m_var 3)))))) (ms_one (st_ret (m_var 1))))
theorem ok_law_used (Z : Zs P K mg) {fa : Addr} {fd : FuncData} (F : Fun K "_law_used" "_law_used" s_law_used fa fd) : FnM P w K mg base (0 + 1) fa fd ["rolls"] (fnD 1 (b_law_used)) := fn_D F sc_law_used fun cdv A outer s1 H1 E1 hr => by
  have tk : Takes (cxOf (L2.CX P w) P w K mg base ["rolls"] "_law_used" (defScope s_law_used) fa cdv A outer s1 H1 E1) (fun cls d _ H => E1 cls d H) := takes_of rfl rfl rfl rfl
  have hp : PassesOwn (model P w) (cxOf (L2.CX P w) P w K mg base ["rolls"] "_law_used" (defScope s_law_used) fa cdv A outer s1 H1 E1).A (cxOf (L2.CX P w) P w K mg base ["rolls"] "_law_used" (defScope s_law_used) fa cdv A outer s1 H1 E1).env (cxOf (L2.CX P w) P w K mg base ["rolls"] "_law_used" (defScope s_law_used) fa cdv A outer s1 H1 E1).xe := passes_of rfl
  exact ms_one (st_ret (m_lenSet rfl Z.len Z.set (m_var 0)))
theorem ok_law_ordered (Z : Zs P K mg) {fa : Addr} {fd : FuncData} (F : Fun K "_law_ordered" "_law_ordered" s_law_ordered fa fd) : FnM P w K mg base (0 + 1) fa fd ["takes", "roll"] (fnD 5 (b_law_ordered)) := fn_D F sc_law_ordered fun cdv A outer s1 H1 E1 hr => by
  have tk : Takes (cxOf (L2.CX P w) P w K mg base ["takes", "roll", "rolls", "left", "k"] "_law_ordered" (defScope s_law_ordered) fa cdv A outer s1 H1 E1) (fun cls d _ H => E1 cls d H) := takes_of rfl rfl rfl rfl
  have hp : PassesOwn (model P w) (cxOf (L2.CX P w) P w K mg base ["takes", "roll", "rolls", "left", "k"] "_law_ordered" (defScope s_law_ordered) fa cdv A outer s1 H1 E1).A (cxOf (L2.CX P w) P w K mg base ["takes", "roll", "rolls", "left", "k"] "_law_ordered" (defScope s_law_ordered) fa cdv A outer s1 H1 E1).env (cxOf (L2.CX P w) P w K mg base ["takes", "roll", "rolls", "left", "k"] "_law_ordered" (defScope s_law_ordered) fa cdv A outer s1 H1 E1).xe := passes_of rfl
  exact ms_cons (st_set 2 sc_law_ordered.nd (m_tup (ma_nil))) (ms_cons (st_set 3 sc_law_ordered.nd (m_int)) (ms_cons (st_for [4] hp (i_rng1 Z.range (ma_cons (m_bi or_len s_len Z.len (by decide +kernel) (ma_cons (m_var 0) (ma_nil))) (ma_nil))) (g_name 4 sc_law_ordered.nd) (ms_one (st_if (t_w (w_and (t_cmp op_gt s_gt (m_var 4) (m_int)) (w_and1 (t_cmp op_le s_le (m_ixA (hu1 hr) (m_var 0) (m_var 4)) (m_var 3))))) (ms_cons (st_set 3 sc_law_ordered.nd (m_op op_sub s_sub (m_var 3) (m_ixA (hu1 hr) (m_var 0) (m_var 4)))) (ms_one (st_set 2 sc_law_ordered.nd (m_op or_add (s_add false) (m_var 2) (m_tup (ma_cons (m_ixA (hu1 hr) (m_var 2) (m_un un_neg s_neg (m_int))) (ma_nil))))))) (ms_cons (st_set 3 sc_law_ordered.nd (m_op op_sub s_sub (m_var 1) (m_ixA (hu1 hr) (m_var 0) (m_var 4)))) (ms_one (st_set 2 sc_law_ordered.nd (m_op or_add (s_add false) (m_var 2) (m_tup (ma_cons (m_if (t_cmp op_gt s_gt (m_var 4) (m_int)) (m_op or_add (s_add false) (m_ixA (hu1 hr) (m_var 2) (m_un un_neg s_neg (m_int))) (m_int)) (m_int)) (ma_nil)))))))))) (ms_one (st_ret (m_var 2)))))
theorem ok_law (Z : Zs P K mg) (C_law_begin : Cal P w K mg base "_law_begin" 1 ["script"] m_law_begin) (C_law_take : Cal P w K mg base "_law_take" 1 ["d", "many"] m_law_take) (C_law_ordered : Cal P w K mg base "_law_ordered" 1 ["takes", "roll"] m_law_ordered) (C_law_all : Cal P w K mg base "_law_all" 1 ["many"] m_law_all) (C_law_fits : Cal P w K mg base "_law_fits" 1 ["takes", "roll", "rolls"] m_law_fits) (C_law_used : Cal P w K mg base "_law_used" 1 ["rolls"] m_law_used) (C_law_asked : Cal P w K mg base "_law_asked" 4 ["takes", "roll", "rolls"] m_law_asked) {fa : Addr} {fd : FuncData} (F : Fun K "law" "law" s_law fa fd) : FnM P w K mg base (4 + 1) fa fd ["script"] (fnD 19 (b_law)) := fn_D F sc_law fun cdv A outer s1 H1 E1 hr => by
  have tk : Takes (cxOf (L2.CX P w) P w K mg base ["script", "d", "roll", "takes", "k", "rolls", "ordered", "ways", "row", "least", "kept", "fewest", "told", "number", "fits", "ends", "wrong", "other", "code"] "law" (defScope s_law) fa cdv A outer s1 H1 E1) (fun cls d _ H => E1 cls d H) := takes_of rfl rfl rfl rfl
  have hp : PassesOwn (model P w) (cxOf (L2.CX P w) P w K mg base ["script", "d", "roll", "takes", "k", "rolls", "ordered", "ways", "row", "least", "kept", "fewest", "told", "number", "fits", "ends", "wrong", "other", "code"] "law" (defScope s_law) fa cdv A outer s1 H1 E1).A (cxOf (L2.CX P w) P w K mg base ["script", "d", "roll", "takes", "k", "rolls", "ordered", "ways", "row", "least", "kept", "fewest", "told", "number", "fits", "ends", "wrong", "other", "code"] "law" (defScope s_law) fa cdv A outer s1 H1 E1).env (cxOf (L2.CX P w) P w K mg base ["script", "d", "roll", "takes", "k", "rolls", "ordered", "ways", "row", "least", "kept", "fewest", "told", "number", "fits", "ends", "wrong", "other", "code"] "law" (defScope s_law) fa cdv A outer s1 H1 E1).xe := passes_of rfl
  exact ms_cons (st_set 1 sc_law.nd (m_cal C_law_begin (hr.mono (by omega)) tk (ma_cons (m_var 0) (ma_nil)))) (ms_cons (st_set 2 sc_law.nd (m_ixA (hu1 hr) (m_lst false (ma_cons (m_op or_add (s_add false) (m_int) (m_cal C_law_take (hr.mono (by omega)) tk (ma_cons (m_var 1) (ma_cons (m_int) (ma_nil))))) (ma_cons (m_int) (ma_cons (m_int) (ma_cons (m_int) (ma_nil)))))) (m_cal C_law_take (hr.mono (by omega)) tk (ma_cons (m_var 1) (ma_cons (m_int) (ma_nil)))))) (ms_cons (st_set 3 sc_law.nd (m_ty call_tuple_of s_tuple Z.tuple (by decide +kernel) (ma_cons (m_comp false [("k", 4)] sc_law.nd (i_rng1 Z.range (ma_cons (m_cal C_law_take (hr.mono (by omega)) tk (ma_cons (m_var 1) (ma_cons (m_int) (ma_nil)))) (ma_nil))) (blkOk_by (N := ["script", "d", "roll", "takes", "k", "rolls", "ordered", "ways", "row", "least", "kept", "fewest", "told", "number", "fits", "ends", "wrong", "other", "code"]) (sc := defScope s_law) (by decide +kernel)) (fun s2 H2 C2 cl2 fp2 => g_name 4 sc_law.nd) (fun s2 H2 C2 cl2 fp2 => ts_nil) (fun s2 H2 C2 cl2 fp2 => m_if (t_cmp op_gt s_gt (m_cal C_law_take (hr.mono (by omega)) tk0 (ma_cons (m_var 1) (ma_cons (m_int) (ma_nil)))) (m_int)) (m_op or_add (s_add false) (m_int) (m_cal C_law_take (hr.mono (by omega)) tk0 (ma_cons (m_var 1) (ma_cons (m_var 2) (ma_nil))))) (m_bi (or_max rfl) s_max Z.max (by decide +kernel) (ma_cons (m_int) (ma_cons (m_op op_fdiv s_fdiv (m_var 2) (m_op or_add (s_add false) (m_int) (m_cal C_law_take (hr.mono (by omega)) tk0 (ma_cons (m_var 1) (ma_cons (m_int) (ma_nil)))))) (ma_nil)))))) (ma_nil)))) (ms_cons (st_set 5 sc_law.nd (m_ty call_tuple_of s_tuple Z.tuple (by decide +kernel) (ma_cons (m_comp false [("k", 4)] sc_law.nd (i_rng1 Z.range (ma_cons (m_bi or_len s_len Z.len (by decide +kernel) (ma_cons (m_var 3) (ma_nil))) (ma_nil))) (blkOk_by (N := ["script", "d", "roll", "takes", "k", "rolls", "ordered", "ways", "row", "least", "kept", "fewest", "told", "number", "fits", "ends", "wrong", "other", "code"]) (sc := defScope s_law) (by decide +kernel)) (fun s2 H2 C2 cl2 fp2 => g_name 4 sc_law.nd) (fun s2 H2 C2 cl2 fp2 => ts_nil) (fun s2 H2 C2 cl2 fp2 => m_cal C_law_take (hr.mono (by omega)) tk0 (ma_cons (m_var 1) (ma_cons (m_int) (ma_nil))))) (ma_nil)))) (ms_cons (st_set 6 sc_law.nd (m_cal C_law_ordered (hr.mono (by omega)) tk (ma_cons (m_var 3) (ma_cons (m_var 2) (ma_nil))))) (ms_cons (st_setLc false 7 [("row", 8)] sc_law.nd (i_sq (m_cal C_law_all (hr.mono (by omega)) tk (ma_cons (m_bi or_len s_len Z.len (by decide +kernel) (ma_cons (m_var 3) (ma_nil))) (ma_nil)))) (blkOk_by (N := ["script", "d", "roll", "takes", "k", "rolls", "ordered", "ways", "row", "least", "kept", "fewest", "told", "number", "fits", "ends", "wrong", "other", "code"]) (sc := defScope s_law) (by decide +kernel)) (fun s2 H2 C2 cl2 fp2 => g_name 8 sc_law.nd) (fun s2 H2 C2 cl2 fp2 => ts_one (t_tru (m_cal C_law_fits (hr.mono (by omega)) tk0 (ma_cons (m_var 3) (ma_cons (m_var 2) (ma_cons (m_var 8) (ma_nil))))))) (fun s2 H2 C2 cl2 fp2 => m_var 8) (sw_true rfl rfl rfl (by decide +kernel))) (ms_cons (st_set 9 sc_law.nd (m_bi (or_minB rfl (hu65 hr)) s_minB Z.min (by decide +kernel) (ma_cons (m_comp false [("row", 8)] sc_law.nd (i_sq (m_var 7)) (blkOk_by (N := ["script", "d", "roll", "takes", "k", "rolls", "ordered", "ways", "row", "least", "kept", "fewest", "told", "number", "fits", "ends", "wrong", "other", "code"]) (sc := defScope s_law) (by decide +kernel)) (fun s2 H2 C2 cl2 fp2 => g_name 8 sc_law.nd) (fun s2 H2 C2 cl2 fp2 => ts_nil) (fun s2 H2 C2 cl2 fp2 => m_cal C_law_used (hr.mono (by omega)) tk0 (ma_cons (m_var 8) (ma_nil)))) (ma_nil)))) (ms_cons (st_setLc false 10 [("row", 8)] sc_law.nd (i_sq (m_var 7)) (blkOk_by (N := ["script", "d", "roll", "takes", "k", "rolls", "ordered", "ways", "row", "least", "kept", "fewest", "told", "number", "fits", "ends", "wrong", "other", "code"]) (sc := defScope s_law) (by decide +kernel)) (fun s2 H2 C2 cl2 fp2 => g_name 8 sc_law.nd) (fun s2 H2 C2 cl2 fp2 => ts_one (t_cmp (or_eq (hu64 hr)) s_eq (m_ty call_list_of (s_list false) Z.list (by decide +kernel) (ma_cons (m_var 8) (ma_nil))) (m_bi (cr_sortQ (hu65 hr)) (s_sortQ false) Z.sorted (by decide +kernel) (ma_cons (m_var 8) (ma_nil))))) (fun s2 H2 C2 cl2 fp2 => m_cal C_law_used (hr.mono (by omega)) tk0 (ma_cons (m_var 8) (ma_nil))) (sw_true rfl rfl rfl (by decide +kernel))) (ms_cons (st_if (t_w (w_and (t_cmp op_gt s_gt (m_bi or_len s_len Z.len (by decide +kernel) (ma_cons (m_var 3) (ma_nil))) (m_int)) (w_and1 (t_cmp (or_ne (hu64 hr)) s_ne (m_cal C_law_used (hr.mono (by omega)) tk (ma_cons (m_var 6) (ma_nil))) (m_bi (or_minB rfl (hu65 hr)) s_minB Z.min (by decide +kernel) (ma_cons (m_var 10) (ma_nil))))))) (ms_one (st_ret (m_bl))) (ms_nil)) (ms_cons (st_set 11 sc_law.nd (m_ixA (hu1 hr) (m_comp false [("row", 8)] sc_law.nd (i_sq (m_var 7)) (blkOk_by (N := ["script", "d", "roll", "takes", "k", "rolls", "ordered", "ways", "row", "least", "kept", "fewest", "told", "number", "fits", "ends", "wrong", "other", "code"]) (sc := defScope s_law) (by decide +kernel)) (fun s2 H2 C2 cl2 fp2 => g_name 8 sc_law.nd) (fun s2 H2 C2 cl2 fp2 => ts_one (t_cmp (or_eq (hu64 hr)) s_eq (m_cal C_law_used (hr.mono (by omega)) tk0 (ma_cons (m_var 8) (ma_nil))) (m_var 9))) (fun s2 H2 C2 cl2 fp2 => m_var 8)) (m_int))) (ms_cons (st_for [12, 14, 15] hp (i_sq (m_lst false (ma_cons (m_var 5) (ma_cons (m_var 11) (ma_cons (m_var 6) (ma_cons (m_op or_add (s_add false) (m_var 11) (m_tup (ma_cons (m_int) (ma_nil)))) (ma_cons (m_sl false (m_var 11) (mo_some (m_int)) (mo_none)) (ma_cons (m_ty call_tuple_of s_tuple Z.tuple (by decide +kernel) (ma_cons (m_comp false [("number", 13)] sc_law.nd (i_sq (m_var 11)) (blkOk_by (N := ["script", "d", "roll", "takes", "k", "rolls", "ordered", "ways", "row", "least", "kept", "fewest", "told", "number", "fits", "ends", "wrong", "other", "code"]) (sc := defScope s_law) (by decide +kernel)) (fun s2 H2 C2 cl2 fp2 => g_name 13 sc_law.nd) (fun s2 H2 C2 cl2 fp2 => ts_nil) (fun s2 H2 C2 cl2 fp2 => m_op op_sub s_sub (m_var 13) (m_int))) (ma_nil))) (ma_cons (m_ty call_tuple_of s_tuple Z.tuple (by decide +kernel) (ma_cons (m_comp false [("number", 13)] sc_law.nd (i_sq (m_var 11)) (blkOk_by (N := ["script", "d", "roll", "takes", "k", "rolls", "ordered", "ways", "row", "least", "kept", "fewest", "told", "number", "fits", "ends", "wrong", "other", "code"]) (sc := defScope s_law) (by decide +kernel)) (fun s2 H2 C2 cl2 fp2 => g_name 13 sc_law.nd) (fun s2 H2 C2 cl2 fp2 => ts_nil) (fun s2 H2 C2 cl2 fp2 => m_op or_add (s_add false) (m_var 13) (m_int))) (ma_nil))) (ma_nil)))))))))) (g_name 12 sc_law.nd) (ms_cons (st_set 14 sc_law.nd (m_cal C_law_fits (hr.mono (by omega)) tk (ma_cons (m_var 3) (ma_cons (m_var 2) (ma_cons (m_var 12) (ma_nil)))))) (ms_cons (st_set 15 sc_law.nd (m_str)) (ms_cons (st_if (t_tru (m_var 14)) (ms_one (st_set 15 sc_law.nd (m_ty call_tuple_of s_tuple Z.tuple (by decide +kernel) (ma_cons (m_comp false [("number", 13)] sc_law.nd (i_rng1 Z.range (ma_cons (m_if (t_cmp op_gt s_gt (m_bi or_len s_len Z.len (by decide +kernel) (ma_cons (m_var 12) (ma_nil))) (m_int)) (m_op or_add (s_add false) (m_bi (cr_maxT rfl (hu65 hr)) s_maxT Z.max (by decide +kernel) (ma_cons (m_var 12) (ma_nil))) (m_int)) (m_int)) (ma_nil))) (blkOk_by (N := ["script", "d", "roll", "takes", "k", "rolls", "ordered", "ways", "row", "least", "kept", "fewest", "told", "number", "fits", "ends", "wrong", "other", "code"]) (sc := defScope s_law) (by decide +kernel)) (fun s2 H2 C2 cl2 fp2 => g_name 13 sc_law.nd) (fun s2 H2 C2 cl2 fp2 => ts_nil) (fun s2 H2 C2 cl2 fp2 => m_op op_sub s_sub (m_var 2) (m_bi (cr_sum rfl) s_sum Z.sum (by decide +kernel) (ma_cons (m_comp false [("k", 4)] sc_law.nd (i_rng1 Z.range (ma_cons (m_bi or_len s_len Z.len (by decide +kernel) (ma_cons (m_var 3) (ma_nil))) (ma_nil))) (blkOk_by (N := ["script", "d", "roll", "takes", "k", "rolls", "ordered", "ways", "row", "least", "kept", "fewest", "told", "number", "fits", "ends", "wrong", "other", "code"]) (sc := _) (by kernel_rfl)) (fun s2 H2 C2 cl2 fp2 => g_name 4 sc_law.nd) (fun s2 H2 C2 cl2 fp2 => ts_one (t_cmp (or_eq (hu64 hr)) s_eq (m_ixA (hu1 hr) (m_var 12) (m_var 4)) (m_var 13))) (fun s2 H2 C2 cl2 fp2 => m_ixA (hu1 hr) (m_var 3) (m_var 4))) (ma_nil))))) (ma_nil))))) (ms_nil)) (ms_one (st_if (t_cmp (or_ne (hu64 hr)) s_ne (m_cal C_law_asked (hr.mono (by omega)) tk (ma_cons (m_var 3) (ma_cons (m_var 2) (ma_cons (m_var 12) (ma_nil))))) (m_lst false (ma_cons (m_var 6) (ma_cons (m_var 11) (ma_cons (m_var 14) (ma_cons (m_var 15) (ma_nil))))))) (ms_one (st_ret (m_bl))) (ms_nil))))))) (ms_cons (st_for [16, 17, 18] hp (i_sq (m_lst false (ma_cons (m_tup (ma_cons (m_op or_mulQ (s_mulQ false) (m_tup (ma_cons (m_int) (ma_nil))) (m_int)) (ma_cons (m_int) (ma_cons (m_str) (ma_nil))))) (ma_cons (m_tup (ma_cons (m_tup (ma_cons (m_int) (ma_nil))) (ma_cons (m_int) (ma_cons (m_str) (ma_nil))))) (ma_cons (m_tup (ma_cons (m_tup (ma_cons (m_int) (ma_nil))) (ma_cons (m_int) (ma_cons (m_str) (ma_nil))))) (ma_cons (m_tup (ma_cons (m_tup (ma_cons (m_int) (ma_nil))) (ma_cons (m_int) (ma_cons (m_str) (ma_nil))))) (ma_cons (m_tup (ma_cons (m_tup (ma_cons (m_int) (ma_nil))) (ma_cons (m_int) (ma_cons (m_str) (ma_nil))))) (ma_cons (m_tup (ma_cons (m_op or_mulQ (s_mulQ false) (m_tup (ma_cons (m_int) (ma_nil))) (m_int)) (ma_cons (m_int) (ma_cons (m_str) (ma_nil))))) (ma_cons (m_tup (ma_cons (m_tup (ma_cons (m_int) (ma_cons (m_un un_neg s_neg (m_int)) (ma_nil)))) (ma_cons (m_int) (ma_cons (m_str) (ma_nil))))) (ma_nil)))))))))) (g_tup (g_cons (g_name 16 sc_law.nd) (g_cons (g_name 17 sc_law.nd) (g_cons (g_name 18 sc_law.nd) (g_nil))))) (ms_one (st_if (t_cmp (or_ne (hu64 hr)) s_ne (m_cal C_law_asked (hr.mono (by omega)) tk (ma_cons (m_var 16) (ma_cons (m_var 17) (ma_cons (m_op or_mulQ (s_mulQ false) (m_tup (ma_cons (m_int) (ma_nil))) (m_bi or_len s_len Z.len (by decide +kernel) (ma_cons (m_var 16) (ma_nil)))) (ma_nil))))) (m_op or_mul (s_mul false) (m_lst false (ma_cons (m_var 18) (ma_nil))) (m_int))) (ms_one (st_ret (m_bl))) (ms_nil)))) (ms_one (st_ret (m_bl))))))))))))))
end
/-! what the top has written -/
def spLaw (K : PySem.W.Frag) : Sp := fun vs H Q _ => ∃ (a : Addr) (ns : List Int), vs = [.ref a] ∧ SqL K H a (ns.map V.int) ∧ ns.length ≤ 63 ∧ ∀ H2, Q (.bl true) H2
theorem fin_law {P : Program} {w : World} {K : PySem.W.Frag} {mg : Str → Option Value} {base : Heap} {k : Nat} {fa : Addr} {fd : FuncData} (hm : ∀ ns : List Int, ns.length ≤ 63 → ∃ st, m_law [.frz (ns.map D.int)] [] = .ok (.bl true) st) (Fl : FnM P w K mg base k fa fd ["script"] m_law) : FnOk P w K mg base (L2.CX P w) k fa fd ["script"] (spLaw K) :=
  Fl.imp fun vs H Q E h => by
    obtain ⟨a, ns, rfl, hs, hl, hq⟩ := h
    obtain ⟨st, e⟩ := hm ns hl
    exact law_start hs e hq
theorem all_mk {l : PySem.W.OpenLaw} {w : World} {K : PySem.W.Frag} {h : Heap} {mg : Str → Option Value} {fa : Addr} (X : K.In h) (G : h.Ns mainGlobals mg) (hfa : mg "law" = some (.ref fa)) (hm : ∀ ns : List Int, ns.length ≤ 63 → ∃ st, m_law [.frz (ns.map D.int)] [] = .ok (.bl true) st)
    {kMOST_TAKES_1 : Tok}
    {kMOST_MINUTES_1 : Tok}
    {f1 : Addr} {od1 an1 : Option Addr} {sl1 : Array (Option Value)} {oc1 kV1 dc1 pm1 cd1 ct1 : Value}
    {f2 : Addr} {od2 an2 : Option Addr} {sl2 : Array (Option Value)} {oc2 kV2 dc2 pm2 cd2 ct2 : Value}
    {f3 : Addr} {od3 an3 : Option Addr} {sl3 : Array (Option Value)} {oc3 kV3 dc3 pm3 cd3 ct3 : Value}
    {f4 : Addr} {od4 an4 : Option Addr} {sl4 : Array (Option Value)} {oc4 kV4 dc4 pm4 cd4 ct4 : Value}
    {f5 : Addr} {od5 an5 : Option Addr} {sl5 : Array (Option Value)} {oc5 kV5 dc5 pm5 cd5 ct5 : Value}
    {f6 : Addr} {od6 an6 : Option Addr} {sl6 : Array (Option Value)} {oc6 kV6 dc6 pm6 cd6 ct6 : Value}
    {f7 : Addr} {od7 an7 : Option Addr} {sl7 : Array (Option Value)} {oc7 kV7 dc7 pm7 cd7 ct7 : Value}
    {f8 : Addr} {od8 an8 : Option Addr} {sl8 : Array (Option Value)} {oc8 kV8 dc8 pm8 cd8 ct8 : Value}
    {f9 : Addr} {od9 an9 : Option Addr} {sl9 : Array (Option Value)} {oc9 kV9 dc9 pm9 cd9 ct9 : Value}
    {f10 : Addr} {od10 an10 : Option Addr} {sl10 : Array (Option Value)} {oc10 kV10 dc10 pm10 cd10 ct10 : Value}
    {f11 : Addr} {od11 an11 : Option Addr} {sl11 : Array (Option Value)} {oc11 kV11 dc11 pm11 cd11 ct11 : Value}
    {f12 : Addr} {od12 an12 : Option Addr} {sl12 : Array (Option Value)} {oc12 kV12 dc12 pm12 cd12 ct12 : Value}
    {f13 : Addr} {od13 an13 : Option Addr} {sl13 : Array (Option Value)} {oc13 kV13 dc13 pm13 cd13 ct13 : Value}
    {f14 : Addr} {od14 an14 : Option Addr} {sl14 : Array (Option Value)} {oc14 kV14 dc14 pm14 cd14 ct14 : Value}
    {f15 : Addr} {od15 an15 : Option Addr} {sl15 : Array (Option Value)} {oc15 kV15 dc15 pm15 cd15 ct15 : Value}
    {f16 : Addr} {od16 an16 : Option Addr} {sl16 : Array (Option Value)} {oc16 kV16 dc16 pm16 cd16 ct16 : Value}
    {f17 : Addr} {od17 an17 : Option Addr} {sl17 : Array (Option Value)} {oc17 kV17 dc17 pm17 cd17 ct17 : Value}
    {er_D er_I er_cda er_cc : Addr} {er_oc er_doc er_pm er_ct er_ccl er_cl : Value} {er_od er_an er_cdd er_cld : Option Addr} {er_osl er_ccs er_csl : Array (Option Value)} {er_vs : Array Value} {er_file : Str} {er_tf : Tok} {er_cdD : ClassData}
    {er_StockError eN_StockError : Addr} {en_StockError eq_StockError : Str} {eb_StockError eu_StockError : List Value} {es_StockError : List Str} {ea_StockError : Bool} {ec_StockError : Option Bool} {ed_StockError : Option Addr} {e0_StockError e1_StockError e2_StockError e3_StockError e5_StockError : Option Value}
    (g_MOST_TAKES : PySem.W.nsIn K mainGlobals "MOST_TAKES" = some (some (Value.int 12 kMOST_TAKES_1)))
    (g_MOST_MINUTES : PySem.W.nsIn K mainGlobals "MOST_MINUTES" = some (some (Value.int 999 kMOST_MINUTES_1)))
    (a1 : PySem.W.nsIn K mainGlobals "check_takes" = some (some (.ref f1)))
    (l1 : K.lookup f1 = some ⟨oc1, od1, .func (PySem.W.fnOf "check_takes" "check_takes" (defArgs s_check_takes) (defBody s_check_takes) (defScope s_check_takes) .none kV1 dc1 pm1 an1 cd1 ct1), sl1⟩)
    (c1 : PySem.W.codeIn K cd1 "check_takes" = true)
    (k1 : PySem.W.keepIn K (.ref f1) = true)
    (a2 : PySem.W.nsIn K mainGlobals "put_in_order" = some (some (.ref f2)))
    (l2 : K.lookup f2 = some ⟨oc2, od2, .func (PySem.W.fnOf "put_in_order" "put_in_order" (defArgs s_put_in_order) (defBody s_put_in_order) (defScope s_put_in_order) .none kV2 dc2 pm2 an2 cd2 ct2), sl2⟩)
    (c2 : PySem.W.codeIn K cd2 "put_in_order" = true)
    (k2 : PySem.W.keepIn K (.ref f2) = true)
    (a3 : PySem.W.nsIn K mainGlobals "in_order" = some (some (.ref f3)))
    (l3 : K.lookup f3 = some ⟨oc3, od3, .func (PySem.W.fnOf "in_order" "in_order" (defArgs s_in_order) (defBody s_in_order) (defScope s_in_order) .none kV3 dc3 pm3 an3 cd3 ct3), sl3⟩)
    (c3 : PySem.W.codeIn K cd3 "in_order" = true)
    (k3 : PySem.W.keepIn K (.ref f3) = true)
    (a4 : PySem.W.nsIn K mainGlobals "fitting" = some (some (.ref f4)))
    (l4 : K.lookup f4 = some ⟨oc4, od4, .func (PySem.W.fnOf "fitting" "fitting" (defArgs s_fitting) (defBody s_fitting) (defScope s_fitting) .none kV4 dc4 pm4 an4 cd4 ct4), sl4⟩)
    (c4 : PySem.W.codeIn K cd4 "fitting" = true)
    (k4 : PySem.W.keepIn K (.ref f4) = true)
    (a5 : PySem.W.nsIn K mainGlobals "fewest_rolls" = some (some (.ref f5)))
    (l5 : K.lookup f5 = some ⟨oc5, od5, .func (PySem.W.fnOf "fewest_rolls" "fewest_rolls" (defArgs s_fewest_rolls) (defBody s_fewest_rolls) (defScope s_fewest_rolls) .none kV5 dc5 pm5 an5 cd5 ct5), sl5⟩)
    (c5 : PySem.W.codeIn K cd5 "fewest_rolls" = true)
    (k5 : PySem.W.keepIn K (.ref f5) = true)
    (a6 : PySem.W.nsIn K mainGlobals "loads" = some (some (.ref f6)))
    (l6 : K.lookup f6 = some ⟨oc6, od6, .func (PySem.W.fnOf "loads" "loads" (defArgs s_loads) (defBody s_loads) (defScope s_loads) .none kV6 dc6 pm6 an6 cd6 ct6), sl6⟩)
    (c6 : PySem.W.codeIn K cd6 "loads" = true)
    (k6 : PySem.W.keepIn K (.ref f6) = true)
    (a7 : PySem.W.nsIn K mainGlobals "is_fit" = some (some (.ref f7)))
    (l7 : K.lookup f7 = some ⟨oc7, od7, .func (PySem.W.fnOf "is_fit" "is_fit" (defArgs s_is_fit) (defBody s_is_fit) (defScope s_is_fit) .none kV7 dc7 pm7 an7 cd7 ct7), sl7⟩)
    (c7 : PySem.W.codeIn K cd7 "is_fit" = true)
    (k7 : PySem.W.keepIn K (.ref f7) = true)
    (a8 : PySem.W.nsIn K mainGlobals "takes_rolls" = some (some (.ref f8)))
    (l8 : K.lookup f8 = some ⟨oc8, od8, .func (PySem.W.fnOf "takes_rolls" "takes_rolls" (defArgs s_takes_rolls) (defBody s_takes_rolls) (defScope s_takes_rolls) .none kV8 dc8 pm8 an8 cd8 ct8), sl8⟩)
    (c8 : PySem.W.codeIn K cd8 "takes_rolls" = true)
    (k8 : PySem.W.keepIn K (.ref f8) = true)
    (a9 : PySem.W.nsIn K mainGlobals "short_ends" = some (some (.ref f9)))
    (l9 : K.lookup f9 = some ⟨oc9, od9, .func (PySem.W.fnOf "short_ends" "short_ends" (defArgs s_short_ends) (defBody s_short_ends) (defScope s_short_ends) .none kV9 dc9 pm9 an9 cd9 ct9), sl9⟩)
    (c9 : PySem.W.codeIn K cd9 "short_ends" = true)
    (k9 : PySem.W.keepIn K (.ref f9) = true)
    (a10 : PySem.W.nsIn K mainGlobals "_law_begin" = some (some (.ref f10)))
    (l10 : K.lookup f10 = some ⟨oc10, od10, .func (PySem.W.fnOf "_law_begin" "_law_begin" (defArgs s_law_begin) (defBody s_law_begin) (defScope s_law_begin) .none kV10 dc10 pm10 an10 cd10 ct10), sl10⟩)
    (c10 : PySem.W.codeIn K cd10 "_law_begin" = true)
    (k10 : PySem.W.keepIn K (.ref f10) = true)
    (a11 : PySem.W.nsIn K mainGlobals "_law_take" = some (some (.ref f11)))
    (l11 : K.lookup f11 = some ⟨oc11, od11, .func (PySem.W.fnOf "_law_take" "_law_take" (defArgs s_law_take) (defBody s_law_take) (defScope s_law_take) .none kV11 dc11 pm11 an11 cd11 ct11), sl11⟩)
    (c11 : PySem.W.codeIn K cd11 "_law_take" = true)
    (k11 : PySem.W.keepIn K (.ref f11) = true)
    (a12 : PySem.W.nsIn K mainGlobals "_law_asked" = some (some (.ref f12)))
    (l12 : K.lookup f12 = some ⟨oc12, od12, .func (PySem.W.fnOf "_law_asked" "_law_asked" (defArgs s_law_asked) (defBody s_law_asked) (defScope s_law_asked) .none kV12 dc12 pm12 an12 cd12 ct12), sl12⟩)
    (c12 : PySem.W.codeIn K cd12 "_law_asked" = true)
    (k12 : PySem.W.keepIn K (.ref f12) = true)
    (a13 : PySem.W.nsIn K mainGlobals "_law_fits" = some (some (.ref f13)))
    (l13 : K.lookup f13 = some ⟨oc13, od13, .func (PySem.W.fnOf "_law_fits" "_law_fits" (defArgs s_law_fits) (defBody s_law_fits) (defScope s_law_fits) .none kV13 dc13 pm13 an13 cd13 ct13), sl13⟩)
    (c13 : PySem.W.codeIn K cd13 "_law_fits" = true)
    (k13 : PySem.W.keepIn K (.ref f13) = true)
    (a14 : PySem.W.nsIn K mainGlobals "_law_all" = some (some (.ref f14)))
    (l14 : K.lookup f14 = some ⟨oc14, od14, .func (PySem.W.fnOf "_law_all" "_law_all" (defArgs s_law_all) (defBody s_law_all) (defScope s_law_all) .none kV14 dc14 pm14 an14 cd14 ct14), sl14⟩)
    (c14 : PySem.W.codeIn K cd14 "_law_all" = true)
    (k14 : PySem.W.keepIn K (.ref f14) = true)
    (a15 : PySem.W.nsIn K mainGlobals "_law_used" = some (some (.ref f15)))
    (l15 : K.lookup f15 = some ⟨oc15, od15, .func (PySem.W.fnOf "_law_used" "_law_used" (defArgs s_law_used) (defBody s_law_used) (defScope s_law_used) .none kV15 dc15 pm15 an15 cd15 ct15), sl15⟩)
    (c15 : PySem.W.codeIn K cd15 "_law_used" = true)
    (k15 : PySem.W.keepIn K (.ref f15) = true)
    (a16 : PySem.W.nsIn K mainGlobals "_law_ordered" = some (some (.ref f16)))
    (l16 : K.lookup f16 = some ⟨oc16, od16, .func (PySem.W.fnOf "_law_ordered" "_law_ordered" (defArgs s_law_ordered) (defBody s_law_ordered) (defScope s_law_ordered) .none kV16 dc16 pm16 an16 cd16 ct16), sl16⟩)
    (c16 : PySem.W.codeIn K cd16 "_law_ordered" = true)
    (k16 : PySem.W.keepIn K (.ref f16) = true)
    (a17 : PySem.W.nsIn K mainGlobals "law" = some (some (.ref f17)))
    (l17 : K.lookup f17 = some ⟨oc17, od17, .func (PySem.W.fnOf "law" "law" (defArgs s_law) (defBody s_law) (defScope s_law) .none kV17 dc17 pm17 an17 cd17 ct17), sl17⟩)
    (c17 : PySem.W.codeIn K cd17 "law" = true)
    (k17 : PySem.W.keepIn K (.ref f17) = true)
    (e_D : PySem.W.nsIn K mainGlobals "CallError" = some (some (.ref er_D)))
    (e_I : PySem.W.findIn K (.ref er_D) "__init__" = some (some (.ref er_I)))
    (e_tI : PySem.W.typeIn K (.ref er_I) = some (.type "function"))
    (e_lI : K.lookup er_I = some ⟨er_oc, er_od, .func (PySem.W.ksFn "__init__" "CallError.__init__" (erA ⟨4, 17, 4, 21⟩ ⟨4, 23, 4, 27⟩) (erB ⟨5, 8, 5, 13⟩ ⟨5, 8, 5, 15⟩ ⟨5, 8, 5, 24⟩ ⟨5, 25, 5, 29⟩ ⟨5, 8, 5, 30⟩ ⟨5, 8, 5, 30⟩ ⟨6, 8, 6, 12⟩ ⟨6, 8, 6, 17⟩ ⟨6, 20, 6, 24⟩ ⟨6, 8, 6, 24⟩) erS .none .none er_doc er_pm er_an (.ref er_cda) er_ct er_cc), er_osl⟩)
    (e_cI : PySem.W.codeIn K (.ref er_cda) "CallError.__init__" = true)
    (e_lc : K.lookup er_cda = some ⟨er_ccl, er_cdd, .fields er_vs, er_ccs⟩)
    (e_lcc : K.lookup er_cc = some ⟨er_cl, er_cld, .cell (some (.ref er_D)), er_csl⟩)
    (e_clD : PySem.W.clsIn K er_D = some er_cdD)
    (e_zs : PySem.W.nsIn K mainGlobals "super" = some none)
    (e_zy : PySem.W.nsIn K PySem.cStatics "thirdparty.any" = some none)
    (e_a_StockError : PySem.W.nsIn K mainGlobals "StockError" = some (some (.ref er_StockError)))
    (e_x_StockError : K.lookup er_StockError = some (PySem.excClassObj en_StockError eq_StockError er_StockError eN_StockError eb_StockError (.ref er_D :: PySem.HandSPX.veTail) true es_StockError eu_StockError ea_StockError ec_StockError ed_StockError e0_StockError e1_StockError e2_StockError e3_StockError e5_StockError "ValueError.__new__"))
    (e_sa_StockError : PySem.W.findIn K (.ref er_StockError) "__setattr__" = some (some (.builtin "object.__setattr__")))
    (e_ga_StockError : PySem.W.findIn K (.ref er_StockError) "__getattribute__" = some (some (.builtin "BaseException.__getattribute__")))
    (e_gg_StockError : PySem.W.findIn K (.ref er_StockError) "__getattr__" = some none)
    (e_nb_StockError : PySem.W.findIn K (.ref er_StockError) "code" = some none)
    (e_ic_StockError : PySem.W.findIn K (.ref er_StockError) "__init__" = some (some (.ref er_I)))
    (e_k_StockError : PySem.W.keepIn K (.ref er_StockError) = true)
    (e_e_StockError : PySem.W.subIn K (.ref er_StockError) (.type "BaseException") = some true)
    (e_v_StockError : PySem.W.subIn K (.ref er_StockError) (.type "ValueError") = some true)
    (e_t_StockError : PySem.W.typeIn K (.ref er_StockError) = some (.type "type"))
    (e_h_StockError : PySem.W.hasDictIn K er_StockError = true)
    (e_s_StockError : PySem.W.mroIn K er_StockError (.ref er_D) = some true)
    (y_e_StockError : PySem.W.subIn K (.ref er_StockError) (.type "BaseException") = some true)
    (y_i_StockError : PySem.W.isClsIn K er_StockError = true)
    (y_t_StockError : PySem.W.typeIn K (.ref er_StockError) = some (.type "type"))
    (y_s_StockError_StockError : PySem.W.subIn K (.ref er_StockError) (.ref er_StockError) = some true)
    (z_abs : PySem.W.nsIn K mainGlobals "abs" = some none)
    (z_all : PySem.W.nsIn K mainGlobals "all" = some none)
    (z_int : PySem.W.nsIn K mainGlobals "int" = some none)
    (z_len : PySem.W.nsIn K mainGlobals "len" = some none)
    (z_list : PySem.W.nsIn K mainGlobals "list" = some none)
    (z_max : PySem.W.nsIn K mainGlobals "max" = some none)
    (z_min : PySem.W.nsIn K mainGlobals "min" = some none)
    (z_range : PySem.W.nsIn K mainGlobals "range" = some none)
    (z_set : PySem.W.nsIn K mainGlobals "set" = some none)
    (z_sorted : PySem.W.nsIn K mainGlobals "sorted" = some none)
    (z_sum : PySem.W.nsIn K mainGlobals "sum" = some none)
    (z_tuple : PySem.W.nsIn K mainGlobals "tuple" = some none)
    (z_zip : PySem.W.nsIn K mainGlobals "zip" = some none)
    (v_hv : er_vs[2]? = some (.str er_file er_tf))
    (v_file : ((l.prog.main.file : Str) == er_file) = true)
    (v_top : (l.prog.main.scope.names.lookup ("super" : Str)).isSome = false)
    (v_ne_StockError : (Value.ref er_StockError != Value.ref er_D) = true)
    : ∃ fd : FuncData, (∀ (s : Shared) (v : Value), BindsTo s fd ⟨[v], []⟩ [("script", v)]) ∧ ∀ base : Heap, K.In base → base.Ns mainGlobals mg → FnOk l.prog w K mg base (L2.CX l.prog w) 5 fa fd ["script"] (spLaw K) := by
  have e := hfa.symm.trans (PySem.W.mg_of X G a17)
  cases e
  have F1 := fun_mk (st := s_check_takes) l1 c1 k1
  have b1 := F1.binds (ps := ["takes", "roll"]) fun _ _ _ _ _ _ us hl => match us, hl with | [_, _], _ => rfl
  have F2 := fun_mk (st := s_put_in_order) l2 c2 k2
  have b2 := F2.binds (ps := ["takes", "roll"]) fun _ _ _ _ _ _ us hl => match us, hl with | [_, _], _ => rfl
  have F3 := fun_mk (st := s_in_order) l3 c3 k3
  have b3 := F3.binds (ps := ["takes", "roll"]) fun _ _ _ _ _ _ us hl => match us, hl with | [_, _], _ => rfl
  have F4 := fun_mk (st := s_fitting) l4 c4 k4
  have b4 := F4.binds (ps := ["takes", "roll", "many"]) fun _ _ _ _ _ _ us hl => match us, hl with | [_, _, _], _ => rfl
  have F5 := fun_mk (st := s_fewest_rolls) l5 c5 k5
  have b5 := F5.binds (ps := ["takes", "roll"]) fun _ _ _ _ _ _ us hl => match us, hl with | [_, _], _ => rfl
  have F6 := fun_mk (st := s_loads) l6 c6 k6
  have b6 := F6.binds (ps := ["takes", "rolls"]) fun _ _ _ _ _ _ us hl => match us, hl with | [_, _], _ => rfl
  have F7 := fun_mk (st := s_is_fit) l7 c7 k7
  have b7 := F7.binds (ps := ["takes", "roll", "rolls"]) fun _ _ _ _ _ _ us hl => match us, hl with | [_, _, _], _ => rfl
  have F8 := fun_mk (st := s_takes_rolls) l8 c8 k8
  have b8 := F8.binds (ps := ["takes", "roll", "rolls"]) fun _ _ _ _ _ _ us hl => match us, hl with | [_, _, _], _ => rfl
  have F9 := fun_mk (st := s_short_ends) l9 c9 k9
  have b9 := F9.binds (ps := ["takes", "roll", "rolls"]) fun _ _ _ _ _ _ us hl => match us, hl with | [_, _, _], _ => rfl
  have F10 := fun_mk (st := s_law_begin) l10 c10 k10
  have b10 := F10.binds (ps := ["script"]) fun _ _ _ _ _ _ us hl => match us, hl with | [_], _ => rfl
  have F11 := fun_mk (st := s_law_take) l11 c11 k11
  have b11 := F11.binds (ps := ["d", "many"]) fun _ _ _ _ _ _ us hl => match us, hl with | [_, _], _ => rfl
  have F12 := fun_mk (st := s_law_asked) l12 c12 k12
  have b12 := F12.binds (ps := ["takes", "roll", "rolls"]) fun _ _ _ _ _ _ us hl => match us, hl with | [_, _, _], _ => rfl
  have F13 := fun_mk (st := s_law_fits) l13 c13 k13
  have b13 := F13.binds (ps := ["takes", "roll", "rolls"]) fun _ _ _ _ _ _ us hl => match us, hl with | [_, _, _], _ => rfl
  have F14 := fun_mk (st := s_law_all) l14 c14 k14
  have b14 := F14.binds (ps := ["many"]) fun _ _ _ _ _ _ us hl => match us, hl with | [_], _ => rfl
  have F15 := fun_mk (st := s_law_used) l15 c15 k15
  have b15 := F15.binds (ps := ["rolls"]) fun _ _ _ _ _ _ us hl => match us, hl with | [_], _ => rfl
  have F16 := fun_mk (st := s_law_ordered) l16 c16 k16
  have b16 := F16.binds (ps := ["takes", "roll"]) fun _ _ _ _ _ _ us hl => match us, hl with | [_, _], _ => rfl
  have F17 := fun_mk (st := s_law) l17 c17 k17
  have b17 := F17.binds (ps := ["script"]) fun _ _ _ _ _ _ us hl => match us, hl with | [_], _ => rfl
  have T_StockError : ErrTxt l.prog K mg "StockError" er_StockError er_D er_I := err_mk X G e_a_StockError e_x_StockError e_sa_StockError e_ga_StockError e_gg_StockError e_nb_StockError e_ic_StockError e_tI e_lI e_cI e_lc e_lcc e_k_StockError e_e_StockError e_v_StockError e_t_StockError e_h_StockError e_clD e_s_StockError e_zs e_zy v_ne_StockError v_hv v_file rfl v_top
  have Z : Zs l.prog K mg := ⟨PySem.W.mg_none_of X G z_abs, PySem.W.mg_none_of X G z_all, PySem.W.mg_none_of X G z_int, PySem.W.mg_none_of X G z_len, PySem.W.mg_none_of X G z_list, PySem.W.mg_none_of X G z_max, PySem.W.mg_none_of X G z_min, PySem.W.mg_none_of X G z_range, PySem.W.mg_none_of X G z_set, PySem.W.mg_none_of X G z_sorted, PySem.W.mg_none_of X G z_sum, PySem.W.mg_none_of X G z_tuple, PySem.W.mg_none_of X G z_zip, ⟨_, _, PySem.W.mg_of X G g_MOST_TAKES, (show RelV (V.int 12) (Value.int 12 kMOST_TAKES_1) from rv_int), fun μ G1 => Rep.int⟩, ⟨_, _, PySem.W.mg_of X G g_MOST_MINUTES, (show RelV (V.int 999) (Value.int 999 kMOST_MINUTES_1) from rv_int), fun μ G1 => Rep.int⟩, ⟨_, _, _, T_StockError⟩, ⟨⟨_, PySem.W.mg_of X G e_a_StockError⟩, exms_cons (exm_mk T_StockError (PySem.W.mg_of X G e_a_StockError) y_e_StockError y_i_StockError y_t_StockError y_s_StockError_StockError) (fun _ h => nomatch h)⟩⟩
  refine ⟨PySem.W.fnOf "law" "law" (defArgs s_law) (defBody s_law) (defScope s_law) .none kV17 dc17 pm17 an17 cd17 ct17, fun s v => .of_eq rfl, fun base _ _ => ?_⟩
  have M_check_takes : FnM l.prog w K mg base 2 _ _ ["takes", "roll"] m_check_takes := ok_check_takes Z F1
  have C_check_takes : Cal l.prog w K mg base "check_takes" 2 ["takes", "roll"] m_check_takes := ⟨_, _, M_check_takes, PySem.W.mg_of X G a1, k1, b1⟩
  have M_put_in_order : FnM l.prog w K mg base 1 _ _ ["takes", "roll"] m_put_in_order := ok_put_in_order Z F2
  have C_put_in_order : Cal l.prog w K mg base "put_in_order" 1 ["takes", "roll"] m_put_in_order := ⟨_, _, M_put_in_order, PySem.W.mg_of X G a2, k2, b2⟩
  have M_in_order : FnM l.prog w K mg base 3 _ _ ["takes", "roll"] m_in_order := ok_in_order Z C_check_takes C_put_in_order F3
  have C_in_order : Cal l.prog w K mg base "in_order" 3 ["takes", "roll"] m_in_order := ⟨_, _, M_in_order, PySem.W.mg_of X G a3, k3, b3⟩
  have M_fitting : FnM l.prog w K mg base 1 _ _ ["takes", "roll", "many"] m_fitting := ok_fitting Z F4
  have C_fitting : Cal l.prog w K mg base "fitting" 1 ["takes", "roll", "many"] m_fitting := ⟨_, _, M_fitting, PySem.W.mg_of X G a4, k4, b4⟩
  have M_fewest_rolls : FnM l.prog w K mg base 3 _ _ ["takes", "roll"] m_fewest_rolls := ok_fewest_rolls Z C_check_takes C_fitting F5
  have C_fewest_rolls : Cal l.prog w K mg base "fewest_rolls" 3 ["takes", "roll"] m_fewest_rolls := ⟨_, _, M_fewest_rolls, PySem.W.mg_of X G a5, k5, b5⟩
  have M_loads : FnM l.prog w K mg base 1 _ _ ["takes", "rolls"] m_loads := ok_loads Z F6
  have C_loads : Cal l.prog w K mg base "loads" 1 ["takes", "rolls"] m_loads := ⟨_, _, M_loads, PySem.W.mg_of X G a6, k6, b6⟩
  have M_is_fit : FnM l.prog w K mg base 2 _ _ ["takes", "roll", "rolls"] m_is_fit := ok_is_fit Z C_loads F7
  have C_is_fit : Cal l.prog w K mg base "is_fit" 2 ["takes", "roll", "rolls"] m_is_fit := ⟨_, _, M_is_fit, PySem.W.mg_of X G a7, k7, b7⟩
  have M_takes_rolls : FnM l.prog w K mg base 3 _ _ ["takes", "roll", "rolls"] m_takes_rolls := ok_takes_rolls Z C_check_takes C_is_fit F8
  have C_takes_rolls : Cal l.prog w K mg base "takes_rolls" 3 ["takes", "roll", "rolls"] m_takes_rolls := ⟨_, _, M_takes_rolls, PySem.W.mg_of X G a8, k8, b8⟩
  have M_short_ends : FnM l.prog w K mg base 3 _ _ ["takes", "roll", "rolls"] m_short_ends := ok_short_ends Z C_check_takes C_is_fit C_loads F9
  have C_short_ends : Cal l.prog w K mg base "short_ends" 3 ["takes", "roll", "rolls"] m_short_ends := ⟨_, _, M_short_ends, PySem.W.mg_of X G a9, k9, b9⟩
  have M_law_begin : FnM l.prog w K mg base 1 _ _ ["script"] m_law_begin := ok_law_begin Z F10
  have C_law_begin : Cal l.prog w K mg base "_law_begin" 1 ["script"] m_law_begin := ⟨_, _, M_law_begin, PySem.W.mg_of X G a10, k10, b10⟩
  have M_law_take : FnM l.prog w K mg base 1 _ _ ["d", "many"] m_law_take := ok_law_take Z F11
  have C_law_take : Cal l.prog w K mg base "_law_take" 1 ["d", "many"] m_law_take := ⟨_, _, M_law_take, PySem.W.mg_of X G a11, k11, b11⟩
  have M_law_asked : FnM l.prog w K mg base 4 _ _ ["takes", "roll", "rolls"] m_law_asked := ok_law_asked Z C_in_order C_fewest_rolls C_takes_rolls C_short_ends F12
  have C_law_asked : Cal l.prog w K mg base "_law_asked" 4 ["takes", "roll", "rolls"] m_law_asked := ⟨_, _, M_law_asked, PySem.W.mg_of X G a12, k12, b12⟩
  have M_law_fits : FnM l.prog w K mg base 1 _ _ ["takes", "roll", "rolls"] m_law_fits := ok_law_fits Z F13
  have C_law_fits : Cal l.prog w K mg base "_law_fits" 1 ["takes", "roll", "rolls"] m_law_fits := ⟨_, _, M_law_fits, PySem.W.mg_of X G a13, k13, b13⟩
  have M_law_all : FnM l.prog w K mg base 1 _ _ ["many"] m_law_all := ok_law_all Z F14
  have C_law_all : Cal l.prog w K mg base "_law_all" 1 ["many"] m_law_all := ⟨_, _, M_law_all, PySem.W.mg_of X G a14, k14, b14⟩
  have M_law_used : FnM l.prog w K mg base 1 _ _ ["rolls"] m_law_used := ok_law_used Z F15
  have C_law_used : Cal l.prog w K mg base "_law_used" 1 ["rolls"] m_law_used := ⟨_, _, M_law_used, PySem.W.mg_of X G a15, k15, b15⟩
  have M_law_ordered : FnM l.prog w K mg base 1 _ _ ["takes", "roll"] m_law_ordered := ok_law_ordered Z F16
  have C_law_ordered : Cal l.prog w K mg base "_law_ordered" 1 ["takes", "roll"] m_law_ordered := ⟨_, _, M_law_ordered, PySem.W.mg_of X G a16, k16, b16⟩
  have M_law : FnM l.prog w K mg base 5 _ _ ["script"] m_law := ok_law Z C_law_begin C_law_take C_law_ordered C_law_all C_law_fits C_law_used C_law_asked F17
  exact fin_law hm M_law
end Lk69
namespace Lk69
/-! takes on rolls: the mathematics -/
def G : Nat → Nat → List (List Nat)
  | 0, _ => [[]]
  | n + 1, u => (List.range (u + 1)).flatMap fun i => (G n (max u (i + 1))).map (i :: ·)
def um : Nat → List Nat → Nat
  | u, [] => u
  | u, i :: r => um (max u (i + 1)) r
def ld : List Int → List Nat → Nat → Int
  | t :: ts, r :: rs, j => (if r = j then t else 0) + ld ts rs j
  | _, _, _ => 0
def okF (m : Nat) : List Int → List Int → List Nat → Bool
  | [], _, [] => true
  | t :: ts, L, i :: r => decide (i < m) && (decide (t ≤ L.getD i 0) && okF m ts (L.set i (L.getD i 0 - t)) r)
  | _, _, _ => false
def S (m : Nat) : List Int → List Int → Nat → Option (List Nat)
  | [], _, _ => some []
  | t :: ts, L, u => (List.range' 0 (min m (u + 1))).findSome? fun i => if t ≤ L.getD i 0 then (S m ts (L.set i (L.getD i 0 - t)) (max u (i + 1))).map (i :: ·) else none
theorem G_len : ∀ {n u : Nat} {row : List Nat}, row ∈ G n u → row.length = n
  | 0, u, row, h => by
    unfold G at h
    rw [List.mem_singleton] at h
    subst h
    rfl
  | n + 1, u, row, h => by
    unfold G at h
    obtain ⟨i, _, h⟩ := List.mem_flatMap.mp h
    obtain ⟨r, hr, rfl⟩ := List.mem_map.mp h
    rw [List.length_cons, G_len hr]
theorem um_le : ∀ {u : Nat} {row : List Nat}, u ≤ um u row
  | u, [] => Nat.le_refl _
  | u, i :: r => Nat.le_trans (Nat.le_max_left _ _) (um_le (u := max u (i + 1)) (row := r))
theorem um_mem : ∀ {u i : Nat} {row : List Nat}, i ∈ row → i < um u row
  | u, i, [], h => by cases h
  | u, i, k :: r, h => by
    rcases List.mem_cons.mp h with rfl | h
    · exact Nat.lt_of_lt_of_le (by omega) (um_le (u := max u (i + 1)) (row := r))
    · exact um_mem (u := max u (k + 1)) h
theorem um_bd : ∀ {u m : Nat} {row : List Nat}, um u row ≤ m ↔ u ≤ m ∧ ∀ i ∈ row, i < m
  | u, m, [] => by simp [um]
  | u, m, k :: r => by
    unfold um
    rw [um_bd]
    simp only [List.mem_cons, forall_eq_or_imp]
    constructor
    · rintro ⟨h1, h2⟩; exact ⟨by omega, by omega, h2⟩
    · rintro ⟨h1, h2, h3⟩; exact ⟨by omega, h3⟩
/-- all numbers below the greatest are there -/
theorem G_all : ∀ {n u : Nat} {row : List Nat}, row ∈ G n u → ∀ j, u ≤ j → j < um u row → j ∈ row
  | 0, u, row, h => by
    unfold G at h
    rw [List.mem_singleton] at h
    subst h
    intro j h1 h2
    unfold um at h2
    omega
  | n + 1, u, row, h => by
    unfold G at h
    obtain ⟨i, hi, h⟩ := List.mem_flatMap.mp h
    obtain ⟨r, hr, rfl⟩ := List.mem_map.mp h
    intro j h1 h2
    have hi := List.mem_range.mp hi
    unfold um at h2
    by_cases e : j = i
    · subst e; exact List.mem_cons_self
    · exact List.mem_cons_of_mem _ (G_all hr j (by omega) h2)
theorem ld_no : ∀ {ts : List Int} {row : List Nat} {j : Nat}, j ∉ row → ld ts row j = 0
  | [], _, _, _ => by simp [ld]
  | _ :: _, [], _, _ => by simp [ld]
  | t :: ts, r :: rs, j, h => by
    rw [List.mem_cons, not_or] at h
    unfold ld
    rw [if_neg (fun e => h.1 e.symm), ld_no h.2]
    rfl
theorem ld_nn : ∀ {ts : List Int} {row : List Nat} {j : Nat}, (∀ t ∈ ts, 0 ≤ t) → 0 ≤ ld ts row j
  | [], _, _, _ => by simp [ld]
  | _ :: _, [], _, _ => by simp [ld]
  | t :: ts, r :: rs, j, h => by
    unfold ld
    have h1 := h t List.mem_cons_self
    have h2 := ld_nn (ts := ts) (row := rs) (j := j) fun x hx => h x (List.mem_cons_of_mem _ hx)
    split <;> omega
theorem getD_set {L : List Int} {i j : Nat} {x : Int} (hi : i < L.length) : (L.set i x).getD j 0 = if j = i then x else L.getD j 0 := by
  rw [List.getD_eq_getElem?_getD, List.getElem?_set, List.getD_eq_getElem?_getD]
  by_cases e : i = j
  · subst e; simp [hi]
  · rw [if_neg e, if_neg (fun h => e h.symm)]
theorem okF_iff {m : Nat} : ∀ {ts L : List Int} {row : List Nat}, row.length = ts.length → L.length = m → (∀ t ∈ ts, 0 ≤ t) →
    (okF m ts L row = true ↔ (∀ i ∈ row, i < m) ∧ ∀ j ∈ row, ld ts row j ≤ L.getD j 0)
  | [], L, [], _, _, _ => by simp [okF]
  | [], _, _ :: _, h, _, _ => by simp at h
  | _ :: _, _, [], h, _, _ => by simp at h
  | t :: ts, L, i :: r, hl, hm, h0 => by
    have ht := h0 t List.mem_cons_self
    have hts : ∀ t ∈ ts, 0 ≤ t := fun x hx => h0 x (List.mem_cons_of_mem _ hx)
    have ih := okF_iff (m := m) (ts := ts) (L := L.set i (L.getD i 0 - t)) (row := r) (by simpa using hl) (by simpa using hm) hts
    unfold okF
    rw [Bool.and_eq_true, Bool.and_eq_true, decide_eq_true_eq, decide_eq_true_eq, ih]
    constructor
    · rintro ⟨h1, h2, h3, h4⟩
      refine ⟨fun k hk => ?_, fun j hj => ?_⟩
      · rcases List.mem_cons.mp hk with rfl | hk
        · exact h1
        · exact h3 k hk
      · unfold ld
        by_cases e : i = j
        · subst e
          rw [if_pos rfl]
          by_cases hr : i ∈ r
          · have := h4 i hr
            rw [getD_set (by omega), if_pos rfl] at this
            omega
          · rw [ld_no hr]; omega
        · rw [if_neg e]
          rcases List.mem_cons.mp hj with rfl | hj
          · exact absurd rfl e
          · have := h4 j hj
            rw [getD_set (by omega), if_neg (fun h => e h.symm)] at this
            omega
    · rintro ⟨h1, h2⟩
      have hi := h1 i List.mem_cons_self
      have hi2 := h2 i List.mem_cons_self
      have hn := ld_nn (ts := ts) (row := r) (j := i) hts
      unfold ld at hi2
      rw [if_pos rfl] at hi2
      refine ⟨hi, by omega, fun k hk => h1 k (List.mem_cons_of_mem _ hk), fun j hj => ?_⟩
      have := h2 j (List.mem_cons_of_mem _ hj)
      unfold ld at this
      rw [getD_set (by omega)]
      by_cases e : j = i
      · subst e
        rw [if_pos rfl]
        omega
      · rw [if_neg e]
        rw [if_neg (fun h => e h.symm)] at this
        omega
theorem findSome_none {α β : Type} {f : α → Option β} : ∀ {l : List α}, (∀ x ∈ l, f x = none) → l.findSome? f = none
  | [], _ => rfl
  | x :: l, h => by
    rw [List.findSome?_cons, h x List.mem_cons_self]
    exact findSome_none fun y hy => h y (List.mem_cons_of_mem _ hy)
theorem findSome_eq {α β : Type} {f g : α → Option β} : ∀ {l : List α}, (∀ x ∈ l, f x = g x) → l.findSome? f = l.findSome? g
  | [], _ => rfl
  | x :: l, h => by
    rw [List.findSome?_cons, List.findSome?_cons, h x List.mem_cons_self, findSome_eq fun y hy => h y (List.mem_cons_of_mem _ hy)]
theorem S_find {m : Nat} : ∀ {ts L : List Int} {u : Nat}, S m ts L u = (G ts.length u).find? (okF m ts L)
  | [], L, u => by
    unfold S
    show some [] = List.find? (okF m [] L) [[]]
    rfl
  | t :: ts, L, u => by
    unfold S
    show _ = List.find? (okF m (t :: ts) L) ((List.range (u + 1)).flatMap fun i => (G ts.length (max u (i + 1))).map (i :: ·))
    rw [List.find?_flatMap]
    have e : ∀ i, ((G ts.length (max u (i + 1))).map (i :: ·)).find? (okF m (t :: ts) L) = if i < m then (if t ≤ L.getD i 0 then (S m ts (L.set i (L.getD i 0 - t)) (max u (i + 1))).map (i :: ·) else none) else none := fun i => by
      rw [List.find?_map, S_find]
      by_cases h1 : i < m
      · rw [if_pos h1]
        by_cases h2 : t ≤ L.getD i 0
        · rw [if_pos h2]
          congr 2
          funext r
          show (decide (i < m) && (decide (t ≤ L.getD i 0) && okF m ts (L.set i (L.getD i 0 - t)) r)) = _
          rw [decide_eq_true h1, decide_eq_true h2, Bool.true_and, Bool.true_and]
        · rw [if_neg h2]
          have : List.find? ((okF m (t :: ts) L) ∘ fun x => i :: x) (G ts.length (max u (i + 1))) = none := List.find?_eq_none.mpr fun r _ => by
            show ¬ okF m (t :: ts) L (i :: r) = true
            unfold okF
            intro h
            rw [Bool.and_eq_true, Bool.and_eq_true, decide_eq_true_eq, decide_eq_true_eq] at h
            exact h2 h.2.1
          rw [this]
          rfl
      · rw [if_neg h1]
        have : List.find? ((okF m (t :: ts) L) ∘ fun x => i :: x) (G ts.length (max u (i + 1))) = none := List.find?_eq_none.mpr fun r _ => by
          show ¬ okF m (t :: ts) L (i :: r) = true
          unfold okF
          intro h
          rw [Bool.and_eq_true, decide_eq_true_eq] at h
          exact h1 h.1
        rw [this]
        rfl
    rw [findSome_eq fun i _ => e i]
    have er : List.range (u + 1) = List.range' 0 (min m (u + 1)) ++ List.range' (min m (u + 1)) (u + 1 - min m (u + 1)) := by
      rw [List.range_eq_range']
      have := List.range'_append_1 (s := 0) (m := min m (u + 1)) (n := u + 1 - min m (u + 1))
      rw [Nat.zero_add] at this
      rw [this]
      congr 1
      omega
    rw [er, List.findSome?_append, findSome_none (l := List.range' (min m (u + 1)) (u + 1 - min m (u + 1))) fun i hi => by
      have := List.mem_range'_1.mp hi
      rw [if_neg (by omega)]]
    rw [Option.or_none]
    exact findSome_eq fun i hi => by
      have := List.mem_range'_1.mp hi
      rw [if_pos (show i < m by omega)]
end Lk69
namespace Lk69
open Dn
def fitb (ts : List Int) (roll : Int) (row : List Nat) : Bool := row.all fun j => decide (ld ts row j ≤ roll)
def ways (ts : List Int) (roll : Int) : List (List Nat) := (G ts.length 0).filter (fitb ts roll)
theorem find_eq {α : Type} {p q : α → Bool} : ∀ {l : List α}, (∀ x ∈ l, p x = q x) → l.find? p = l.find? q
  | [], _ => rfl
  | x :: l, h => by
    rw [List.find?_cons, List.find?_cons, h x List.mem_cons_self, find_eq fun y hy => h y (List.mem_cons_of_mem _ hy)]
section
variable {ts : List Int} {roll : Int}
theorem S_ways (h0 : ∀ t ∈ ts, 0 ≤ t) {m : Nat} : S m ts (List.replicate m roll) 0 = (ways ts roll).find? fun row => decide (um 0 row ≤ m) := by
  rw [S_find]
  unfold ways
  rw [List.find?_filter]
  refine find_eq fun row hr => ?_
  have hl := G_len hr
  have h := okF_iff (m := m) (ts := ts) (L := List.replicate m roll) (row := row) hl (by simp) h0
  rw [Bool.eq_iff_iff, h, decide_eq_true_eq, decide_eq_true_eq, um_bd]
  unfold fitb
  rw [List.all_eq_true]
  constructor
  · rintro ⟨h1, h2⟩
    refine ⟨fun j hj => ?_, Nat.zero_le _, h1⟩
    have := h2 j hj
    rw [List.getD_eq_getElem?_getD, List.getElem?_replicate, if_pos (h1 j hj), Option.getD_some] at this
    simpa using this
  · rintro ⟨h1, _, h2⟩
    refine ⟨h2, fun j hj => ?_⟩
    have := h1 j hj
    rw [List.getD_eq_getElem?_getD, List.getElem?_replicate, if_pos (h2 j hj), Option.getD_some]
    simpa using this
/-- a roll for each take -/
theorem ident_G : ∀ {n u : Nat}, List.range' u n ∈ G n u
  | 0, u => by simp [G]
  | n + 1, u => by
    unfold G
    rw [List.range'_succ]
    refine List.mem_flatMap.mpr ⟨u, List.mem_range.mpr (by omega), List.mem_map.mpr ⟨_, ?_, rfl⟩⟩
    rw [Nat.max_eq_right (by omega)]
    exact ident_G
theorem ident_ld (hr : 0 ≤ roll) : ∀ {ts : List Int} {u j : Nat}, (∀ t ∈ ts, t ≤ roll) → ld ts (List.range' u ts.length) j ≤ roll
  | [], u, j, _ => by simpa [ld] using hr
  | t :: ts, u, j, h => by
    rw [List.length_cons, List.range'_succ]
    unfold ld
    by_cases e : u = j
    · subst e
      rw [if_pos rfl, ld_no (fun hh => by have := List.mem_range'_1.mp hh; omega)]
      have := h t List.mem_cons_self
      omega
    · rw [if_neg e]
      have := ident_ld hr (ts := ts) (u := u + 1) (j := j) fun x hx => h x (List.mem_cons_of_mem _ hx)
      omega
theorem ident_way (hr : 0 ≤ roll) (h : ∀ t ∈ ts, t ≤ roll) : List.range' 0 ts.length ∈ ways ts roll := by
  unfold ways
  rw [List.mem_filter]
  refine ⟨ident_G, ?_⟩
  unfold fitb
  rw [List.all_eq_true]
  intro j _
  exact decide_eq_true (ident_ld hr h)
/-! the sum -/
def sumT : Nat → (Nat → Int) → Int
  | 0, _ => 0
  | M + 1, f => sumT M f + f M
theorem sumT_add {f g : Nat → Int} : ∀ M, sumT M (fun j => f j + g j) = sumT M f + sumT M g
  | 0 => rfl
  | M + 1 => by
    show sumT M (fun j => f j + g j) + (f M + g M) = sumT M f + f M + (sumT M g + g M)
    rw [sumT_add M]
    omega
theorem sumT_one {r : Nat} {t : Int} : ∀ M, sumT M (fun j => if r = j then t else 0) = if r < M then t else 0
  | 0 => by simp [sumT]
  | M + 1 => by
    show sumT M (fun j => if r = j then t else 0) + (if r = M then t else 0) = _
    rw [sumT_one M]
    by_cases h : r < M
    · rw [if_pos h, if_neg (by omega), if_pos (by omega)]; omega
    · by_cases e : r = M
      · rw [if_neg h, if_pos e, if_pos (by omega)]; omega
      · rw [if_neg h, if_neg e, if_neg (by omega)]; omega
theorem sumT_zero : ∀ M, sumT M (fun _ => 0) = 0
  | 0 => rfl
  | M + 1 => by unfold sumT; rw [sumT_zero M]; rfl
theorem sumT_le {f : Nat → Int} {c : Int} : ∀ M, (∀ j, f j ≤ c) → sumT M f ≤ (M : Int) * c
  | 0, _ => by simp [sumT]
  | M + 1, h => by
    unfold sumT
    have h1 := sumT_le M h
    have h2 := h M
    have e : ((M + 1 : Nat) : Int) * c = (M : Int) * c + c := by
      rw [Int.natCast_add, Int.add_mul]
      simp
    omega
theorem sum_ld {M : Nat} : ∀ {ts : List Int} {row : List Nat}, row.length = ts.length → (∀ i ∈ row, i < M) → sumT M (ld ts row) = ts.sum
  | [], row, _, _ => by
    have : (ld [] row) = fun _ => 0 := by funext j; simp [ld]
    rw [this, sumT_zero]
    rfl
  | _ :: _, [], h, _ => by simp at h
  | t :: ts, r :: rs, h, hb => by
    have : (ld (t :: ts) (r :: rs)) = fun j => (if r = j then t else 0) + ld ts rs j := by funext j; rfl
    rw [this, sumT_add, sumT_one, if_pos (hb r List.mem_cons_self), sum_ld (by simpa using h) fun i hi => hb i (List.mem_cons_of_mem _ hi), List.sum_cons]
theorem fit_all (hr : 0 ≤ roll) {row : List Nat} (hf : fitb ts roll row = true) (j : Nat) : ld ts row j ≤ roll := by
  by_cases hj : j ∈ row
  · unfold fitb at hf
    have := List.all_eq_true.mp hf j hj
    simpa using this
  · rw [ld_no hj]; exact hr
theorem way_sum (hr : 0 ≤ roll) {row : List Nat} (h : row ∈ ways ts roll) : ts.sum ≤ (um 0 row : Int) * roll := by
  unfold ways at h
  rw [List.mem_filter] at h
  rw [← sum_ld (G_len h.1) fun i hi => um_mem hi]
  exact sumT_le _ fun j => fit_all hr h.2 j
/-! the least number -/
theorem least_of {α : Type} {f : α → Nat} : ∀ {l : List α}, l ≠ [] → ∃ x ∈ l, ∀ y ∈ l, f x ≤ f y
  | [], h => absurd rfl h
  | [x], _ => ⟨x, by simp, by simp⟩
  | x :: y :: l, _ => by
    obtain ⟨z, hz, hm⟩ := least_of (f := f) (l := y :: l) (by simp)
    by_cases h : f x ≤ f z
    · refine ⟨x, by simp, fun w hw => ?_⟩
      rcases List.mem_cons.mp hw with rfl | hw
      · exact Nat.le_refl _
      · exact Nat.le_trans h (hm w hw)
    · refine ⟨z, List.mem_cons_of_mem _ hz, fun w hw => ?_⟩
      rcases List.mem_cons.mp hw with rfl | hw
      · omega
      · exact hm w hw
theorem find_head {α : Type} {p : α → Bool} {l : List α} : (l.filter p)[0]? = l.find? p := by
  induction l with
  | nil => rfl
  | cons x l ih =>
    rw [List.filter_cons, List.find?_cons]
    cases h : p x
    · simpa using ih
    · simp
structure Few (ts : List Int) (roll : Int) (M : Nat) (F : List Nat) : Prop where
  low : ∀ w ∈ ways ts roll, M ≤ um 0 w
  mem : F ∈ ways ts roll
  use : um 0 F = M
  head : ((ways ts roll).filter fun w => decide (um 0 w = M))[0]? = some F
  some : S M ts (List.replicate M roll) 0 = some F
  none : ∀ m, m < M → S m ts (List.replicate m roll) 0 = none
  sum : ts.sum ≤ (M : Int) * roll
theorem few_ex (hr : 0 ≤ roll) (h0 : ∀ t ∈ ts, 0 ≤ t) (h : ∀ t ∈ ts, t ≤ roll) : ∃ M F, Few ts roll M F := by
  obtain ⟨x, hx, hm⟩ := least_of (f := um 0) (l := ways ts roll) (List.ne_nil_of_mem (ident_way hr h))
  have e1 : (ways ts roll).find? (fun w => decide (um 0 w = um 0 x)) = (ways ts roll).find? fun row => decide (um 0 row ≤ um 0 x) := find_eq fun w hw => by
    have := hm w hw
    rw [Bool.eq_iff_iff, decide_eq_true_eq, decide_eq_true_eq]
    omega
  cases hf : (ways ts roll).find? (fun w => decide (um 0 w = um 0 x)) with
  | none =>
    have := List.find?_eq_none.mp hf x hx
    simp at this
  | some F =>
    have hF := List.mem_of_find?_eq_some hf
    have hu := List.find?_some hf
    rw [decide_eq_true_eq] at hu
    refine ⟨um 0 x, F, hm, hF, hu, by rw [find_head, hf], by rw [S_ways h0, ← e1, hf], fun m hlt => ?_, way_sum hr hx⟩
    rw [S_ways h0, List.find?_eq_none]
    intro w hw
    have := hm w hw
    simp
    omega
end
end Lk69
namespace Lk69
open Dn
/-! in order: the greedy way -/
def gr (roll : Int) : List Int → Nat → Int → List Nat
  | [], _, _ => []
  | t :: ts, n, l => if l < t then (n + 1) :: gr roll ts (n + 1) (roll - t) else n :: gr roll ts n (l - t)
section
variable {roll : Int}
theorem mem_G {n u i : Nat} {r : List Nat} (hi : i ≤ u) (hr : r ∈ G n (max u (i + 1))) : i :: r ∈ G (n + 1) u := List.mem_flatMap.mpr ⟨i, List.mem_range.mpr (by omega), List.mem_map.mpr ⟨r, hr, rfl⟩⟩
theorem gr_len : ∀ {ts : List Int} {n : Nat} {l : Int}, (gr roll ts n l).length = ts.length
  | [], _, _ => rfl
  | t :: ts, n, l => by
    unfold gr
    split
    · rw [List.length_cons, List.length_cons, gr_len]
    · rw [List.length_cons, List.length_cons, gr_len]
theorem gr_ge : ∀ {ts : List Int} {n : Nat} {l : Int}, ∀ x ∈ gr roll ts n l, n ≤ x
  | [], _, _, x, h => by simp [gr] at h
  | t :: ts, n, l, x, h => by
    unfold gr at h
    split at h
    · rcases List.mem_cons.mp h with rfl | h
      · omega
      · have := gr_ge x h; omega
    · rcases List.mem_cons.mp h with rfl | h
      · omega
      · exact gr_ge x h
theorem gr_sorted : ∀ {ts : List Int} {n : Nat} {l : Int}, (gr roll ts n l).Pairwise (· ≤ ·)
  | [], _, _ => .nil
  | t :: ts, n, l => by
    unfold gr
    split
    · exact .cons (fun x hx => gr_ge x hx) gr_sorted
    · exact .cons (fun x hx => gr_ge x hx) gr_sorted
theorem gr_G1 : ∀ {ts : List Int} {n : Nat} {l : Int}, gr roll ts n l ∈ G ts.length (n + 1)
  | [], _, _ => by simp [gr, G]
  | t :: ts, n, l => by
    rw [List.length_cons]
    unfold gr
    by_cases h : l < t
    · rw [if_pos h]
      refine mem_G (by omega) ?_
      rw [Nat.max_eq_right (by omega)]
      exact gr_G1
    · rw [if_neg h]
      refine mem_G (by omega) ?_
      rw [Nat.max_eq_left (by omega)]
      exact gr_G1
theorem gr_G {ts : List Int} (h : ∀ t ∈ ts, t ≤ roll) : gr roll ts 0 roll ∈ G ts.length 0 := by
  cases ts with
  | nil => simp [gr, G]
  | cons t ts =>
    have := h t List.mem_cons_self
    rw [List.length_cons]
    unfold gr
    rw [if_neg (by omega)]
    exact mem_G (by omega) gr_G1
theorem gr_ld : ∀ {ts : List Int} {n : Nat} {l : Int}, (∀ t ∈ ts, 0 ≤ t ∧ t ≤ roll) → 0 ≤ l → 0 ≤ roll → ∀ j, ld ts (gr roll ts n l) j ≤ if j = n then l else roll
  | [], n, l, _, hl, hr, j => by
    unfold ld
    split <;> omega
  | t :: ts, n, l, h, hl, hr, j => by
    have ht := h t List.mem_cons_self
    have h' : ∀ t ∈ ts, 0 ≤ t ∧ t ≤ roll := fun x hx => h x (List.mem_cons_of_mem _ hx)
    unfold gr
    by_cases hlt : l < t
    · rw [if_pos hlt]
      have ih := gr_ld (ts := ts) (n := n + 1) (l := roll - t) h' (by omega) hr j
      unfold ld
      by_cases e : j = n
      · subst e
        rw [if_neg (by omega), if_pos rfl, ld_no fun hh => by have := gr_ge _ hh; omega]
        omega
      · rw [if_neg e]
        by_cases e2 : n + 1 = j
        · rw [if_pos e2]
          rw [if_pos e2.symm] at ih
          omega
        · rw [if_neg e2]
          rw [if_neg (fun hh => e2 hh.symm)] at ih
          omega
    · rw [if_neg hlt]
      have ih := gr_ld (ts := ts) (n := n) (l := l - t) h' (by omega) hr j
      unfold ld
      by_cases e : j = n
      · subst e
        rw [if_pos rfl, if_pos rfl]
        rw [if_pos rfl] at ih
        omega
      · rw [if_neg (fun hh => e hh.symm), if_neg e]
        rw [if_neg e] at ih
        omega
theorem gr_way {ts : List Int} (h : ∀ t ∈ ts, 0 ≤ t ∧ t ≤ roll) (hr : 0 ≤ roll) : gr roll ts 0 roll ∈ ways ts roll := by
  unfold ways
  rw [List.mem_filter]
  refine ⟨gr_G fun t ht => (h t ht).2, ?_⟩
  unfold fitb
  rw [List.all_eq_true]
  intro j _
  have := gr_ld (ts := ts) (n := 0) (l := roll) h hr hr j
  rw [decide_eq_true_eq]
  split at this <;> omega
/-- no other way in order does better -/
theorem gr_best1 : ∀ {ts : List Int} {g w : Nat} {lg lw : Int} {row : List Nat}, row ∈ G ts.length (w + 1) → row.Pairwise (· ≤ ·) → (∀ x ∈ row, w ≤ x) → ld ts row w ≤ lw → (∀ j, w < j → ld ts row j ≤ roll) → (∀ t ∈ ts, 0 ≤ t) → lw ≤ roll →
    (g < w ∨ (g = w ∧ lw ≤ lg)) → um (g + 1) (gr roll ts g lg) ≤ um (w + 1) row
  | [], g, w, lg, lw, row, hG, _, _, _, _, _, _, hs => by
    have hG : row ∈ [[]] := hG
    rw [List.mem_singleton] at hG
    subst hG
    unfold gr um
    omega
  | t :: ts, g, w, lg, lw, row, hG, hp, hw, hl, hj, h0, hlr, hs => by
    have hG : row ∈ (List.range (w + 1 + 1)).flatMap fun i => (G ts.length (max (w + 1) (i + 1))).map (i :: ·) := hG
    obtain ⟨x, hx, hG⟩ := List.mem_flatMap.mp hG
    obtain ⟨r, hr, rfl⟩ := List.mem_map.mp hG
    have hx := List.mem_range.mp hx
    have hwx := hw x List.mem_cons_self
    obtain ⟨p1, p2⟩ := List.pairwise_cons.mp hp
    have h0' : ∀ t ∈ ts, 0 ≤ t := fun y hy => h0 y (List.mem_cons_of_mem _ hy)
    have hn := fun j => ld_nn (ts := ts) (row := r) (j := j) h0'
    have ht := h0 t List.mem_cons_self
    rcases (show x = w ∨ x = w + 1 by omega) with rfl | rfl
    · -- the same roll
      rw [Nat.max_eq_left (by omega)] at hr
      unfold ld at hl
      rw [if_pos rfl] at hl
      have hj' : ∀ j, x < j → ld ts r j ≤ roll := fun j hj2 => by
        have := hj j hj2
        unfold ld at this
        rw [if_neg (by omega)] at this
        omega
      show um (g + 1) (gr roll (t :: ts) g lg) ≤ um (max (x + 1) (x + 1)) r
      rw [Nat.max_self]
      have hnx := hn x
      unfold gr
      by_cases hlt : lg < t
      · rw [if_pos hlt]
        show um (max (g + 1) (g + 1 + 1)) (gr roll ts (g + 1) (roll - t)) ≤ _
        rw [Nat.max_eq_right (by omega)]
        rcases hs with hs | ⟨rfl, hs⟩
        · refine gr_best1 (lw := lw - t) hr p2 p1 (by omega) hj' h0' (by omega) ?_
          by_cases e : g + 1 < x
          · exact .inl e
          · exact .inr ⟨by omega, by omega⟩
        · omega
      · rw [if_neg hlt]
        show um (max (g + 1) (g + 1)) (gr roll ts g (lg - t)) ≤ _
        rw [Nat.max_self]
        refine gr_best1 (lw := lw - t) hr p2 p1 (by omega) hj' h0' (by omega) ?_
        rcases hs with hs | ⟨rfl, hs⟩
        · exact .inl hs
        · exact .inr ⟨rfl, by omega⟩
    · -- the next roll
      rw [Nat.max_eq_right (by omega)] at hr
      have hl2 := hj (w + 1) (by omega)
      unfold ld at hl2
      rw [if_pos rfl] at hl2
      have hj' : ∀ j, w + 1 < j → ld ts r j ≤ roll := fun j hj2 => by
        have := hj j (by omega)
        unfold ld at this
        rw [if_neg (by omega)] at this
        omega
      show um (g + 1) (gr roll (t :: ts) g lg) ≤ um (max (w + 1) (w + 1 + 1)) r
      rw [Nat.max_eq_right (by omega)]
      unfold gr
      by_cases hlt : lg < t
      · rw [if_pos hlt]
        show um (max (g + 1) (g + 1 + 1)) (gr roll ts (g + 1) (roll - t)) ≤ _
        rw [Nat.max_eq_right (by omega)]
        refine gr_best1 (lw := roll - t) hr p2 p1 (by omega) hj' h0' (by omega) ?_
        rcases hs with hs | ⟨rfl, hs⟩
        · exact .inl (by omega)
        · exact .inr ⟨rfl, Int.le_refl _⟩
      · rw [if_neg hlt]
        show um (max (g + 1) (g + 1)) (gr roll ts g (lg - t)) ≤ _
        rw [Nat.max_self]
        refine gr_best1 (lw := roll - t) hr p2 p1 (by omega) hj' h0' (by omega) ?_
        rcases hs with hs | ⟨rfl, hs⟩
        · exact .inl (by omega)
        · exact .inl (by omega)
theorem gr_best {ts : List Int} (h : ∀ t ∈ ts, 0 ≤ t ∧ t ≤ roll) (hr : 0 ≤ roll) {row : List Nat} (hw : row ∈ ways ts roll) (hp : row.Pairwise (· ≤ ·)) : um 0 (gr roll ts 0 roll) ≤ um 0 row := by
  cases ts with
  | nil => exact Nat.zero_le _
  | cons t ts =>
    have ht := h t List.mem_cons_self
    unfold ways at hw
    rw [List.mem_filter] at hw
    obtain ⟨hG, hf⟩ := hw
    have hfa := fit_all hr hf
    have hG : row ∈ (List.range (0 + 1)).flatMap fun i => (G ts.length (max 0 (i + 1))).map (i :: ·) := hG
    obtain ⟨x, hx, hG⟩ := List.mem_flatMap.mp hG
    obtain ⟨r, hr2, rfl⟩ := List.mem_map.mp hG
    have hx := List.mem_range.mp hx
    obtain rfl : x = 0 := by omega
    obtain ⟨p1, p2⟩ := List.pairwise_cons.mp hp
    unfold gr
    rw [if_neg (by omega)]
    show um 1 (gr roll ts 0 (roll - t)) ≤ um 1 r
    refine gr_best1 (w := 0) (lw := roll - t) hr2 p2 p1 ?_ (fun j hj => ?_) (fun y hy => (h y (List.mem_cons_of_mem _ hy)).1) (by omega) (.inr ⟨rfl, Int.le_refl _⟩)
    · have := hfa 0
      unfold ld at this
      rw [if_pos rfl] at this
      omega
    · have := hfa j
      unfold ld at this
      rw [if_neg (by omega)] at this
      omega
end
/-- rolls in use -/
theorem used_um {n : Nat} {row : List Nat} (h : row ∈ G n 0) : (dd (row.map fun k : Nat => (k : Int))).length = um 0 row := by
  have p : (dd (row.map fun k : Nat => (k : Int))).Perm ((List.range (um 0 row)).map fun k : Nat => (k : Int)) := by
    refine (List.perm_ext_iff_of_nodup nd_dd (List.pairwise_map.mpr (List.nodup_range.imp fun hne e => hne (by omega)))).mpr fun i => ?_
    rw [mem_dd, List.mem_map, List.mem_map]
    constructor
    · rintro ⟨k, hk, rfl⟩
      exact ⟨k, List.mem_range.mpr (um_mem hk), rfl⟩
    · rintro ⟨k, hk, rfl⟩
      exact ⟨k, G_all h k (Nat.zero_le _) (List.mem_range.mp hk), rfl⟩
  rw [p.length_eq]
  simp
end Lk69
namespace Lk69
open PySem Dn
def encT (ts : List Int) : D := .tup (ts.map .int)
def encN (s : List Nat) : D := .tup (nats s)
def StE (c : Str) : Exn := ⟨"StockError", [("code", .str c)]⟩
def chk (ts : List Int) (roll : Int) : Option Str :=
  if 12 < ts.length then some "many" else if ¬ (1 ≤ roll ∧ roll ≤ 999) then some "roll" else if ¬ (ts.all fun t => decide (1 ≤ t) && decide (t ≤ roll)) = true then some "take" else none
theorem iadd_int {i j : Int} {st : Store} : iaddD (.int i) (.int j) st = .ok (.int (i + j)) st := rfl
theorem lf_encN (s : List Nat) : lf (encN s) = true := by
  unfold encN nats
  rw [lf_tup]
  exact lfs_map fun _ => lf_int
theorem lf_encT (s : List Int) : lf (encT s) = true := by
  unfold encT
  rw [lf_tup]
  exact lfs_ints
section
variable {ts : List Int} {roll : Int} {st : Store}
theorem check_ok (hl : ts.length ≤ 100) : m_check_takes [encT ts, .int roll] st = match chk ts roll with | none => .ok .non st | some c => .exc (StE c) st := by
  have hlen : ∀ st2, lenD [encT ts] st2 = .ok (.int (ts.length : Nat)) st2 := fun st2 => by simp [encT]
  have hc : ∀ vs2 st2, vs2 = [some (encT ts), some (.int roll), none] → eComp false (iE (eV 0)) (gN 2) (eC (.bl true)) (eChain leD leD (eC (.int 1)) (eV 2) (eV 1)) [2] vs2 st2 = .ok (.lst ((ts.map fun t => decide (1 ≤ t) && decide (t ≤ roll)).map .bl)) st2 := fun vs2 st2 e => by
    subst e
    refine wp_eq ?_
    simp [eComp_wp, encT]
    refine ⟨by omega, ?_⟩
    rw [compGo_map (h := fun t => .bl (decide (1 ≤ t) && decide (t ≤ roll))) trivial fun x hx => ⟨_, rfl, by
      by_cases hx0 : 1 ≤ x <;> simp [hx0]⟩]
    simp
  have hall : ∀ st2, allD [.lst ((ts.map fun t => decide (1 ≤ t) && decide (t ≤ roll)).map .bl)] st2 = .ok (.bl (ts.all fun t => decide (1 ≤ t) && decide (t ≤ roll))) st2 := fun st2 => by
    show opt ((lstOf st2 (.lst _)).bind blsOf) _ = _
    have : (lstOf st2 (.lst ((ts.map fun t => decide (1 ≤ t) && decide (t ≤ roll)).map D.bl))).bind blsOf = some (ts.map fun t => decide (1 ≤ t) && decide (t ≤ roll)) := by
      show blsOf _ = _
      rw [List.map_map]
      exact blsOf_bls (f := fun t => decide (1 ≤ t) && decide (t ≤ roll)) (xs := ts)
    rw [this]
    show Re.ok (D.bl ((ts.map fun t => decide (1 ≤ t) && decide (t ≤ roll)).all id)) st2 = _
    rw [List.all_map]
    rfl
  unfold chk
  generalize (ts.map fun t => decide (1 ≤ t) && decide (t ≤ roll)).map D.bl = LB at *
  generalize (ts.all fun t => decide (1 ≤ t) && decide (t ≤ roll)) = p at *
  generalize encT ts = T at *
  generalize ts.length = n at *
  by_cases h1 : 12 < n
  · have h1i : (12 : Int) < (n : Nat) := by omega
    rw [if_pos h1]
    show _ = Re.exc (StE "many") st
    unfold StE
    refine wpX_eq ?_
    unfold m_check_takes
    rw [wpX_fnD]
    unfold b_check_takes
    simp [hlen, d_MOST_TAKES, h1i]
  · have h1i : ¬ (12 : Int) < (n : Nat) := by omega
    rw [if_neg h1]
    by_cases h2 : 1 ≤ roll ∧ roll ≤ 999
    · rw [if_neg (not_not_intro h2)]
      cases p with
      | false =>
        rw [if_pos (by simp)]
        show _ = Re.exc (StE "take") st
        unfold StE
        refine wpX_eq ?_
        unfold m_check_takes
        rw [wpX_fnD]
        unfold b_check_takes
        simp [hlen, d_MOST_TAKES, d_MOST_MINUTES, h1i, h2.1, h2.2, hc, hall]
      | true =>
        rw [if_neg (by simp)]
        show _ = Re.ok D.non st
        refine wp_eq ?_
        unfold m_check_takes
        rw [wp_fnD]
        unfold b_check_takes
        simp [hlen, d_MOST_TAKES, d_MOST_MINUTES, h1i, h2.1, h2.2, hc, hall]
    · rw [if_pos h2]
      show _ = Re.exc (StE "roll") st
      unfold StE
      refine wpX_eq ?_
      unfold m_check_takes
      rw [wpX_fnD]
      unfold b_check_takes
      by_cases q1 : 1 ≤ roll
      · have q2 : ¬ roll ≤ 999 := fun h => h2 ⟨q1, h⟩
        simp [hlen, d_MOST_TAKES, d_MOST_MINUTES, h1i, q1, q2]
      · simp [hlen, d_MOST_TAKES, d_MOST_MINUTES, h1i, q1]
/-- the greedy rows -/
theorem put_ok (hl : ts.length ≤ 100) (h0 : ∀ t ∈ ts, t ≤ roll) : m_put_in_order [encT ts, .int roll] st = .ok (encN (gr roll ts 0 roll)) st := by
  refine wp_eq ?_
  unfold m_put_in_order
  rw [wp_fnD]
  unfold b_put_in_order
  simp
  unfold b_put_in_order_2
  simp
  unfold b_put_in_order_3
  simp
  unfold b_put_in_order_4
  simp [sFor_wp, encT]
  have hgl := gr_len (roll := roll) (ts := ts) (n := 0) (l := roll)
  obtain ⟨R, hR⟩ : ∃ R, R = gr roll ts 0 roll := ⟨_, rfl⟩
  rw [← hR] at hgl ⊢
  obtain ⟨HI, hHI⟩ : ∃ HI : List D → Vars → Store → Prop, HI = fun l vs st2 => ∃ (rest : List Int) (acc : List Nat) (n : Nat) (lf : Int), l = rest.map .int ∧ st2 = st ++ [some (.lst (nats acc))] ∧ acc ++ gr roll rest n lf = R ∧
    vs = [some (.tup (ts.map .int)), some (.int roll), some (.loc st.length), some (.int (n : Nat)), some (.int lf), none] := ⟨_, rfl⟩
  refine forGo_wp HI (fun _ _ _ _ => trivial) (fun d l vs st2 hI => ?_) (fun vs st2 hI => ?_) _ _ _ (by rw [hHI]; exact ⟨ts, [], 0, roll, rfl, rfl, by rw [hR]; rfl, rfl⟩)
  · rw [hHI] at hI
    obtain ⟨rest, acc, n, lf, hj, rfl, hacc, rfl⟩ := hI
    cases rest with
    | nil => simp at hj
    | cons t rest =>
      rw [List.map_cons] at hj
      injection hj with e1 e2
      subst e1 e2
      refine ⟨_, rfl, ?_⟩
      have hal : acc.length + 1 ≤ 100 := by
        have := congrArg List.length hacc
        rw [List.length_append, gr_len, List.length_cons] at this
        omega
      have fin : ∀ (n' : Nat) (lf' : Int), acc ++ [n'] ++ gr roll rest n' lf' = R → HI (rest.map .int) [some (.tup (ts.map .int)), some (.int roll), some (.loc st.length), some (.int (n' : Nat)), some (.int lf'), none] (st ++ [some (.lst (nats (acc ++ [n'])))]) := fun n' lf' e => by
        rw [hHI]
        exact ⟨rest, acc ++ [n'], n', lf', rfl, rfl, e, rfl⟩
      clear hHI
      have na : (nats acc).length = acc.length := by simp [nats]
      have nap : ∀ k : Nat, nats (acc ++ [k]) = nats acc ++ [.int (k : Nat)] := fun k => by simp [nats]
      unfold gr at hacc
      unfold b_put_in_order_5
      by_cases hlt : lf < t
      · rw [if_pos hlt] at hacc
        have f := fin (n + 1) (roll - t) (by rw [← hacc]; simp)
        rw [nap] at f
        generalize nats acc = NA at *
        simp [hlt]
        unfold b_put_in_order_6
        simp [iadd_int]
        unfold b_put_in_order_7
        simp
        unfold b_put_in_order_8
        simp
        rw [if_pos (by omega)]
        simp
        unfold b_put_in_order_9
        simp
        simpa using f
      · rw [if_neg hlt] at hacc
        have f := fin n (lf - t) (by rw [← hacc]; simp)
        rw [nap] at f
        generalize nats acc = NA at *
        simp [hlt]
        unfold b_put_in_order_8
        simp
        rw [if_pos (by omega)]
        simp
        unfold b_put_in_order_9
        simp
        simpa using f
  · rw [hHI] at hI
    obtain ⟨rest, acc, n, lf, hj, rfl, hacc, rfl⟩ := hI
    clear hHI
    have : rest = [] := by simpa using hj.symm
    subst this
    have e : acc = R := by rw [← hacc]; simp [gr]
    subst e
    have lfd := lf_encN acc
    unfold encN at lfd ⊢
    have na : (nats acc).length = acc.length := by simp [nats]
    generalize nats acc = NA at *
    unfold b_put_in_order_10
    simp [lfd]
end
end Lk69
namespace Lk69
open PySem Dn
theorem while_unf {c : EM} {b : SM} {vs : Vars} {st : Store} {P : Po} (hc : c vs st = .ok (.bl true) st) (hb : wpS (b vs st) ⟨fun vs2 st2 => wpS (sWhile c b vs2 st2) P, P.r, fun vs2 st2 => P.n vs2 st2, fun vs2 st2 => wpS (sWhile c b vs2 st2) P⟩) : wpS (sWhile c b vs st) P := by
  cases h : b vs st with
  | nx vs2 st2 => rw [h] at hb; rw [sWhile_turn hc h]; exact hb.of
  | ct vs2 st2 => rw [h] at hb; rw [sWhile_ct hc h]; exact hb.of
  | brk vs2 st2 => rw [h] at hb; rw [sWhile_brk hc h]; exact ⟨hb.of⟩
  | ret d2 st2 => rw [h] at hb; rw [sWhile_ret hc h]; exact ⟨hb.of⟩
  | bad => rw [h] at hb; exact hb.of.elim
  | exc e vs2 st2 => rw [h] at hb; exact hb.of.elim
theorem while_stop {c : EM} {b : SM} {vs : Vars} {st : Store} {P : Po} (hc : c vs st = .ok (.bl false) st) (h : P.n vs st) : wpS (sWhile c b vs st) P := by
  rw [sWhile_end hc]
  exact ⟨h⟩
theorem um_at : ∀ {u : Nat} {row : List Nat}, um u row = u ∨ ∃ i ∈ row, um u row = i + 1
  | u, [] => .inl rfl
  | u, k :: r => by
    unfold um
    rcases um_at (u := max u (k + 1)) (row := r) with h | ⟨i, hi, h⟩
    · rw [h]
      by_cases e : u ≤ k + 1
      · exact .inr ⟨k, List.mem_cons_self, by omega⟩
      · exact .inl (by omega)
    · exact .inr ⟨i, List.mem_cons_of_mem _ hi, h⟩
theorem um_app : ∀ {u x : Nat} {row : List Nat}, um u (row ++ [x]) = max (um u row) (x + 1)
  | u, x, [] => rfl
  | u, x, k :: r => um_app (u := max u (k + 1)) (row := r)
theorem max_rows (rs : List Nat) : maxI ((rs.map fun k : Nat => (k : Int)) ++ [-1]) = (um 0 rs : Int) - 1 := by
  refine (max_uniq ?_ fun y hy => ?_).symm
  · rcases um_at (u := 0) (row := rs) with h | ⟨i, hi, h⟩
    · rw [h]; simp
    · rw [h]
      refine List.mem_append_left _ (List.mem_map.mpr ⟨i, hi, by omega⟩)
  · rcases List.mem_append.mp hy with hy | hy
    · obtain ⟨k, hk, rfl⟩ := List.mem_map.mp hy
      have := um_mem (u := 0) hk
      omega
    · rw [List.mem_singleton] at hy
      omega
/-- the places of rolls and lefts -/
structure Pl (σ : List Nat → List Int → Store) (p q : Nat) : Prop where
  hp : ∀ rs L, lstAt (σ rs L) p = some (nats rs)
  hq : ∀ rs L, lstAt (σ rs L) q = some (L.map .int)
  sp : ∀ rs L rs', (σ rs L).set p (some (.lst (nats rs'))) = σ rs' L
  sq : ∀ rs L L', (σ rs L).set q (some (.lst (L'.map .int))) = σ rs L'
section
variable {σ : List Nat → List Int → Store} {p q : Nat} {ts : List Int} {m : Nat} {P : Po} {R : D}
abbrev fv (ts : List Int) (R : D) (m p q : Nat) (k : Nat) (x6 x7 : Option D) : Vars := [some (encT ts), some R, some (.int (m : Nat)), some (.loc p), some (.loc q), some (.int (k : Nat)), x6, x7]
theorem ix_q (hs : Pl σ p q) {rs : List Nat} {L : List Int} {k : Nat} (hk : k < L.length) : ixA (.loc q) (.int (k : Nat)) (σ rs L) = .ok (.int (L.getD k 0)) (σ rs L) := by
  rw [ixA_loc (hs.hq rs L), List.getD_eq_getElem?_getD, List.getElem?_eq_getElem hk]
  simp [hk]
theorem fit_inner (hs : Pl σ p q) {rs : List Nat} {L : List Int} {t : Int} {mo : Nat} (hmo : mo ≤ L.length) : ∀ (j k : Nat), mo - k = j → k ≤ mo →
    (∀ k', k ≤ k' → k' ≤ mo → (∀ i, k ≤ i → i < k' → L.getD i 0 < t) → (k' = mo ∨ (k' < mo ∧ t ≤ L.getD k' 0)) → P.n (fv ts R m p q k' (some (.int t)) (some (.int (mo : Nat)))) (σ rs L)) →
    wpS (sWhile (eAnd (e2 ltD (eV 5) (eV 7)) (e2 ltD (e2 ixA (eV 4) (eV 5)) (eV 6))) (b_fitting_8) (fv ts R m p q k (some (.int t)) (some (.int (mo : Nat)))) (σ rs L)) P := by
  intro j
  induction j with
  | zero =>
    intro k hj hk h
    obtain rfl : k = mo := by omega
    refine while_stop ?_ (h k (Nat.le_refl _) (Nat.le_refl _) (fun i h1 h2 => by omega) (.inl rfl))
    refine wp_eq ?_
    generalize encT ts = T
    generalize σ rs L = s
    simp
  | succ j ih =>
    intro k hj hk h
    have hlt : k < mo := by omega
    have hix := ix_q hs (rs := rs) (L := L) (k := k) (by omega)
    by_cases ht : L.getD k 0 < t
    · refine while_unf ?_ ?_
      · refine wp_eq ?_
        generalize L.getD k 0 = z at *
        generalize encT ts = T
        generalize σ rs L = s at *
        simp [hlt, hix, ht]
      · have := ih (k + 1) (by omega) (by omega) fun k' h1 h2 h3 h4 => h k' (by omega) h2 (fun i hi1 hi2 => by
          by_cases e : i = k
          · subst e; exact ht
          · exact h3 i (by omega) hi2) h4
        unfold b_fitting_8
        generalize encT ts = T at *
        generalize σ rs L = s at *
        simp [iadd_int]
        exact this
    · refine while_stop ?_ (h k (Nat.le_refl _) hk (fun i h1 h2 => by omega) (.inr ⟨hlt, by omega⟩))
      refine wp_eq ?_
      generalize L.getD k 0 = z at *
      generalize encT ts = T
      generalize σ rs L = s at *
      simp [hlt, hix, ht]
end
end Lk69
namespace Lk69
open PySem Dn
def Tf (m : Nat) : List Int → List Int → Nat → Nat → Option (List Nat)
  | [], _, _, _ => some []
  | t :: ts, L, u, k => (List.range' k (min m (u + 1) - k)).findSome? fun i => if t ≤ L.getD i 0 then (S m ts (L.set i (L.getD i 0 - t)) (max u (i + 1))).map (i :: ·) else none
theorem Tf_cons {m : Nat} {t : Int} {ts L : List Int} {u k : Nat} : Tf m (t :: ts) L u k = (List.range' k (min m (u + 1) - k)).findSome? fun i => if t ≤ L.getD i 0 then (S m ts (L.set i (L.getD i 0 - t)) (max u (i + 1))).map (i :: ·) else none := rfl
theorem S_Tf {m : Nat} : ∀ {ts L : List Int} {u : Nat}, S m ts L u = Tf m ts L u 0
  | [], _, _ => rfl
  | t :: ts, L, u => by
    rw [Tf_cons, Nat.sub_zero]
    rfl
theorem Tf_skip {m : Nat} {t : Int} {ts L : List Int} {u : Nat} : ∀ (j k k' : Nat), k' - k = j → k ≤ k' → k' ≤ min m (u + 1) → (∀ i, k ≤ i → i < k' → L.getD i 0 < t) → Tf m (t :: ts) L u k = Tf m (t :: ts) L u k' := by
  intro j
  induction j with
  | zero =>
    intro k k' h1 h2 h3 h4
    obtain rfl : k = k' := by omega
    rfl
  | succ j ih =>
    intro k k' h1 h2 h3 h4
    rw [← ih (k + 1) k' (by omega) (by omega) h3 fun i hi1 hi2 => h4 i (by omega) hi2]
    rw [Tf_cons, Tf_cons, show min m (u + 1) - k = (min m (u + 1) - (k + 1)) + 1 by omega, List.range'_succ, List.findSome?_cons, if_neg (by have := h4 k (Nat.le_refl _) (by omega); omega)]
theorem Tf_hit {m : Nat} {t : Int} {ts L : List Int} {u k : Nat} (hk : k < min m (u + 1)) (ht : t ≤ L.getD k 0) : Tf m (t :: ts) L u k = match Tf m ts (L.set k (L.getD k 0 - t)) (max u (k + 1)) 0 with | some r => some (k :: r) | none => Tf m (t :: ts) L u (k + 1) := by
  rw [← S_Tf]
  conv => lhs; rw [Tf_cons]
  rw [show min m (u + 1) - k = (min m (u + 1) - (k + 1)) + 1 by omega, List.range'_succ, List.findSome?_cons, if_pos ht]
  cases S m ts (L.set k (L.getD k 0 - t)) (max u (k + 1)) with
  | some r => rfl
  | none => rfl
theorem Tf_end {m : Nat} {t : Int} {ts L : List Int} {u k : Nat} (hk : min m (u + 1) ≤ k) : Tf m (t :: ts) L u k = none := by
  rw [Tf_cons, show min m (u + 1) - k = 0 by omega]
  rfl
section
variable {σ : List Nat → List Int → Store} {p q : Nat} {ts : List Int} {m : Nat} {P : Po} {R : D}
noncomputable abbrev fcnd : EM := e2 ltD (eN lenD (aCons (eV 3) (aNil))) (eN lenD (aCons (eV 0) (aNil)))
def W (σ : List Nat → List Int → Store) (p q : Nat) (ts : List Int) (m : Nat) (P : Po) (R : D) (rs : List Nat) (L : List Int) (k : Nat) : Prop := ∀ x6 x7, wpS (sWhile fcnd (b_fitting_5) (fv ts R m p q k x6 x7) (σ rs L)) P
theorem len_p (hs : Pl σ p q) {rs : List Nat} {L : List Int} (hl : rs.length ≤ 1000) : lenD [.loc p] (σ rs L) = .ok (.int (rs.length : Nat)) (σ rs L) := by
  have : (nats rs).length = rs.length := by simp [nats]
  rw [← this]
  refine wp_eq ?_
  have h := hs.hp rs L
  have hc := lstAt_cell h
  generalize σ rs L = s at *
  generalize nats rs = NR at *
  simp [lenB, hc]
theorem fcnd_ok (hs : Pl σ p q) {rs : List Nat} {L : List Int} {k : Nat} {x6 x7 : Option D} (hl : rs.length ≤ 1000) (ht : ts.length ≤ 1000) : fcnd (fv ts R m p q k x6 x7) (σ rs L) = .ok (.bl (decide (rs.length < ts.length))) (σ rs L) := by
  have h := len_p hs (L := L) hl
  have h2 : ∀ st2, lenD [encT ts] st2 = .ok (.int (ts.length : Nat)) st2 := fun st2 => by simp [encT]
  refine wp_eq ?_
  unfold fv
  generalize encT ts = T at *
  generalize σ rs L = s at *
  simp [h, h2]
end
end Lk69
namespace Lk69
open PySem Dn
section
variable {σ : List Nat → List Int → Store} {p q : Nat} {ts : List Int} {m : Nat} {P : Po} {R : D}
theorem nats_app {rs : List Nat} {k : Nat} : nats (rs ++ [k]) = nats rs ++ [.int (k : Nat)] := by simp [nats]
theorem nats_len {rs : List Nat} : (nats rs).length = rs.length := by simp [nats]
theorem map_get {L : List Int} {k : Nat} (hk : k < L.length) : (L.map D.int)[k]? = some (.int (L.getD k 0)) := by
  rw [List.getElem?_map, List.getD_eq_getElem?_getD, List.getElem?_eq_getElem hk]
  rfl
theorem ty_loc {s : Store} {n : Nat} {ds : List D} (h : lstAt s n = some ds) : tyD "list" s (.loc n) = true := by
  have hc := lstAt_cell h
  simp [tyD, hc, h]
theorem b9_push (hs : Pl σ p q) {rs : List Nat} {L : List Int} {t : Int} {k mo : Nat} (hk : k < mo) (hL : k < L.length) (hL2 : L.length ≤ 1000) (hl : rs.length ≤ 1000)
    (h : P.n (fv ts R m p q 0 (some (.int t)) (some (.int (mo : Nat)))) (σ (rs ++ [k]) (L.set k (L.getD k 0 - t)))) :
    wpS (b_fitting_9 (fv ts R m p q k (some (.int t)) (some (.int (mo : Nat)))) (σ rs L)) P := by
  have ap : appendD (.loc p) [.int (k : Nat)] (σ rs L) = .ok .non (σ (rs ++ [k]) L) := by
    show opt (lstAt (σ rs L) p) _ = _
    rw [hs.hp rs L]
    show (if room ((nats rs).length + 1) then Re.ok D.non ((σ rs L).set p (some (.lst (nats rs ++ [.int (k : Nat)])))) else .bad) = _
    rw [if_pos (by show _ ≤ 1000000; rw [nats_len]; omega), ← nats_app, hs.sp]
  have hty := ty_loc (hs.hp rs L)
  have it := itemL_of (hs.hq (rs ++ [k]) L) (map_get hL) (by simp; omega)
  have sd := setD_of (d := .int (L.getD k 0 - t)) (hs.hq (rs ++ [k]) L) (k := k) (by simpa using hL)
  rw [show (L.map D.int).set k (.int (L.getD k 0 - t)) = (L.set k (L.getD k 0 - t)).map .int by rw [List.map_set], hs.sq] at sd
  unfold fv at *
  generalize encT ts = T at *
  generalize L.getD k 0 = z at *
  generalize σ rs L = s0 at *
  generalize σ (rs ++ [k]) L = s1 at *
  generalize σ (rs ++ [k]) (L.set k (z - t)) = s2 at *
  unfold b_fitting_9
  simp [hk]
  unfold b_fitting_10
  simp [-append_eq, hty, ap]
  unfold b_fitting_11
  simp [it, sd]
  unfold b_fitting_12
  simp
  exact h
theorem b9_pop (hs : Pl σ p q) {rs : List Nat} {L : List Int} {t t0 : Int} {x mo : Nat} (hL : x < L.length) (hL2 : L.length ≤ 1000) (hl : rs.length ≤ 1000) (hts : ts.length ≤ 1000) (ht : ts[rs.length]? = some t0)
    (h : P.n (fv ts R m p q (x + 1) (some (.int t)) (some (.int (mo : Nat)))) (σ rs (L.set x (L.getD x 0 + t0)))) :
    wpS (b_fitting_9 (fv ts R m p q mo (some (.int t)) (some (.int (mo : Nat)))) (σ (rs ++ [x]) L)) P := by
  have pp : popD (.loc p) [] (σ (rs ++ [x]) L) = .ok (.int (x : Nat)) (σ rs L) := by
    show opt (lstAt (σ (rs ++ [x]) L) p) _ = _
    rw [hs.hp]
    show opt (nats (rs ++ [x]))[(nats (rs ++ [x])).length - 1]? _ = _
    have e1 : (nats (rs ++ [x]))[(nats (rs ++ [x])).length - 1]? = some (.int (x : Nat)) := by
      rw [nats_app]
      simp
    have e2 : (nats (rs ++ [x])).dropLast = nats rs := by rw [nats_app]; simp
    rw [e1]
    show Re.ok (D.int (x : Nat)) ((σ (rs ++ [x]) L).set p (some (.lst (nats (rs ++ [x])).dropLast))) = _
    rw [e2, hs.sp]
  have hty := ty_loc (hs.hp (rs ++ [x]) L)
  have htr : truthB (σ (rs ++ [x]) L) (.loc p) = some true := by
    have hc := lstAt_cell (hs.hp (rs ++ [x]) L)
    simp [truthB, hc, nats_app]
  have it := itemL_of (hs.hq rs L) (map_get hL) (by simp; omega)
  have sd := setD_of (d := .int (L.getD x 0 + t0)) (hs.hq rs L) (k := x) (by simpa using hL)
  rw [show (L.map D.int).set x (.int (L.getD x 0 + t0)) = (L.set x (L.getD x 0 + t0)).map .int by rw [List.map_set], hs.sq] at sd
  have hln := len_p hs (rs := rs) (L := L) hl
  have ixT : ∀ st2, ixA (encT ts) (.int (rs.length : Nat)) st2 = .ok (.int t0) st2 := fun st2 => by
    unfold encT
    simp [ht]
  unfold fv at *
  generalize encT ts = T at *
  generalize L.getD x 0 = z at *
  generalize σ (rs ++ [x]) L = s0 at *
  generalize σ rs L = s1 at *
  generalize σ rs (L.set x (z + t0)) = s2 at *
  unfold b_fitting_9
  simp [htr]
  unfold b_fitting_14
  simp [hty, pp]
  unfold b_fitting_15
  simp [it, hln, ixT, iadd_int, sd]
  unfold b_fitting_16
  simp [iadd_int]
  exact h
theorem b9_none (hs : Pl σ p q) {L : List Int} {t : Int} {mo : Nat} (h : P.r .non (σ [] L)) :
    wpS (b_fitting_9 (fv ts R m p q mo (some (.int t)) (some (.int (mo : Nat)))) (σ [] L)) P := by
  have htr : truthB (σ [] L) (.loc p) = some false := by
    have hc := lstAt_cell (hs.hp [] L)
    simp [truthB, hc, nats]
  unfold fv at *
  generalize encT ts = T at *
  generalize σ [] L = s0 at *
  unfold b_fitting_9
  simp [htr]
  exact h
/-- one turn -/
theorem fit_body (hs : Pl σ p q) {rs : List Nat} {L : List Int} {t : Int} {k : Nat} {x6 x7 : Option D} (hLm : L.length = m) (hm : m ≤ 900) (hl : rs.length ≤ 900) (hts : ts.length ≤ 900) (ht : ts[rs.length]? = some t) (hk : k ≤ min m (um 0 rs + 1)) (hx : ∀ i ∈ rs, i < m)
    (h1 : ∀ k', k ≤ k' → k' < min m (um 0 rs + 1) → (∀ i, k ≤ i → i < k' → L.getD i 0 < t) → t ≤ L.getD k' 0 → ∀ x7, P.n (fv ts R m p q 0 (some (.int t)) x7) (σ (rs ++ [k']) (L.set k' (L.getD k' 0 - t))))
    (h2 : (∀ i, k ≤ i → i < min m (um 0 rs + 1) → L.getD i 0 < t) → (rs = [] ∧ P.r .non (σ [] L)) ∨ ∃ rs0 x t0, rs = rs0 ++ [x] ∧ ts[rs0.length]? = some t0 ∧ ∀ x6 x7, P.n (fv ts R m p q (x + 1) x6 x7) (σ rs0 (L.set x (L.getD x 0 + t0)))) :
    wpS (b_fitting_5 (fv ts R m p q k x6 x7) (σ rs L)) P := by
  obtain ⟨mo, hmo⟩ : ∃ mo, mo = min m (um 0 rs + 1) := ⟨_, rfl⟩
  rw [← hmo] at h1 h2 hk
  have key : wpS (b_fitting_7 (fv ts R m p q k (some (.int t)) (some (.int (mo : Nat)))) (σ rs L)) P := by
    unfold b_fitting_7
    simp only [wpS_seq, sSeq_eq]
    refine fit_inner hs (by omega) (mo - k) k rfl hk fun k' q1 q2 q3 q4 => ?_
    rcases q4 with rfl | ⟨q4, q5⟩
    · rcases h2 q3 with ⟨rfl, h⟩ | ⟨rs0, x, t0, rfl, ht0, h⟩
      · exact b9_none hs h
      · have hxm := hx x (by simp)
        rw [List.length_append] at hl
        exact b9_pop hs (by omega) (by omega) (by simp at hl; omega) (by omega) ht0 (h _ _)
    · exact b9_push hs q4 (by omega) (by omega) (by omega) (h1 k' q1 q4 q3 q5 _)
  have hln := len_p hs (rs := rs) (L := L) (by omega)
  have ixT : ∀ st2, ixA (encT ts) (.int (rs.length : Nat)) st2 = .ok (.int t) st2 := fun st2 => by
    unfold encT
    simp [ht]
  have ad : addD false (.loc p) (.lst [.int (-1)]) (σ rs L) = .ok (.lst (nats rs ++ [.int (-1)])) (σ rs L) := by
    show (match lstAt (σ rs L) p, some [D.int (-1)] with
      | some u, some w => if room (u.length + w.length) then mkNew false (u ++ w) (σ rs L) else .bad
      | _, _ => .bad) = _
    rw [hs.hp]
    show (if room ((nats rs).length + 1) then mkNew false (nats rs ++ [.int (-1)]) (σ rs L) else .bad) = _
    rw [if_pos (by show _ ≤ 1000000; rw [nats_len]; omega)]
    rfl
  obtain ⟨mx, hmx⟩ : ∃ mx : Int, mx = (um 0 rs : Int) - 1 := ⟨_, rfl⟩
  have hmax : ∀ st2, maxD [.lst (nats rs ++ [.int (-1)])] st2 = .ok (.int mx) st2 := fun st2 => by
    rw [max1_ints (L := (rs.map fun k : Nat => (k : Int)) ++ [-1]) ?_ (by simp), max_rows, hmx]
    show intsOf (nats rs ++ [.int (-1)]) = _
    have : nats rs ++ [D.int (-1)] = ((rs.map fun k : Nat => (k : Int)) ++ [-1]).map .int := by simp [nats]
    rw [this, intsOf_map']
  have hmin : ∀ st2, minB [.int (m : Nat), .int (mx + 2)] st2 = .ok (.int (mo : Nat)) st2 := fun st2 => by
    show Re.ok (D.int (if mx + 2 < (m : Int) then mx + 2 else m)) st2 = _
    congr 2
    split <;> omega
  clear h1 h2 hmx hmo
  unfold fv at *
  generalize encT ts = T at *
  generalize nats rs ++ [D.int (-1)] = NR at *
  generalize σ rs L = s0 at *
  unfold b_fitting_5
  simp [hln, ixT]
  unfold b_fitting_6
  simp [ad, hmax, hmin]
  exact key
end
end Lk69
namespace Lk69
open PySem Dn
section
variable {σ : List Nat → List Int → Store} {p q : Nat} {ts : List Int} {m : Nat} {P : Po} {R : D}
theorem fit_run (hs : Pl σ p q) (hm : m ≤ 900) (hts : ts.length ≤ 900) : ∀ (rest done : List Int) (rs : List Nat) (L : List Int), ts = done ++ rest → rs.length = done.length → L.length = m → (∀ i ∈ rs, i < m) → ∀ (j k : Nat), min m (um 0 rs + 1) - k ≤ j → k ≤ min m (um 0 rs + 1) →
    (∀ r, Tf m rest L (um 0 rs) k = some r → ∀ k' x6 x7 L', P.n (fv ts R m p q k' x6 x7) (σ (rs ++ r) L')) →
    (Tf m rest L (um 0 rs) k = none → (rs = [] ∧ ∀ L', P.r .non (σ [] L')) ∨ ∃ rs0 x t0, rs = rs0 ++ [x] ∧ ts[rs0.length]? = some t0 ∧ W σ p q ts m P R rs0 (L.set x (L.getD x 0 + t0)) (x + 1)) →
    W σ p q ts m P R rs L k
  | [], done, rs, L, hd, hl, hL, hx, j, k, _, _, h1, _ => fun x6 x7 => by
    rw [List.append_nil] at hd
    refine while_stop ?_ ?_
    · rw [fcnd_ok hs (by rw [hl, ← hd]; omega) (by omega), hl, hd]
      simp
    · have := h1 [] rfl k x6 x7 L
      rw [List.append_nil] at this
      exact this
  | t :: rest, done, rs, L, hd, hl, hL, hx, j, k, hj, hk, h1, h2 => by
    have ht : ts[rs.length]? = some t := by rw [hd, hl]; simp
    have hlt : rs.length < ts.length := by rw [hd, hl]; simp
    induction j generalizing k with
    | zero =>
      intro x6 x7
      have ek : k = min m (um 0 rs + 1) := by omega
      refine while_unf (by rw [fcnd_ok hs (by omega) (by omega), decide_eq_true hlt]) ?_
      refine fit_body hs hL hm (by omega) hts ht hk hx (fun k' q1 q2 _ _ _ => by omega) fun hsk => ?_
      rcases h2 (Tf_end (by omega)) with ⟨e, h⟩ | ⟨rs0, x, t0, e1, e2, h⟩
      · subst e; exact .inl ⟨rfl, h L⟩
      · exact .inr ⟨rs0, x, t0, e1, e2, fun x6 x7 => h x6 x7⟩
    | succ j ih =>
      intro x6 x7
      refine while_unf (by rw [fcnd_ok hs (by omega) (by omega), decide_eq_true hlt]) ?_
      refine fit_body hs hL hm (by omega) hts ht hk hx (fun k' q1 q2 q3 q4 x7' => ?_) fun hsk => ?_
      · have eT : Tf m (t :: rest) L (um 0 rs) k = Tf m (t :: rest) L (um 0 rs) k' := Tf_skip (k' - k) k k' rfl q1 (by omega) q3
        have eH := Tf_hit (ts := rest) (L := L) (u := um 0 rs) q2 q4
        have hkL : k' < L.length := by omega
        have eu : um 0 (rs ++ [k']) = max (um 0 rs) (k' + 1) := um_app
        have back : (L.set k' (L.getD k' 0 - t)).set k' ((L.set k' (L.getD k' 0 - t)).getD k' 0 + t) = L := by
          rw [getD_set hkL, if_pos rfl, List.set_set, Int.sub_add_cancel]
          rw [List.getD_eq_getElem?_getD, List.getElem?_eq_getElem hkL]
          exact List.set_getElem_self hkL
        refine fit_run hs hm hts rest (done ++ [t]) (rs ++ [k']) (L.set k' (L.getD k' 0 - t)) (by rw [hd]; simp) (by simp [hl]) (by simpa using hL) (fun i hi => ?_) (m + 1) 0 (by omega) (Nat.zero_le _) (fun r hr => ?_) (fun hr => ?_) _ _
        · rcases List.mem_append.mp hi with hi | hi
          · exact hx i hi
          · rw [List.mem_singleton] at hi; omega
        · rw [eu] at hr
          rw [hr] at eH
          have := h1 (k' :: r) (by rw [eT, eH])
          rw [List.append_assoc]
          exact this
        · rw [eu] at hr
          rw [hr] at eH
          refine .inr ⟨rs, k', t, rfl, ht, ?_⟩
          rw [back]
          refine ih (k' + 1) (by omega) (by omega) (fun r hr2 => ?_) (fun hr2 => ?_)
          · exact h1 r (by rw [eT, eH]; exact hr2)
          · exact h2 (by rw [eT, eH]; exact hr2)
      · have eT : Tf m (t :: rest) L (um 0 rs) k = Tf m (t :: rest) L (um 0 rs) (min m (um 0 rs + 1)) := Tf_skip _ k _ rfl hk (Nat.le_refl _) hsk
        rcases h2 (by rw [eT]; exact Tf_end (Nat.le_refl _)) with ⟨e, h⟩ | ⟨rs0, x, t0, e1, e2, h⟩
        · subst e; exact .inl ⟨rfl, h L⟩
        · exact .inr ⟨rs0, x, t0, e1, e2, fun x6 x7 => h x6 x7⟩
end
section
variable {ts : List Int} {roll : Int} {m : Nat} {st : Store}
def optN : Option (List Nat) → D
  | none => .non
  | some r => encN r
theorem fitting_ok (hm : m ≤ 900) (hts : ts.length ≤ 900) : m_fitting [encT ts, .int roll, .int (m : Nat)] st = .ok (optN (S m ts (List.replicate m roll) 0)) st := by
  refine wp_eq ?_
  unfold m_fitting
  rw [wp_fnD]
  unfold b_fitting
  obtain ⟨σ, hσ⟩ : ∃ σ : List Nat → List Int → Store, σ = fun rs L => st ++ [some (.lst (nats rs)), some (.lst (L.map .int))] := ⟨_, rfl⟩
  have hs : Pl σ st.length (st.length + 1) := by
    subst hσ
    refine ⟨fun rs L => by simp, fun rs L => by simp, fun rs L rs' => by simp, fun rs L L' => by simp⟩
  have hml : ∀ st2, mulD true (.lst [.int roll]) (.int (m : Nat)) st2 = .ok (.loc st2.length) (st2 ++ [some (.lst ((List.replicate m roll).map .int))]) := fun st2 => by
    have e : mulD true (.lst [.int roll]) (.int (m : Nat)) st2 = (if -(2 ^ 63) ≤ ((m : Nat) : Int) ∧ ((m : Nat) : Int) < 2 ^ 63 ∧ room (1 * ((m : Nat) : Int).toNat) then mkNew true (List.replicate ((m : Nat) : Int).toNat [D.int roll]).flatten st2 else .bad) := by
      unfold mulD
      rfl
    rw [e, if_pos ⟨by omega, by omega, by show 1 * ((m : Nat) : Int).toNat ≤ 1000000; omega⟩, Int.toNat_natCast]
    clear e
    have : (List.replicate m [D.int roll]).flatten = (List.replicate m roll).map .int := by
      induction m with
      | zero => rfl
      | succ m ih => rw [List.replicate_succ, List.flatten_cons, ih (by omega)]; rfl
    rw [this]
    rfl
  have run := fun (P : Po) h1 h2 => fit_run (σ := σ) (p := st.length) (q := st.length + 1) (ts := ts) (m := m) (P := P) (R := .int roll) hs hm hts ts [] [] (List.replicate m roll) rfl rfl (by simp) (by simp) (m + 1) 0 (by omega) (Nat.zero_le _) h1 h2
  have e0 : σ [] (List.replicate m roll) = st ++ [some (.lst []), some (.lst ((List.replicate m roll).map .int))] := by rw [hσ]; rfl
  have key : ∀ x6 x7, wpS (b_fitting_4 (fv ts (.int roll) m st.length (st.length + 1) 0 x6 x7) (σ [] (List.replicate m roll))) ⟨fun x st' => wp (gcRet st D.non st') fun x s => x = optN (S m ts (List.replicate m roll) 0) ∧ s = st, fun d st' => wp (gcRet st d st') fun x s => x = optN (S m ts (List.replicate m roll) 0) ∧ s = st, fun _ _ => False, fun _ _ => False⟩ := fun x6 x7 => by
    unfold b_fitting_4
    simp only [wpS_seq, sSeq_eq]
    refine run _ (fun r hr k' x6 x7 L' => ?_) (fun hr => ?_) x6 x7
    · rw [← S_Tf] at hr
      have hr : S m ts (List.replicate m roll) 0 = some r := hr
      have lfd := lf_encN r
      have h := hs.hp ([] ++ r) L'
      rw [hr]
      show wpS (b_fitting_19 _ _) _
      have et : tupleD [.loc st.length] (σ ([] ++ r) L') = .ok (encN r) (σ ([] ++ r) L') := by
        show opt (seqOf (σ ([] ++ r) L') (.loc st.length)) _ = _
        have : seqOf (σ ([] ++ r) L') (.loc st.length) = some (nats r) := by
          unfold seqOf
          simpa using h
        rw [this]
        rfl
      have gx : gcRet st (encN r) (σ ([] ++ r) L') = .ok (encN r) st := by
        rw [hσ]
        exact gc_app lfd
      unfold fv
      show wpS (b_fitting_19 _ _) _
      generalize encT ts = T at *
      generalize σ ([] ++ r) L' = s1 at *
      unfold b_fitting_19
      simp [et, gx]
      rfl
    · rw [← S_Tf] at hr
      have hr : S m ts (List.replicate m roll) 0 = none := hr
      refine .inl ⟨rfl, fun L' => ?_⟩
      rw [hr]
      show wp (gcRet st .non (σ [] L')) _
      have gx : gcRet st .non (σ [] L') = .ok .non st := by
        rw [hσ]
        exact gc_app rfl
      rw [gx, wp_ok]
      exact ⟨rfl, rfl⟩
  rw [e0] at key
  unfold fv at key
  generalize encT ts = T at *
  simp
  unfold b_fitting_2
  simp [hml]
  unfold b_fitting_3
  simp
  have := key none none
  simpa using this
end
end Lk69
namespace Lk69
open PySem Dn
section
variable {ts : List Int} {roll : Int} {st : Store} {M : Nat} {F : List Nat}
theorem chk_none (h : chk ts roll = none) : ts.length ≤ 12 ∧ (1 ≤ roll ∧ roll ≤ 999) ∧ ∀ t ∈ ts, 1 ≤ t ∧ t ≤ roll := by
  unfold chk at h
  split at h
  · cases h
  · split at h
    · cases h
    · split at h
      · cases h
      · rename_i h1 h2 h3
        have h3 := Decidable.not_not.mp h3
        rw [List.all_eq_true] at h3
        refine ⟨by omega, Decidable.not_not.mp h2, fun t ht => ?_⟩
        have := h3 t ht
        rw [Bool.and_eq_true, decide_eq_true_eq, decide_eq_true_eq] at this
        exact this
theorem in_order_ok (h : chk ts roll = none) : m_in_order [encT ts, .int roll] st = .ok (encN (gr roll ts 0 roll)) st := by
  obtain ⟨h1, h2, h3⟩ := chk_none h
  have hc := fun st2 => check_ok (ts := ts) (roll := roll) (st := st2) (by omega)
  rw [h] at hc
  have hp := fun st2 => put_ok (ts := ts) (roll := roll) (st := st2) (by omega) fun t ht => (h3 t ht).2
  have lfd := lf_encN (gr roll ts 0 roll)
  refine wp_eq ?_
  unfold m_in_order
  rw [wp_fnD]
  unfold b_in_order
  generalize encT ts = T at *
  generalize encN (gr roll ts 0 roll) = N at *
  simp [hc, hp, lfd]
theorem fewest_ok (h : chk ts roll = none) (hF : Few ts roll M F) (hM : M ≤ 800) : m_fewest_rolls [encT ts, .int roll] st = .ok (encN F) st := by
  obtain ⟨h1, h2, h3⟩ := chk_none h
  have hc := fun st2 => check_ok (ts := ts) (roll := roll) (st := st2) (by omega)
  rw [h] at hc
  have hs0 : 0 ≤ ts.sum := by
    have : ∀ l : List Int, (∀ t ∈ l, 1 ≤ t) → 0 ≤ l.sum := fun l => by
      induction l with
      | nil => intro _; simp
      | cons x l ih =>
        intro h
        have := h x List.mem_cons_self
        have := ih fun t ht => h t (List.mem_cons_of_mem _ ht)
        rw [List.sum_cons]
        omega
    exact this ts fun t ht => (h3 t ht).1
  have hsm := hF.sum
  obtain ⟨m0, hm0⟩ : ∃ m0 : Nat, (ts.sum + roll - 1) / roll = (m0 : Int) := ⟨((ts.sum + roll - 1) / roll).toNat, by
    have : 0 ≤ (ts.sum + roll - 1) / roll := Int.ediv_nonneg (by omega) (by omega)
    omega⟩
  have hm0M : m0 ≤ M := by
    have : (ts.sum + roll - 1) / roll < (M : Int) + 1 := by
      refine (Int.ediv_lt_iff_lt_mul (by omega)).mpr ?_
      rw [Int.add_mul]
      omega
    omega
  have fit := fun (m : Nat) (hm : m ≤ 900) (st2 : Store) => fitting_ok (ts := ts) (roll := roll) (m := m) (st := st2) hm (by omega)
  have hsum : ∀ st2, sumQ [encT ts] st2 = .ok (.int ts.sum) st2 := fun st2 => by
    unfold encT
    simp [intsOf_map']
  have lfd := lf_encN F
  have loop : ∀ (j m : Nat), M - m = j → m ≤ M → ∀ P : Po, P.n [some (encT ts), some (.int roll), some (.int (M : Nat)), some (encN F)] st →
      wpS (sWhile (e2 isD (eV 3) (eC .non)) (b_fewest_rolls_5) [some (encT ts), some (.int roll), some (.int (m : Nat)), some (optN (S m ts (List.replicate m roll) 0))] st) P := by
    intro j
    induction j with
    | zero =>
      intro m hj hm P hP
      obtain rfl : m = M := by omega
      rw [hF.some]
      refine while_stop ?_ hP
      show _ = Re.ok (D.bl false) st
      refine wp_eq ?_
      show wp (e2 isD (eV 3) (eC .non) [some (encT ts), some (.int roll), some (.int (m : Nat)), some (.tup (nats F))] st) _
      generalize nats F = NF
      simp
    | succ j ih =>
      intro m hj hm P hP
      have hnone := hF.none m (by omega)
      have := ih (m + 1) (by omega) (by omega) P hP
      have ft := fun st2 => fit (m + 1) (by omega) st2
      rw [hnone]
      generalize optN (S (m + 1) ts (List.replicate (m + 1) roll) 0) = O at *
      generalize encT ts = T at *
      refine while_unf ?_ ?_
      · show e2 isD (eV 3) (eC .non) [some T, some (.int roll), some (.int (m : Nat)), some .non] st = _
        refine wp_eq ?_
        simp
      · show wpS (b_fewest_rolls_5 [some T, some (.int roll), some (.int (m : Nat)), some .non] st) _
        unfold b_fewest_rolls_5
        simp [iadd_int]
        unfold b_fewest_rolls_6
        have e : ((m : Int) + 1) = ((m + 1 : Nat) : Int) := by omega
        rw [e]
        simp [-Int.natCast_add, ft]
        exact this
  have lp := loop (M - m0) m0 rfl hm0M
  have ft0 := fun st2 => fit m0 (by omega) st2
  have hr0 : 0 < roll ∧ roll < 1073741824 := by omega
  refine wp_eq ?_
  unfold m_fewest_rolls
  rw [wp_fnD]
  unfold b_fewest_rolls
  generalize optN (S m0 ts (List.replicate m0 roll) 0) = O at *
  generalize encT ts = T at *
  simp [hc]
  unfold b_fewest_rolls_2
  simp [-sumQ_eq, hsum, hr0, hm0]
  unfold b_fewest_rolls_3
  simp [ft0]
  unfold b_fewest_rolls_4
  simp only [wpS_seq, sSeq_eq]
  refine lp _ ?_
  show wpS (b_fewest_rolls_7 _ _) _
  generalize encN F = N at *
  unfold b_fewest_rolls_7
  simp [lfd]
end
end Lk69
namespace Lk69
open PySem Dn
def ldZ : List Int → List Int → Int → Int
  | t :: ts, r :: rs, j => (if r = j then t else 0) + ldZ ts rs j
  | _, _, _ => 0
def mxZ (rs : List Int) : Nat := if rs = [] then 0 else (maxI rs + 1).toNat
def loadsL (ts rs : List Int) : List Int := (List.range (mxZ rs)).map fun j : Nat => ldZ ts rs j
def fitZ (ts : List Int) (roll : Int) (rs : List Int) : Bool := decide (rs.length = ts.length) && (rs.all (fun r => decide (0 ≤ r)) && (loadsL ts rs).all fun l => decide (l ≤ roll))
theorem mul_rep {x : Int} {n : Nat} (hn : n ≤ 10000) {st : Store} : mulD true (.lst [.int x]) (.int (n : Nat)) st = .ok (.loc st.length) (st ++ [some (.lst ((List.replicate n x).map .int))]) := by
  have e : mulD true (.lst [.int x]) (.int (n : Nat)) st = (if -(2 ^ 63) ≤ ((n : Nat) : Int) ∧ ((n : Nat) : Int) < 2 ^ 63 ∧ room (1 * ((n : Nat) : Int).toNat) then mkNew true (List.replicate ((n : Nat) : Int).toNat [D.int x]).flatten st else .bad) := by
    unfold mulD
    rfl
  rw [e, if_pos ⟨by omega, by omega, by show 1 * ((n : Nat) : Int).toNat ≤ 1000000; omega⟩, Int.toNat_natCast]
  clear e
  have : (List.replicate n [D.int x]).flatten = (List.replicate n x).map .int := by
    induction n with
    | zero => rfl
    | succ m ih => rw [List.replicate_succ, List.flatten_cons, ih (by omega)]; rfl
  rw [this]
  rfl
theorem max_bd {rs : List Int} (h : rs ≠ []) : (∀ r ∈ rs, r ≤ maxI rs) ∧ maxI rs ∈ rs := by
  cases rs with
  | nil => exact absurd rfl h
  | cons i r =>
    obtain ⟨h1, h2⟩ := maxI_is (i := i) (r := r)
    exact ⟨h2, h1⟩
theorem mx_int {rs : List Int} (h0 : ∀ r ∈ rs, 0 ≤ r) (h : rs ≠ []) : maxI rs + 1 = (mxZ rs : Int) := by
  have := h0 _ (max_bd h).2
  unfold mxZ
  rw [if_neg h]
  omega
theorem mx_lt {rs : List Int} (h0 : ∀ r ∈ rs, 0 ≤ r) : ∀ r ∈ rs, r < (mxZ rs : Int) := fun r hr => by
  have hne : rs ≠ [] := List.ne_nil_of_mem hr
  rw [← mx_int h0 hne]
  have := (max_bd hne).1 r hr
  omega
theorem mx_le {rs : List Int} {B : Nat} (h : ∀ r ∈ rs, r < (B : Int)) : mxZ rs ≤ B := by
  unfold mxZ
  by_cases e : rs = []
  · rw [if_pos e]; omega
  · rw [if_neg e]
    have := h _ (max_bd e).2
    omega
section
variable {ts rs : List Int} {roll : Int} {st : Store}
theorem zip_ints : ∀ {t r : Int} {ts rs : List Int}, zipP ((t :: ts).map .int) ((r :: rs).map .int) = .tup [.int t, .int r] :: zipP (ts.map .int) (rs.map .int) := rfl
theorem loads_ok (hl : rs.length = ts.length) (hts : ts.length ≤ 100) (h0 : ∀ r ∈ rs, 0 ≤ r) (hB : ∀ r ∈ rs, r < 100) : m_loads [encT ts, encT rs] st = .ok (.lst ((loadsL ts rs).map .int)) st := by
  have hmx := mx_le (B := 100) hB
  have hmlt := mx_lt h0
  obtain ⟨n, hn⟩ : ∃ n, n = mxZ rs := ⟨_, rfl⟩
  have hmul := fun st2 => mul_rep (x := 0) (n := n) (by omega) (st := st2)
  rw [← hn] at hmx hmlt
  have hA : ∀ st2, (e2 (mulD true) (eLst false (aCons (eC (.int 0)) (aNil))) (eIf (eTru (eV 1)) (e2 (addD false) (eN maxT (aCons (eV 1) (aNil))) (eC (.int 1))) (eC (.int 0)))) [some (encT ts), some (encT rs), none, none, none] st2 = .ok (.loc st2.length) (st2 ++ [some (.lst ((List.replicate n 0).map .int))]) := fun st2 => by
    refine wp_eq ?_
    by_cases e : rs = []
    · have : n = 0 := by rw [hn]; unfold mxZ; rw [if_pos e]
      subst this
      have htb : ∀ st2, truthB st2 (encT rs) = some false := fun st2 => by rw [e]; rfl
      have hmul : ∀ st2, mulD true (.lst [.int 0]) (.int 0) st2 = .ok (.loc st2.length) (st2 ++ [some (.lst ((List.replicate 0 0).map .int))]) := hmul
      generalize (List.replicate 0 (0 : Int)).map D.int = RR at *
      generalize encT rs = RI at *
      simp [htb, hmul]
    · have hm := fun st2 => maxT_ints (st := st2) e
      have h2 := mx_int h0 e
      rw [← hn] at h2
      have htb : ∀ st2, truthB st2 (encT rs) = some true := fun st2 => by
        cases rs with
        | nil => exact absurd rfl e
        | cons a b => rfl
      have hm : ∀ st2, maxT [encT rs] st2 = .ok (.int (maxI rs)) st2 := hm
      generalize (List.replicate n (0 : Int)).map D.int = RR at *
      generalize encT rs = RI at *
      simp [htb, hm, h2, hmul]
  refine wp_eq ?_
  unfold m_loads
  rw [wp_fnD]
  unfold b_loads
  simp only [wpS_seq, sSeq_eq]
  have hsA : (sAsg (gN 2) (e2 (mulD true) (eLst false (aCons (eC (.int 0)) (aNil))) (eIf (eTru (eV 1)) (e2 (addD false) (eN maxT (aCons (eV 1) (aNil))) (eC (.int 1))) (eC (.int 0))))) [some (encT ts), some (encT rs), none, none, none] st = .nx [some (encT ts), some (encT rs), some (.loc st.length), none, none] (st ++ [some (.lst ((List.replicate n 0).map .int))]) := by
    simp only [sAsg_eq, hA]
    rfl
  rw [show vars 5 [encT ts, encT rs] = [some (encT ts), some (encT rs), none, none, none] from rfl, hsA]
  rw [wpS_nx]
  simp [sFor_wp, encT]
  obtain ⟨HI, hHI⟩ : ∃ HI : List D → Vars → Store → Prop, HI = fun l vs st2 => ∃ (ts' rs' L : List Int), l = zipP (ts'.map .int) (rs'.map .int) ∧ rs'.length = ts'.length ∧ (∀ r ∈ rs', 0 ≤ r ∧ r < n) ∧ L.length = n ∧ (∀ j : Nat, j < n → L.getD j 0 + ldZ ts' rs' j = ldZ ts rs j) ∧ st2 = st ++ [some (.lst (L.map .int))] ∧
    vs = [some (.tup (ts.map .int)), some (.tup (rs.map .int)), some (.loc st.length), none, none] := ⟨_, rfl⟩
  refine forGo_wp HI (fun _ _ _ _ => trivial) (fun d l vs st2 hI => ?_) (fun vs st2 hI => ?_) _ _ _ (by
    rw [hHI]
    refine ⟨ts, rs, List.replicate n 0, rfl, hl, fun r hr => ⟨h0 r hr, hmlt r hr⟩, by simp, fun j hj => ?_, by simp, rfl⟩
    rw [List.getD_eq_getElem?_getD, List.getElem?_replicate, if_pos hj]
    simp)
  · rw [hHI] at hI
    obtain ⟨ts', rs', L, hj, hlen, hrs, hLn, hL, rfl, rfl⟩ := hI
    cases ts' with
    | nil => simp [zipP] at hj
    | cons t ts' =>
      cases rs' with
      | nil => simp at hlen
      | cons r rs' =>
        rw [zip_ints] at hj
        injection hj with e1 e2
        subst e1 e2
        obtain ⟨r0, r1⟩ := hrs r List.mem_cons_self
        obtain ⟨k, rfl⟩ : ∃ k : Nat, r = (k : Nat) := ⟨r.toNat, by omega⟩
        have hk : k < L.length := by omega
        refine ⟨_, rfl, ?_⟩
        have fin : HI (zipP (ts'.map .int) (rs'.map .int)) [some (.tup (ts.map .int)), some (.tup (rs.map .int)), some (.loc st.length), none, none] (st ++ [some (.lst ((L.set k (L.getD k 0 + t)).map .int))]) := by
          rw [hHI]
          refine ⟨ts', rs', L.set k (L.getD k 0 + t), rfl, by simpa using hlen, fun r hr => hrs r (List.mem_cons_of_mem _ hr), by simpa using hLn, fun j hj => ?_, rfl, rfl⟩
          have : L.getD j 0 + ((if ((k : Nat) : Int) = (j : Nat) then t else 0) + ldZ ts' rs' j) = ldZ ts rs j := hL j hj
          rw [getD_set hk]
          by_cases e : j = k
          · subst e
            rw [if_pos rfl] at this ⊢
            omega
          · rw [if_neg e]
            rw [if_neg (by omega)] at this
            omega
        clear hHI
        have hat : lstAt (st ++ [some (.lst (L.map D.int))]) st.length = some (L.map .int) := by simp
        have it := itemL_of hat (map_get hk) (by simp; omega)
        have sd := setD_of (d := .int (L.getD k 0 + t)) hat (k := k) (by simpa using hk)
        rw [show (L.map D.int).set k (.int (L.getD k 0 + t)) = (L.set k (L.getD k 0 + t)).map .int by rw [List.map_set], show (st ++ [some (Ob.lst (L.map D.int))]).set st.length (some (Ob.lst ((L.set k (L.getD k 0 + t)).map .int))) = st ++ [some (.lst ((L.set k (L.getD k 0 + t)).map .int))] by simp] at sd
        generalize L.getD k 0 = z at *
        generalize st ++ [some (Ob.lst (L.map D.int))] = s1 at *
        generalize st ++ [some (Ob.lst ((L.set k (z + t)).map D.int))] = s2 at *
        simp [it, iadd_int, sd]
        exact fin
  · rw [hHI] at hI
    obtain ⟨ts', rs', L, hj, hlen, hrs, hLn, hL, rfl, rfl⟩ := hI
    clear hHI
    have e0 : rs' = [] := by
      cases rs' with
      | nil => rfl
      | cons r rs' =>
        cases ts' with
        | nil => simp at hlen
        | cons t ts' => rw [zip_ints] at hj; cases hj
    subst e0
    have eL : L = loadsL ts rs := by
      refine List.ext_getElem? fun j => ?_
      unfold loadsL
      rw [← hn, List.getElem?_map]
      by_cases hjn : j < n
      · have := hL j hjn
        have z0 : ldZ ts' [] j = 0 := by cases ts' <;> rfl
        rw [z0, List.getD_eq_getElem?_getD, List.getElem?_eq_getElem (by omega)] at this
        rw [List.getElem?_range hjn, List.getElem?_eq_getElem (by omega)]
        simp at this
        simp [this]
      · rw [List.getElem?_eq_none (by omega), List.getElem?_eq_none (by simp; omega)]
        rfl
    rw [eL]
    have hli : lfs ((loadsL ts rs).map D.int) = true := lfs_ints
    generalize (loadsL ts rs).map D.int = LI at *
    simp
    have := gc_lst (st0 := st) (l := [some (Ob.lst LI)]) (ds := LI) (i := 0) rfl hli
    rw [Nat.add_zero] at this
    rw [this, wp_ok]
    exact ⟨rfl, rfl⟩
end
end Lk69
namespace Lk69
open PySem Dn
section
variable {ts rs : List Int} {roll : Int} {st : Store}
theorem loadsL_len (hB : ∀ r ∈ rs, r < 100) : (loadsL ts rs).length ≤ 100 := by
  have := mx_le (B := 100) hB
  unfold loadsL
  simp
  exact this
theorem all_bls {xs : List Int} {f : Int → Bool} {st2 : Store} : allD [.lst (xs.map fun t => D.bl (f t))] st2 = .ok (.bl (xs.all f)) st2 := by
  show opt ((lstOf st2 (.lst _)).bind blsOf) _ = _
  have : (lstOf st2 (.lst (xs.map fun t => D.bl (f t)))).bind blsOf = some (xs.map f) := by
    show blsOf _ = _
    exact blsOf_bls
  rw [this]
  show Re.ok (D.bl ((xs.map f).all id)) st2 = _
  rw [List.all_map]
  rfl
theorem is_fit_ok (hts : ts.length ≤ 100) (hrs : rs.length ≤ 100) (hB : ∀ r ∈ rs, r < 100) : m_is_fit [encT ts, .int roll, encT rs] st = .ok (.bl (fitZ ts roll rs)) st := by
  have l1 : ∀ st2, lenD [encT ts] st2 = .ok (.int (ts.length : Nat)) st2 := fun st2 => by simp [encT]
  have l2 : ∀ st2, lenD [encT rs] st2 = .ok (.int (rs.length : Nat)) st2 := fun st2 => by simp [encT]
  have hc : ∀ V st2, V = [some (encT ts), some (.int roll), some (encT rs), none, none] → eComp false (iE (eV 2)) (gN 3) (eC (.bl true)) (e2 geD (eV 3) (eC (.int 0))) [3] V st2 = .ok (.lst (rs.map fun r => .bl (decide (0 ≤ r)))) st2 := fun V st2 e => by
    subst e
    refine wp_eq ?_
    simp [eComp_wp, encT]
    refine ⟨by omega, ?_⟩
    rw [compGo_map (h := fun r => .bl (decide (0 ≤ r))) trivial fun x hx => ⟨_, rfl, by simp⟩]
    simp
  have hall : ∀ st2, allD [.lst (rs.map fun r => .bl (decide (0 ≤ r)))] st2 = .ok (.bl (rs.all fun r => decide (0 ≤ r))) st2 := fun st2 => all_bls
  have hall2 : ∀ st2, allD [.lst ((loadsL ts rs).map fun r => .bl (decide (r ≤ roll)))] st2 = .ok (.bl ((loadsL ts rs).all fun r => decide (r ≤ roll))) st2 := fun st2 => all_bls
  have hn : ∀ st2, neD (.int (rs.length : Nat)) (.int (ts.length : Nat)) st2 = .ok (.bl (!decide (rs.length = ts.length))) st2 := fun st2 => by
    simp
    omega
  have hload := fun (h1 : rs.length = ts.length) (h2 : ∀ r ∈ rs, 0 ≤ r) st2 => loads_ok (st := st2) h1 hts h2 hB
  have hc2 : rs.length = ts.length → (∀ r ∈ rs, 0 ≤ r) → ∀ V st2, V = [some (encT ts), some (.int roll), some (encT rs), none, none] → eComp false (iE (eN m_loads (aCons (eV 0) (aCons (eV 2) (aNil))))) (gN 4) (eC (.bl true)) (e2 leD (eV 4) (eV 1)) [4] V st2 = .ok (.lst ((loadsL ts rs).map fun r => .bl (decide (r ≤ roll)))) st2 := fun h1 h2 V st2 e => by
    subst e
    have hld := hload h1 h2
    have hlen := loadsL_len (ts := ts) hB
    refine wp_eq ?_
    generalize encT ts = T at *
    generalize encT rs = RS at *
    simp [eComp_wp, hld]
    refine ⟨by omega, ?_⟩
    rw [compGo_map (h := fun r => .bl (decide (r ≤ roll))) trivial fun x hx => ⟨_, rfl, by simp⟩]
    simp
  clear hload
  unfold fitZ
  generalize (rs.map fun r => D.bl (decide (0 ≤ r))) = A1 at *
  generalize ((loadsL ts rs).map fun r => D.bl (decide (r ≤ roll))) = A2 at *
  generalize ((loadsL ts rs).all fun r => decide (r ≤ roll)) = b2 at *
  refine wp_eq ?_
  unfold m_is_fit
  rw [wp_fnD]
  unfold b_is_fit
  by_cases h1 : rs.length = ts.length
  · rw [decide_eq_true h1] at hn ⊢
    cases h2 : rs.all (fun r => decide (0 ≤ r)) with
    | false =>
      rw [h2] at hall
      generalize encT ts = T at *
      generalize encT rs = RS at *
      simp [l1, l2, hn, hc, hall]
    | true =>
      rw [h2] at hall
      have h2' : ∀ r ∈ rs, 0 ≤ r := fun r hr => by
        have := List.all_eq_true.mp h2 r hr
        simpa using this
      have hc2 := hc2 h1 h2'
      generalize encT ts = T at *
      generalize encT rs = RS at *
      simp [l1, l2, hn, hc, hall, hc2, hall2]
  · have e : decide (rs.length = ts.length) = false := by simpa using h1
    rw [e] at hn ⊢
    generalize encT ts = T at *
    generalize encT rs = RS at *
    simp [l1, l2, hn]
theorem takes_ok (h : chk ts roll = none) (hrs : rs.length ≤ 100) (hB : ∀ r ∈ rs, r < 100) : m_takes_rolls [encT ts, .int roll, encT rs] st = .ok (.bl (fitZ ts roll rs)) st := by
  obtain ⟨h1, h2, h3⟩ := chk_none h
  have hc := fun st2 => check_ok (ts := ts) (roll := roll) (st := st2) (by omega)
  rw [h] at hc
  have hf := fun st2 => is_fit_ok (ts := ts) (roll := roll) (st := st2) (by omega) hrs hB
  refine wp_eq ?_
  unfold m_takes_rolls
  rw [wp_fnD]
  unfold b_takes_rolls
  generalize encT ts = T at *
  generalize encT rs = RS at *
  simp [hc, hf]
def endsL (ts : List Int) (roll : Int) (rs : List Int) : List Int := (loadsL ts rs).map fun l => roll - l
theorem short_ok (h : chk ts roll = none) (hrs : rs.length ≤ 100) (hB : ∀ r ∈ rs, r < 100) : m_short_ends [encT ts, .int roll, encT rs] st = if fitZ ts roll rs = true then .ok (encT (endsL ts roll rs)) st else .exc (StE "rolls") st := by
  obtain ⟨h1, h2, h3⟩ := chk_none h
  have hc := fun st2 => check_ok (ts := ts) (roll := roll) (st := st2) (by omega)
  rw [h] at hc
  have hf := fun st2 => is_fit_ok (ts := ts) (roll := roll) (st := st2) (by omega) hrs hB
  cases hz : fitZ ts roll rs with
  | false =>
    rw [hz] at hf
    rw [if_neg (by simp)]
    unfold StE
    refine wpX_eq ?_
    unfold m_short_ends
    rw [wpX_fnD]
    unfold b_short_ends
    generalize encT ts = T at *
    generalize encT rs = RS at *
    simp [hc, hf]
  | true =>
    rw [hz] at hf
    rw [if_pos rfl]
    have hz2 := hz
    unfold fitZ at hz2
    rw [Bool.and_eq_true, Bool.and_eq_true, decide_eq_true_eq] at hz2
    have h2' : ∀ r ∈ rs, 0 ≤ r := fun r hr => by
      have := List.all_eq_true.mp hz2.2.1 r hr
      simpa using this
    have hld := fun st2 => loads_ok (st := st2) hz2.1 (by omega) h2' hB
    have hlen := loadsL_len (ts := ts) hB
    have lfd := lf_encT (endsL ts roll rs)
    have hc2 : ∀ V st2, V = [some (encT ts), some (.int roll), some (encT rs), none] → eComp false (iE (eN m_loads (aCons (eV 0) (aCons (eV 2) (aNil))))) (gN 3) (eC (.bl true)) (e2 subD (eV 1) (eV 3)) [3] V st2 = .ok (.lst ((endsL ts roll rs).map .int)) st2 := fun V st2 e => by
      subst e
      refine wp_eq ?_
      unfold endsL
      generalize encT ts = T at *
      generalize encT rs = RS at *
      simp [eComp_wp, hld]
      refine ⟨by omega, ?_⟩
      rw [compGo_map (h := fun r => .int (roll - r)) trivial fun x hx => ⟨_, rfl, by simp⟩]
      simp
    have het : ∀ st2, tupleD [.lst ((endsL ts roll rs).map .int)] st2 = .ok (encT (endsL ts roll rs)) st2 := fun st2 => rfl
    refine wp_eq ?_
    unfold m_short_ends
    rw [wp_fnD]
    unfold b_short_ends
    generalize (endsL ts roll rs).map D.int = EI at *
    generalize encT (endsL ts roll rs) = EE at *
    generalize encT ts = T at *
    generalize encT rs = RS at *
    simp [hc, hf, hc2, het, lfd]
end
end Lk69
namespace Lk69
open PySem Dn
theorem sum_at : ∀ {ts rs : List Int} {j : Int}, rs.length = ts.length → (((List.range ts.length).filter fun k => decide (rs.getD k 0 = j)).map fun k => ts.getD k 0).sum = ldZ ts rs j
  | [], rs, j, _ => by simp [ldZ]
  | t :: ts, [], j, h => by simp at h
  | t :: ts, r :: rs, j, h => by
    rw [List.length_cons, List.range_succ_eq_map, List.filter_cons]
    have ih := sum_at (ts := ts) (rs := rs) (j := j) (by simpa using h)
    have e : (((List.range ts.length).map Nat.succ).filter fun k => decide ((r :: rs).getD k 0 = j)).map (fun k => (t :: ts).getD k 0) = ((List.range ts.length).filter fun k => decide (rs.getD k 0 = j)).map fun k => ts.getD k 0 := by
      rw [List.filter_map, List.map_map]
      rfl
    show _ = (if r = j then t else 0) + ldZ ts rs j
    by_cases hr : r = j
    · rw [if_pos (by simpa using hr), List.map_cons, List.sum_cons, e, ih, if_pos hr]
      rfl
    · rw [if_neg (by simpa using hr), e, ih, if_neg hr]
      omega
section
variable {ts rs : List Int} {roll : Int} {st : Store}
theorem sum_comp (hl : rs.length = ts.length) (hts : ts.length ≤ 100) {j : Int} {g : TM} {t e : EM} {gd : Store → Prop} {vs : Vars} {st : Store} (hg : gd st)
    (h : ∀ k : Nat, k < ts.length → ∃ vs1, g (.int (k : Nat)) vs = some vs1 ∧ t vs1 st = .ok (.bl (decide (rs.getD k 0 = j))) st ∧ e vs1 st = .ok (.int (ts.getD k 0)) st) :
    ∃ L : List Int, compGo g t e gd vs (rng 0 ts.length) st = .ok (L.map .int) st ∧ L.sum = ldZ ts rs j := by
  refine ⟨_, ?_, sum_at hl⟩
  rw [rng0_map, List.map_map]
  exact compGo_fmap (f := fun k : Nat => D.int (k : Nat)) (h := fun k => D.int (ts.getD k 0)) (p := fun k => decide (rs.getD k 0 = j)) hg fun k hk => by
    obtain ⟨vs1, h1, h2, h3⟩ := h k (List.mem_range.mp hk)
    exact ⟨vs1, h1, h2, fun _ => h3⟩
theorem ix_T {l : List Int} {k : Nat} {st : Store} (hk : k < l.length) : ixA (encT l) (.int (k : Nat)) st = .ok (.int (l.getD k 0)) st := by
  unfold encT
  rw [List.getD_eq_getElem?_getD, List.getElem?_eq_getElem hk]
  simp [hk]
theorem sum_list {L : List Int} {st : Store} : sumD [.lst (L.map .int)] st = .ok (.int L.sum) st := by
  show opt ((lstOf st (.lst (L.map .int))).bind intsOf) _ = _
  have : (lstOf st (.lst (L.map D.int))).bind intsOf = some L := intsOf_map'
  rw [this]
  rfl
theorem law_fits_ok (hts : ts.length ≤ 100) (hrs : rs.length ≤ 100) (hB : ∀ r ∈ rs, r < 100) : m_law_fits [encT ts, .int roll, encT rs] st = .ok (.bl (fitZ ts roll rs)) st := by
  have l1 : ∀ st2, lenD [encT ts] st2 = .ok (.int (ts.length : Nat)) st2 := fun st2 => by simp [encT]
  have l2 : ∀ st2, lenD [encT rs] st2 = .ok (.int (rs.length : Nat)) st2 := fun st2 => by simp [encT]
  have hc : ∀ V st2, V = [some (encT ts), some (.int roll), some (encT rs), none, none] → eComp false (iE (eV 2)) (gN 3) (e2 ltD (eV 3) (eC (.int 0))) (eV 3) [3] V st2 = .ok (.lst ((rs.filter fun r => decide (r < 0)).map .int)) st2 := fun V st2 e => by
    subst e
    refine wp_eq ?_
    simp [eComp_wp, encT]
    refine ⟨by omega, ?_⟩
    rw [compGo_fmap (f := D.int) (h := D.int) (p := fun r => decide (r < 0)) trivial fun x hx => ⟨_, rfl, by simp, fun _ => by simp⟩]
    simp
  have hcl : ∀ st2, lenD [.lst ((rs.filter fun r => decide (r < 0)).map D.int)] st2 = .ok (.int ((rs.filter fun r => decide (r < 0)).length : Nat)) st2 := fun st2 => by simp
  have hall : (rs.all fun r => decide (0 ≤ r)) = decide ((rs.filter fun r => decide (r < 0)).length = 0) := by
    rw [Bool.eq_iff_iff, List.all_eq_true, decide_eq_true_eq, List.length_eq_zero_iff, List.filter_eq_nil_iff]
    constructor
    · intro h r hr hn
      have := h r hr
      simp at this hn
      omega
    · intro h r hr
      have := h r hr
      simp at this ⊢
      omega
  have hn : ∀ st2, neD (.int (rs.length : Nat)) (.int (ts.length : Nat)) st2 = .ok (.bl (!decide (rs.length = ts.length))) st2 := fun st2 => by
    simp
    omega
  unfold fitZ
  rw [hall]
  generalize (rs.filter fun r => decide (r < 0)).map D.int = A1 at *
  obtain ⟨nn, hnn⟩ : ∃ nn, nn = (rs.filter fun r => decide (r < 0)).length := ⟨_, rfl⟩
  rw [← hnn] at hall hcl ⊢
  refine wp_eq ?_
  unfold m_law_fits
  rw [wp_fnD]
  unfold b_law_fits
  by_cases h1 : rs.length = ts.length
  · rw [decide_eq_true h1] at hn ⊢
    by_cases h2 : nn = 0
    · have h0 : ∀ r ∈ rs, 0 ≤ r := fun r hr => by
        rw [h2] at hall
        have := List.all_eq_true.mp (hall.trans rfl) r hr
        simpa using this
      have g0 : ¬ 0 < nn := by omega
      obtain ⟨n, hn2⟩ : ∃ n, n = mxZ rs := ⟨_, rfl⟩
      have hmx := mx_le (B := 100) hB
      rw [← hn2] at hmx
      have hcnt : ∀ V st2, V = [some (encT ts), some (.int roll), some (encT rs), none, none] → (eIf (e2 gtD (eN lenD (aCons (eV 2) (aNil))) (eC (.int 0))) (e2 (addD false) (eN maxT (aCons (eV 2) (aNil))) (eC (.int 1))) (eC (.int 0))) V st2 = .ok (.int (n : Nat)) st2 := fun V st2 e => by
        subst e
        refine wp_eq ?_
        by_cases e : rs = []
        · have : n = 0 := by rw [hn2]; unfold mxZ; rw [if_pos e]
          subst this
          have z : ¬ 0 < rs.length := by rw [e]; simp
          generalize encT rs = RI at *
          simp [l2, z]
        · have hm : ∀ st2, maxT [encT rs] st2 = .ok (.int (maxI rs)) st2 := fun st2 => maxT_ints (st := st2) e
          have h3 := mx_int h0 e
          rw [← hn2] at h3
          have z : 0 < rs.length := List.length_pos_iff.mpr e
          generalize encT rs = RI at *
          simp [l2, z, hm, h3]
      have hsum : ∀ (j : Nat) V st2, V = [some (encT ts), some (.int roll), some (encT rs), some (.int (j : Nat)), none] → (eN sumD (aCons (eComp false (iR (aCons (eN lenD (aCons (eV 0) (aNil))) (aNil))) (gN 4) (e2 eqD (e2 ixA (eV 2) (eV 4)) (eV 3)) (e2 ixA (eV 0) (eV 4)) [4]) (aNil))) V st2 = .ok (.int (ldZ ts rs j)) st2 := fun j V st2 e => by
        subst e
        obtain ⟨L, hL, hLs⟩ := sum_comp (ts := ts) (rs := rs) (j := (j : Nat)) h1 hts (g := gN 4) (t := e2 eqD (e2 ixA (eV 2) (eV 4)) (eV 3)) (e := e2 ixA (eV 0) (eV 4)) (gd := grd (rng 0 ts.length, [])) (vs := [some (encT ts), some (.int roll), some (encT rs), some (.int (j : Nat)), none]) (st := st2) trivial fun k hk => by
          have i1 := fun st2 => ix_T (l := rs) (k := k) (st := st2) (by omega)
          have i2 := fun st2 => ix_T (l := ts) (k := k) (st := st2) hk
          generalize rs.getD k 0 = z at *
          generalize encT ts = T at *
          generalize encT rs = RI at *
          exact ⟨_, rfl, by simp [i1], by simp [i2]⟩
        have hs := fun st2 => sum_list (L := L) (st := st2)
        refine wp_eq ?_
        rw [← hLs]
        generalize encT ts = T at *
        generalize encT rs = RI at *
        simp [eComp_wp, l1, fitR_of (i := (ts.length : Int)) (by omega) (by omega)]
        refine ⟨by omega, ?_⟩
        rw [hL]
        simp [-Dn.sum_eq, hs]
      have hpre : ∀ V st2, V = [some (encT ts), some (.int roll), some (encT rs), none, none] → (eOr (e2 neD (eN lenD (aCons (eV 2) (aNil))) (eN lenD (aCons (eV 0) (aNil)))) (e2 gtD (eN lenD (aCons (eComp false (iE (eV 2)) (gN 3) (e2 ltD (eV 3) (eC (.int 0))) (eV 3) [3]) (aNil))) (eC (.int 0)))) V st2 = .ok (.bl false) st2 := fun V st2 e => by
        subst e
        refine wp_eq ?_
        have hc' := fun st2 => hc _ st2 rfl
        generalize encT ts = T at *
        generalize encT rs = RI at *
        simp [l1, l2, hn, hc', hcl, g0]
      have hb := fun (j : Nat) st2 => hsum j _ st2 rfl
      have hpre' := fun st2 => hpre _ st2 rfl
      have hcnt' := fun st2 => hcnt _ st2 rfl
      have hloads : ∀ j : Nat, j < n → (loadsL ts rs)[j]? = some (ldZ ts rs j) := fun j hj => by
        unfold loadsL
        rw [← hn2, List.getElem?_map, List.getElem?_range hj]
        rfl
      have hlen : (loadsL ts rs).length = n := by unfold loadsL; simp [hn2]
      clear hsum hpre hcnt hc l1 l2
      rw [h2]
      rw [decide_eq_true rfl, Bool.true_and, Bool.true_and]
      generalize encT ts = T at *
      generalize encT rs = RI at *
      simp only [sSeq_eq, wpS_seq, sIf_eq]
      rw [show vars 5 [T, .int roll, RI] = [some T, some (.int roll), some RI, none, none] from rfl, hpre' st]
      simp [-eIf_eq, sFor_wp, hcnt', fitR_of (i := (n : Int)) (by omega) (by omega)]
      obtain ⟨HI, hHI⟩ : ∃ HI : List D → Vars → Store → Prop, HI = fun l vs st2 => ∃ j : Nat, l = (rng 0 n).drop j ∧ j ≤ n ∧ (∀ i, i < j → ldZ ts rs (i : Nat) ≤ roll) ∧ st2 = st ∧ vs = [some T, some (.int roll), some RI, none, none] := ⟨_, rfl⟩
      refine forGo_wp HI (fun _ _ _ _ => trivial) (fun d l vs st2 hI => ?_) (fun vs st2 hI => ?_) _ _ _ (by rw [hHI]; exact ⟨0, rfl, Nat.zero_le _, fun i hi => by omega, rfl, rfl⟩)
      · rw [hHI] at hI
        obtain ⟨j, hj, hj2, hle, rfl, rfl⟩ := hI
        obtain ⟨j3, rfl, rfl⟩ := rng_drop hj.symm
        rw [Int.zero_add]
        refine ⟨_, rfl, ?_⟩
        have hbj := hb j
        by_cases hg : roll < ldZ ts rs (j : Nat)
        · have hf : ((loadsL ts rs).all fun l => decide (l ≤ roll)) = false := by
            rw [Bool.eq_false_iff]
            intro h
            have := List.all_eq_true.mp h _ (List.mem_of_getElem? (hloads j (by omega)))
            simp at this
            omega
          rw [hf]
          clear hHI
          generalize ldZ ts rs (j : Nat) = z at *
          show wpS (sIf _ _ _ [some T, some (.int roll), some RI, some (.int (j : Nat)), none] _) _
          simp only [sIf_eq, e2_eq, hbj]
          simp [hg]
        · have fin : HI ((rng 0 n).drop (j + 1)) [some T, some (.int roll), some RI, none, none] st2 := by
            rw [hHI]
            refine ⟨j + 1, rfl, j3, fun i hi => ?_, rfl, rfl⟩
            by_cases e : i = j
            · subst e; omega
            · exact hle i (by omega)
          clear hHI
          generalize ldZ ts rs (j : Nat) = z at *
          show wpS (sIf _ _ _ [some T, some (.int roll), some RI, some (.int (j : Nat)), none] _) _
          simp only [sIf_eq, e2_eq, hbj]
          simp [hg]
          exact fin
      · rw [hHI] at hI
        obtain ⟨j, hj, hj2, hle, rfl, rfl⟩ := hI
        have := rng_end hj
        have hf : ((loadsL ts rs).all fun l => decide (l ≤ roll)) = true := by
          rw [List.all_eq_true]
          intro x hx
          obtain ⟨i, hi, rfl⟩ := List.getElem_of_mem hx
          have e := hloads i (by omega)
          rw [List.getElem?_eq_getElem hi] at e
          injection e with e
          rw [e]
          exact decide_eq_true (hle i (by omega))
        rw [hf]
        simp
    · have g0 : 0 < nn := by omega
      rw [decide_eq_false h2]
      have hc' := fun st2 => hc _ st2 rfl
      generalize encT ts = T at *
      generalize encT rs = RI at *
      simp [l1, l2, hn, hc', hcl, g0]
  · have e : decide (rs.length = ts.length) = false := by simpa using h1
    rw [e] at hn ⊢
    generalize encT ts = T at *
    generalize encT rs = RS at *
    simp [l1, l2, hn]
end
end Lk69
namespace Lk69
open PySem Dn
theorem intsN (row : List Nat) : intsOf (nats row) = some (row.map fun k : Nat => (k : Int)) := by
  have : nats row = (row.map fun k : Nat => (k : Int)).map .int := by simp [nats]
  rw [this, intsOf_map']
theorem used_ok {n : Nat} {row : List Nat} {st : Store} (h : row ∈ G n 0) (hn : n ≤ 50) : m_law_used [encN row] st = .ok (.int (um 0 row : Nat)) st := by
  have hl := G_len h
  have e : ∀ st2, lenSetD [encN row] st2 = .ok (.int (um 0 row : Nat)) st2 := fun st2 => by
    have e0 : lenSetD [encN row] st2 = opt (intsOf (nats row)) fun ns => if ns.length < 60 then .ok (.int ((dd ns).length : Nat)) st2 else .bad := rfl
    rw [e0, intsN]
    show (if (row.map fun k : Nat => (k : Int)).length < 60 then _ else _) = _
    rw [if_pos (by simp; omega), used_um h]
  refine wp_eq ?_
  unfold m_law_used
  rw [wp_fnD]
  unfold b_law_used
  generalize encN row = R at *
  simp [e]
/-! all rows -/
def ext (row : List Nat) : List (List Nat) := (List.range (um 0 row + 1)).map fun i => row ++ [i]
def A : Nat → List (List Nat)
  | 0 => [[]]
  | k + 1 => (A k).flatMap ext
theorem A_G : ∀ (k m : Nat), ((A k).flatMap fun row => (G m (um 0 row)).map (row ++ ·)) = G (k + m) 0
  | 0, m => by
    show [[]].flatMap _ = _
    rw [List.flatMap_singleton, Nat.zero_add]
    show (G m 0).map (fun x => [] ++ x) = _
    simp
  | k + 1, m => by
    have e : ∀ row, ((ext row).flatMap fun row => (G m (um 0 row)).map (row ++ ·)) = (G (m + 1) (um 0 row)).map (row ++ ·) := fun row => by
      unfold ext
      show _ = ((List.range (um 0 row + 1)).flatMap fun i => (G m (max (um 0 row) (i + 1))).map (i :: ·)).map (row ++ ·)
      rw [List.map_flatMap, List.flatMap_map]
      congr 1
      funext i
      rw [um_app, List.map_map]
      congr 1
      funext r
      simp
    show (((A k).flatMap ext).flatMap _) = _
    rw [List.flatMap_assoc, show k + 1 + m = k + (m + 1) by omega, ← A_G k (m + 1)]
    congr 1
    funext row
    exact e row
theorem A_is (k : Nat) : A k = G k 0 := by
  have := A_G k 0
  rw [Nat.add_zero] at this
  rw [← this]
  show A k = (A k).flatMap fun row => [[]].map (row ++ ·)
  have : (fun row : List Nat => [[]].map (row ++ ·)) = fun row => [row] := by funext row; simp
  rw [this]
  simp
theorem A_len {k : Nat} (h : k ≤ 6) : (A k).length ≤ 203 := by
  rw [A_is]
  have : ∀ k, k < 7 → (G k 0).length ≤ 203 := by decide
  exact this k (by omega)
theorem G_um : ∀ {n u : Nat} {row : List Nat}, row ∈ G n u → um u row ≤ u + n
  | 0, u, row, h => by
    unfold G at h
    rw [List.mem_singleton] at h
    subst h
    exact Nat.le_refl _
  | n + 1, u, row, h => by
    unfold G at h
    obtain ⟨i, hi, h⟩ := List.mem_flatMap.mp h
    obtain ⟨r, hr, rfl⟩ := List.mem_map.mp h
    have hi := List.mem_range.mp hi
    have := G_um hr
    show um (max u (i + 1)) r ≤ _
    omega
theorem ext_ok {row : List Nat} {vs : Vars} {st : Store} {x0 x1 x2 x3 : Option D} (hl : row.length ≤ 50) (hu : um 0 row ≤ 50) : ∀ V, V = [x0, x1, x2, x3, some (encN row), none] → (eComp false (iR (aCons (e2 (addD false) (eN maxT (aCons (e2 (addD false) (eV 4) (eTup (aCons (e1 negD (eC (.int 1))) (aNil)))) (aNil))) (eC (.int 2))) (aNil))) (gN 5) (eC (.bl true)) (e2 (addD false) (eV 4) (eTup (aCons (eV 5) (aNil)))) [5]) V st = .ok (.lst ((ext row).map encN)) st := fun V e => by
  subst e
  have a1 : ∀ st2, addD false (encN row) (.tup [.int (-1)]) st2 = .ok (.tup (((row.map fun k : Nat => (k : Int)) ++ [-1]).map .int)) st2 := fun st2 => by
    unfold encN
    rw [add_tup, if_pos (by rw [nats_len]; show _ + 1 ≤ _; omega)]
    simp [nats]
  obtain ⟨mx, hmx⟩ : ∃ mx : Int, mx = (um 0 row : Int) - 1 := ⟨_, rfl⟩
  have h2 : ∀ st2, maxT [.tup (((row.map fun k : Nat => (k : Int)) ++ [-1]).map .int)] st2 = .ok (.int mx) st2 := fun st2 => by
    rw [maxT_ints (by simp), max_rows, hmx]
  have h3 : mx + 2 = ((um 0 row + 1 : Nat) : Int) := by omega
  have a2 : ∀ (i : Nat) st2, addD false (encN row) (.tup [.int (i : Nat)]) st2 = .ok (encN (row ++ [i])) st2 := fun i st2 => by
    unfold encN
    rw [add_tup, if_pos (by rw [nats_len]; show _ + 1 ≤ _; omega), nats_app]
  refine wp_eq ?_
  unfold ext
  rw [List.map_map]
  generalize ((row.map fun k : Nat => (k : Int)) ++ [-1]).map D.int = RM at *
  obtain ⟨f, hf⟩ : ∃ f : Nat → D, f = fun i => encN (row ++ [i]) := ⟨_, rfl⟩
  have a2 : ∀ (i : Nat) st2, addD false (encN row) (.tup [.int (i : Nat)]) st2 = .ok (f i) st2 := fun i st2 => by rw [hf]; exact a2 i st2
  have ef : (encN ∘ fun i => row ++ [i]) = f := by rw [hf]; rfl
  rw [ef]
  generalize encN row = R at *
  generalize um 0 row + 1 = U at *
  simp [eComp_wp, a1, h2, h3, fitR_of (i := (U : Int)) (by omega) (by omega)]
  refine ⟨by omega, ?_⟩
  rw [rng0_map, compGo_map (h := f) trivial fun x hx => ⟨_, rfl, by simp [a2]⟩]
  simp
theorem all_ok {n : Nat} {st : Store} (hn : n ≤ 6) : m_law_all [.int (n : Nat)] st = .ok (.lst ((G n 0).map encN)) st := by
  rw [← A_is]
  refine wp_eq ?_
  unfold m_law_all
  rw [wp_fnD]
  unfold b_law_all
  simp
  unfold b_law_all_2
  simp [sFor_wp, fitR_of (i := (n : Int)) (by omega) (by omega)]
  obtain ⟨HI, hHI⟩ : ∃ HI : List D → Vars → Store → Prop, HI = fun l vs st2 => ∃ j : Nat, l = (rng 0 n).drop j ∧ j ≤ n ∧ st2 = st ∧ vs = [some (.int (n : Nat)), some (.lst ((A j).map encN)), none, none, none, none] := ⟨_, rfl⟩
  refine forGo_wp HI (fun _ _ _ _ => trivial) (fun d l vs st2 hI => ?_) (fun vs st2 hI => ?_) _ _ _ (by rw [hHI]; exact ⟨0, rfl, Nat.zero_le _, rfl, rfl⟩)
  · rw [hHI] at hI
    obtain ⟨j, hj, hj2, rfl, rfl⟩ := hI
    obtain ⟨j3, rfl, rfl⟩ := rng_drop hj.symm
    rw [Int.zero_add]
    refine ⟨_, rfl, ?_⟩
    have fin : HI ((rng 0 n).drop (j + 1)) [some (.int (n : Nat)), some (.lst ((A (j + 1)).map encN)), none, none, none, none] st2 := by
      rw [hHI]
      exact ⟨j + 1, rfl, j3, rfl, rfl⟩
    clear hHI
    have hAl := A_len (k := j + 1) (by omega)
    have hAj : ∀ row ∈ A j, row.length ≤ 50 ∧ um 0 row ≤ 50 := fun row hr => by
      rw [A_is] at hr
      have := G_len hr
      have := G_um hr
      omega
    unfold b_law_all_3
    simp
    unfold b_law_all_4
    simp [sFor_wp]
    obtain ⟨H2, hH2⟩ : ∃ H2 : List D → Vars → Store → Prop, H2 = fun l vs st3 => ∃ (rest acc : List (List Nat)), l = rest.map encN ∧ acc ++ rest.flatMap ext = A (j + 1) ∧ (∀ r ∈ rest, r ∈ A j) ∧ st3 = st2 ∧ vs = [some (.int (n : Nat)), some (.lst ((A j).map encN)), some (.int (j : Nat)), some (.lst (acc.map encN)), none, none] := ⟨_, rfl⟩
    refine forGo_wp H2 (fun _ _ _ _ => trivial) (fun d l vs st3 hI => ?_) (fun vs st3 hI => ?_) _ _ _ (by rw [hH2]; exact ⟨A j, [], rfl, rfl, fun r hr => hr, rfl, rfl⟩)
    · rw [hH2] at hI
      obtain ⟨rest, acc, hj, hacc, hr, rfl, rfl⟩ := hI
      cases rest with
      | nil => simp at hj
      | cons row rest =>
        rw [List.map_cons] at hj
        injection hj with e1 e2
        subst e1 e2
        refine ⟨_, rfl, ?_⟩
        have fin2 : H2 (rest.map encN) [some (.int (n : Nat)), some (.lst ((A j).map encN)), some (.int (j : Nat)), some (.lst ((acc ++ ext row).map encN)), none, none] st3 := by
          rw [hH2]
          exact ⟨rest, acc ++ ext row, rfl, by rw [← hacc]; simp, fun r h => hr r (List.mem_cons_of_mem _ h), rfl, rfl⟩
        clear hH2
        have hal : acc.length + (ext row).length ≤ 203 := by
          have := congrArg List.length hacc
          simp at this
          omega
        have hro := hAj row (hr row List.mem_cons_self)
        have hx := ext_ok (st := st3) (vs := []) (x0 := some (.int (n : Nat))) (x1 := some (.lst ((A j).map encN))) (x2 := some (.int (j : Nat))) (x3 := some (.lst (acc.map encN))) hro.1 hro.2 _ rfl
        have hadd : addD false (.lst (acc.map encN)) (.lst ((ext row).map encN)) st3 = .ok (.lst ((acc ++ ext row).map encN)) st3 := by
          rw [add_lst, if_pos (by show _ ≤ 1000000; simp; omega), List.map_append]
          rfl
        generalize (acc ++ ext row).map encN = R3 at *
        generalize (ext row).map encN = R2 at *
        generalize acc.map encN = R1 at *
        generalize (A j).map encN = R0 at *
        generalize encN row = RR at *
        show wpS (b_law_all_5 [some (.int (n : Nat)), some (.lst R0), some (.int (j : Nat)), some (.lst R1), some RR, none] st3) _
        unfold b_law_all_5
        simp [hx, hadd]
        exact fin2
    · rw [hH2] at hI
      obtain ⟨rest, acc, hj, hacc, hr, rfl, rfl⟩ := hI
      have : rest = [] := by simpa using hj.symm
      subst this
      have e : acc = A (j + 1) := by rw [← hacc]; simp
      subst e
      clear hH2
      generalize (A (j + 1)).map encN = R1 at *
      unfold b_law_all_6
      simp
      exact fin
  · rw [hHI] at hI
    obtain ⟨j, hj, hj2, rfl, rfl⟩ := hI
    have hle := rng_end hj
    obtain rfl : j = n := by omega
    clear hHI
    have lfd : lf (.lst ((A j).map encN)) = true := by rw [lf_lst]; exact lfs_map lf_encN
    generalize (A j).map encN = R1 at *
    unfold b_law_all_7
    simp [lfd]
end Lk69
namespace Lk69
open PySem Dn
theorem ixN_last {n : Nat} : L2.ixN (n + 1) (-1) = some n := by
  unfold L2.ixN
  rw [if_neg (by omega), if_pos (by omega)]
  congr 1
  omega
theorem at_last {ds : List D} {d : D} : L2.atI (ds ++ [d]) (-1) = some d := by
  unfold L2.atI
  rw [List.length_append, List.length_singleton, ixN_last]
  simp
theorem ordered_ok {ts : List Int} {roll : Int} {st : Store} (hts : ts.length ≤ 100) (h0 : ∀ t ∈ ts, t ≤ roll) : m_law_ordered [encT ts, .int roll] st = .ok (encN (gr roll ts 0 roll)) st := by
  have l1 : ∀ st2, lenD [encT ts] st2 = .ok (.int (ts.length : Nat)) st2 := fun st2 => by simp [encT]
  have hgl := gr_len (roll := roll) (ts := ts) (n := 0) (l := roll)
  obtain ⟨R, hR⟩ : ∃ R, R = gr roll ts 0 roll := ⟨_, rfl⟩
  rw [← hR] at hgl ⊢
  refine wp_eq ?_
  unfold m_law_ordered
  rw [wp_fnD]
  unfold b_law_ordered
  have hix := fun (k : Nat) (hk : k < ts.length) st2 => ix_T (l := ts) (k := k) (st := st2) hk
  have hdrop : ∀ k : Nat, k < ts.length → ts.drop k = ts.getD k 0 :: ts.drop (k + 1) := fun k hk => by
    rw [List.getD_eq_getElem?_getD, List.getElem?_eq_getElem hk, Option.getD_some]
    exact List.drop_eq_getElem_cons hk
  have hle : ∀ k : Nat, k < ts.length → ts.getD k 0 ≤ roll := fun k hk => by
    rw [List.getD_eq_getElem?_getD, List.getElem?_eq_getElem hk, Option.getD_some]
    exact h0 _ (List.getElem_mem hk)
  generalize encT ts = T at *
  simp
  unfold b_law_ordered_2
  simp
  unfold b_law_ordered_3
  simp [sFor_wp, l1, fitR_of (i := (ts.length : Int)) (by omega) (by omega)]
  obtain ⟨HI, hHI⟩ : ∃ HI : List D → Vars → Store → Prop, HI = fun l vs st2 => ∃ (j : Nat) (acc : List Nat) (lf : Int), l = (rng 0 ts.length).drop j ∧ j ≤ ts.length ∧ acc.length = j ∧ st2 = st ∧ vs = [some T, some (.int roll), some (encN acc), some (.int lf), none] ∧
    ((j = 0 ∧ lf = 0) ∨ ∃ (a0 : List Nat) (n : Nat), acc = a0 ++ [n] ∧ acc ++ gr roll (ts.drop j) n lf = R) := ⟨_, rfl⟩
  refine forGo_wp HI (fun _ _ _ _ => trivial) (fun d l vs st2 hI => ?_) (fun vs st2 hI => ?_) _ _ _ (by rw [hHI]; exact ⟨0, [], 0, rfl, Nat.zero_le _, rfl, rfl, rfl, .inl ⟨rfl, rfl⟩⟩)
  · rw [hHI] at hI
    obtain ⟨j, acc, lf, hj, hj2, hal, rfl, rfl, hcs⟩ := hI
    obtain ⟨j3, rfl, rfl⟩ := rng_drop hj.symm
    rw [Int.zero_add]
    refine ⟨_, rfl, ?_⟩
    have hd := hdrop j (by omega)
    have hl := hle j (by omega)
    have hx := hix j (by omega)
    have add1 : ∀ (k : Nat) st2, addD false (encN acc) (.tup [.int (k : Nat)]) st2 = .ok (encN (acc ++ [k])) st2 := fun k st2 => by
      unfold encN
      rw [add_tup, if_pos (by rw [nats_len]; show _ + 1 ≤ _; omega), nats_app]
    have fin : ∀ (k : Nat) (lf' : Int), acc ++ [k] ++ gr roll (ts.drop (j + 1)) k lf' = R → HI ((rng 0 ts.length).drop (j + 1)) [some T, some (.int roll), some (encN (acc ++ [k])), some (.int lf'), none] st2 := fun k lf' e => by
      rw [hHI]
      exact ⟨j + 1, acc ++ [k], lf', rfl, by omega, by simp [hal], rfl, rfl, .inr ⟨acc, k, rfl, e⟩⟩
    clear hHI
    unfold b_law_ordered_4
    generalize (rng 0 ts.length).drop (j + 1) = RR at *
    generalize ts.getD j 0 = t at *
    rcases hcs with ⟨rfl, rfl⟩ | ⟨a0, n, hacc, hR2⟩
    · have ea : acc = [] := List.eq_nil_of_length_eq_zero hal
      have f := fin 0 (roll - t) (by
        rw [hR, ea]
        have e1 : gr roll ts 0 roll = gr roll (t :: ts.drop 1) 0 roll := by
          have : ts = t :: ts.drop 1 := by rw [← hd, List.drop_zero]
          rw [← this]
        rw [e1]
        show _ = if roll < t then _ else _
        rw [if_neg (by omega)]
        rfl)
      have a0 := add1 0
      generalize encN (acc ++ [0]) = N2 at *
      generalize encN acc = N1 at *
      have hx : ∀ st2, ixA T (.int 0) st2 = .ok (.int t) st2 := hx
      have a0 : ∀ st2, addD false N1 (.tup [.int 0]) st2 = .ok N2 st2 := a0
      simp
      unfold b_law_ordered_8
      simp [hx]
      unfold b_law_ordered_9
      simp [a0]
      exact f
    · have j0 : 0 < j := by rw [← hal, hacc]; simp
      have last : ∀ st2, ixA (encN acc) (.int (-1)) st2 = .ok (.int (n : Nat)) st2 := fun st2 => by
        unfold encN
        rw [hacc, nats_app, ixA_tup, at_last]
      rw [hd] at hR2
      unfold gr at hR2
      by_cases ht : t ≤ lf
      · rw [if_neg (by omega)] at hR2
        have f := fin n (lf - t) (by rw [← hR2]; simp)
        have a0 := add1 n
        generalize encN (acc ++ [n]) = N2 at *
        generalize encN acc = N1 at *
        simp [j0, hx, ht]
        unfold b_law_ordered_5
        simp [hx]
        unfold b_law_ordered_6
        simp [last, a0]
        exact f
      · rw [if_pos (by omega)] at hR2
        have f := fin (n + 1) (roll - t) (by rw [← hR2]; simp)
        have a0 := add1 (n + 1)
        generalize encN (acc ++ [n + 1]) = N2 at *
        generalize encN acc = N1 at *
        have a0 : ∀ st2, addD false N1 (.tup [.int ((n : Int) + 1)]) st2 = .ok N2 st2 := a0
        simp [j0, hx, ht]
        unfold b_law_ordered_8
        simp [hx]
        unfold b_law_ordered_9
        simp [j0, last, a0]
        exact f
  · rw [hHI] at hI
    obtain ⟨j, acc, lf, hj, hj2, hal, rfl, rfl, hcs⟩ := hI
    have hle := rng_end hj
    obtain rfl : j = ts.length := by omega
    have e : acc = R := by
      rcases hcs with ⟨h1, _⟩ | ⟨a0, n, _, hR2⟩
      · have e1 : ts = [] := List.eq_nil_of_length_eq_zero h1
        have e2 : acc = [] := List.eq_nil_of_length_eq_zero (by omega)
        rw [e2, hR, e1]
        rfl
      · rw [List.drop_length] at hR2
        rw [← hR2]
        simp [gr]
    subst e
    clear hHI
    have lfd := lf_encN acc
    generalize encN acc = N1 at *
    unfold b_law_ordered_10
    simp [lfd]
/-- what is told, or the error's code -/
def Er (d : D) (f : Store → Re D) : Prop := (∀ st, f st = .ok d st) ∨ ∃ c, d = .str c ∧ ∀ st, f st = .exc (StE c) st
theorem asked_ok {T RS d0 d1 d2 d3 : D} {roll : Int} {st : Store} (h0 : Er d0 (m_in_order [T, .int roll])) (h1 : Er d1 (m_fewest_rolls [T, .int roll])) (h2 : Er d2 (m_takes_rolls [T, .int roll, RS])) (h3 : Er d3 (m_short_ends [T, .int roll, RS]))
    (hlf : lfs [d0, d1, d2, d3] = true) : m_law_asked [T, .int roll, RS] st = .ok (.lst [d0, d1, d2, d3]) st := by
  have step : ∀ (k : Nat) (acc : List D) (d : D) (P : Po), k < 4 → acc.length = k → (k = 0 → Er d (m_in_order [T, .int roll])) → (k = 1 → Er d (m_fewest_rolls [T, .int roll])) → (k = 2 → Er d (m_takes_rolls [T, .int roll, RS])) → (k = 3 → Er d (m_short_ends [T, .int roll, RS])) →
      P.n [some T, some (.int roll), some RS, some (.loc st.length), some (.int (k : Nat)), none] (st ++ [some (.lst (acc ++ [d]))]) →
      wpS (b_law_asked_3 [some T, some (.int roll), some RS, some (.loc st.length), some (.int (k : Nat)), none] (st ++ [some (.lst acc)])) P := by
    intro k acc d P hk hal e0 e1 e2 e3 hP
    have rm : acc.length ≤ 999999 := by omega
    have fin1 : ∀ (f : Store → Re D) (b : SM), Er d f → (∀ V s, (∀ s, f s = .ok d s) → b V s = b V s) → True := fun _ _ _ _ => trivial
    unfold b_law_asked_3
    refine wpS_try ?_
    unfold b_law_asked_4
    have k4 : k = 0 ∨ k = 1 ∨ k = 2 ∨ k = 3 := by omega
    rcases k4 with rfl | rfl | rfl | rfl
    · rcases e0 rfl with h | ⟨c, rfl, h⟩
      · simp [h, rm]
        exact hP
      · simp [h]
        refine ⟨rfl, by show catches "StockError" "StockError" = true; decide, [.str c], rfl, .nx [some T, some (.int roll), some RS, some (.loc st.length), some (.int 0), none] (st ++ [some (.lst (acc ++ [.str c]))]), fun a dd => ?_, ?_⟩
        · simp [rm]
        · simp
          exact hP
    · rcases e1 rfl with h | ⟨c, rfl, h⟩
      · simp [h, rm]
        exact hP
      · simp [h]
        refine ⟨rfl, by show catches "StockError" "StockError" = true; decide, [.str c], rfl, .nx [some T, some (.int roll), some RS, some (.loc st.length), some (.int 1), none] (st ++ [some (.lst (acc ++ [.str c]))]), fun a dd => ?_, ?_⟩
        · simp [rm]
        · simp
          exact hP
    · rcases e2 rfl with h | ⟨c, rfl, h⟩
      · simp [h, rm]
        exact hP
      · simp [h]
        refine ⟨rfl, by show catches "StockError" "StockError" = true; decide, [.str c], rfl, .nx [some T, some (.int roll), some RS, some (.loc st.length), some (.int 2), none] (st ++ [some (.lst (acc ++ [.str c]))]), fun a dd => ?_, ?_⟩
        · simp [rm]
        · simp
          exact hP
    · rcases e3 rfl with h | ⟨c, rfl, h⟩
      · simp [h, rm]
        exact hP
      · simp [h]
        refine ⟨rfl, by show catches "StockError" "StockError" = true; decide, [.str c], rfl, .nx [some T, some (.int roll), some RS, some (.loc st.length), some (.int 3), none] (st ++ [some (.lst (acc ++ [.str c]))]), fun a dd => ?_, ?_⟩
        · simp [rm]
        · simp
          exact hP
  refine wp_eq ?_
  unfold m_law_asked
  rw [wp_fnD]
  unfold b_law_asked
  simp
  unfold b_law_asked_2
  simp [sFor_wp, fitR_of (i := 4) (by omega) (by omega)]
  rw [show rng 0 4 = [.int (0 : Nat), .int (1 : Nat), .int (2 : Nat), .int (3 : Nat)] from rfl]
  refine wpS_of (forGo_cons trivial rfl (wpSX_of ?_))
  refine step 0 [] d0 _ (by omega) rfl (fun _ => h0) (fun h => by omega) (fun h => by omega) (fun h => by omega) ?_
  refine forGo_cons trivial rfl (wpSX_of ?_)
  refine step 1 [d0] d1 _ (by omega) rfl (fun h => by omega) (fun _ => h1) (fun h => by omega) (fun h => by omega) ?_
  refine forGo_cons trivial rfl (wpSX_of ?_)
  refine step 2 [d0, d1] d2 _ (by omega) rfl (fun h => by omega) (fun h => by omega) (fun _ => h2) (fun h => by omega) ?_
  refine forGo_cons trivial rfl (wpSX_of ?_)
  refine step 3 [d0, d1, d2] d3 _ (by omega) rfl (fun h => by omega) (fun h => by omega) (fun h => by omega) (fun _ => h3) ?_
  show wpSX (forGo _ _ _ _ [] _ _) _ _
  rw [forGo_nil trivial]
  simp
  unfold b_law_asked_14
  simp
  have := gc_lst (st0 := st) (l := [some (Ob.lst [d0, d1, d2, d3])]) (ds := [d0, d1, d2, d3]) (i := 0) rfl hlf
  rw [Nat.add_zero] at this
  rw [this, wp_ok]
  exact ⟨rfl, rfl⟩
end Lk69
namespace Lk69
open PySem Dn
abbrev intsR (row : List Nat) : List Int := row.map fun k : Nat => (k : Int)
theorem encN_T (row : List Nat) : encN row = encT (intsR row) := by
  unfold encN encT intsR nats
  rw [List.map_map]
  rfl
theorem ldZ_row : ∀ {ts : List Int} {row : List Nat} {j : Nat}, ldZ ts (intsR row) (j : Nat) = ld ts row j
  | [], _, _ => by simp [ldZ, ld]
  | _ :: _, [], _ => by simp [ldZ, ld]
  | t :: ts, r :: rs, j => by
    show (if ((r : Nat) : Int) = (j : Nat) then t else 0) + ldZ ts (intsR rs) j = (if r = j then t else 0) + ld ts rs j
    rw [ldZ_row]
    by_cases e : r = j
    · rw [if_pos (by omega), if_pos e]
    · rw [if_neg (by omega), if_neg e]
theorem fitZ_row {ts : List Int} {roll : Int} {row : List Nat} (hl : row.length = ts.length) (hr : 0 ≤ roll) : fitZ ts roll (intsR row) = fitb ts roll row := by
  have h0 : ∀ r ∈ intsR row, 0 ≤ r := fun r h => by
    obtain ⟨k, _, rfl⟩ := List.mem_map.mp h
    omega
  have hm := mx_lt h0
  unfold fitZ
  rw [decide_eq_true (by simpa using hl), Bool.true_and, show ((intsR row).all fun r => decide (0 ≤ r)) = true from List.all_eq_true.mpr fun r h => decide_eq_true (h0 r h), Bool.true_and]
  rw [Bool.eq_iff_iff, List.all_eq_true]
  unfold fitb
  rw [List.all_eq_true]
  constructor
  · intro h j hj
    have hjm := hm j (List.mem_map.mpr ⟨j, hj, rfl⟩)
    have := h (ldZ ts (intsR row) j) (List.mem_map.mpr ⟨j, List.mem_range.mpr (by omega), rfl⟩)
    rw [ldZ_row] at this
    exact this
  · intro h x hx
    obtain ⟨j, _, rfl⟩ := List.mem_map.mp hx
    rw [ldZ_row]
    by_cases hj : j ∈ row
    · exact h j hj
    · rw [ld_no hj]
      exact decide_eq_true hr
theorem leDt_nat {a b : Nat} : leDt (.int (a : Nat)) (.int (b : Nat)) = decide (a ≤ b) := by
  rw [leDt_is]
  unfold ltDt
  simp only [pd]
  rw [PySem.W.dataLt_int]
  by_cases h : a ≤ b
  · simp [h]
  · simp [h]; omega
def srtN (l : List Nat) : List Nat := l.mergeSort fun a b => decide (a ≤ b)
theorem sort_nats (l : List Nat) : (nats l).mergeSort leDt = nats (srtN l) := by
  unfold nats
  exact (List.map_mergeSort (f := fun k : Nat => D.int (k : Nat)) (r := fun a b => decide (a ≤ b)) (s := leDt) fun a _ b _ => leDt_nat.symm).symm
theorem srt_ints (ns : List Int) : srtOk (ns.map .int) = true := by
  unfold srtOk
  rw [Bool.and_eq_true, Bool.and_eq_true, Bool.or_eq_true]
  refine ⟨List.all_eq_true.mpr (okd_map fun _ _ => okd_int), ?_, .inr ?_⟩
  · unfold likes
    rw [List.all_eq_true]
    intro x hx
    rw [List.all_eq_true]
    intro y hy
    rw [List.map_map] at hx hy
    obtain ⟨a, _, rfl⟩ := List.mem_map.mp hx
    obtain ⟨b, _, rfl⟩ := List.mem_map.mp hy
    simp [pd, PySem.W.alike]
  · rw [List.all_eq_true]
    intro x hx
    rw [List.map_map] at hx
    obtain ⟨a, _, rfl⟩ := List.mem_map.mp hx
    rfl
theorem srt_nats (l : List Nat) : srtOk (nats l) = true := by
  have := srt_ints (l.map fun k : Nat => (k : Int))
  rw [List.map_map] at this
  exact this
theorem srtN_pw (l : List Nat) : (srtN l).Pairwise (· ≤ ·) := by
  have := List.pairwise_mergeSort (le := fun a b : Nat => decide (a ≤ b)) (fun a b c h1 h2 => by simp at *; omega) (fun a b => by simp; omega) l
  exact this.imp fun h => of_decide_eq_true h
theorem srtN_iff {l : List Nat} : l = srtN l ↔ l.Pairwise (· ≤ ·) := by
  constructor
  · intro h
    rw [h]
    exact srtN_pw l
  · intro h
    exact (List.mergeSort_of_pairwise (h.imp fun h => decide_eq_true h)).symm
/-- list(row) == sorted(row) -/
theorem keep_ok {row : List Nat} {st : Store} : eqD (.lst (nats row)) (.lst (nats (srtN row))) st = .ok (.bl (decide (row = srtN row))) st := by
  have o : ∀ l : List Nat, okd 60 (.lst (nats l)) = true := fun l => by
    have : ∀ l : List Nat, (nats l).all (okd 59) = true := fun l => by
      rw [List.all_eq_true]
      intro d hd
      obtain ⟨k, _, rfl⟩ := List.mem_map.mp hd
      exact okd_int
    exact this l
  have e : eqB st (.lst (nats row)) (.lst (nats (srtN row))) = (if okd 60 (.lst (nats row)) && okd 60 (.lst (nats (srtN row))) then some (eqvD (.lst (nats row)) (.lst (nats (srtN row)))) else none) := rfl
  unfold eqD
  rw [e, o, o, eqv_nats]
  rfl
theorem sortQ_row {row : List Nat} {st : Store} : sortQ false [encN row] st = .ok (.lst (nats (srtN row))) st := by
  have e : sortQ false [encN row] st = (if srtOk (nats row) = true then mkNew false ((nats row).mergeSort leDt) st else .bad) := rfl
  rw [e, if_pos (srt_nats row), sort_nats]
  rfl
theorem minB_ints {L : List Int} {st : Store} (h : L ≠ []) : minB [.lst (L.map .int)] st = .ok (.int (minI L)) st := by
  have e : (lstOf st (.lst (L.map D.int))).bind intsOf = some L := intsOf_map'
  have e1 : minB [.lst (L.map .int)] st = min1 (.lst (L.map .int)) st := by
    unfold minB
    simp only [e]
  rw [e1]
  show opt ((lstOf st (.lst (L.map D.int))).bind intsOf) _ = _
  rw [e]
  show (if L.isEmpty then Re.bad else _) = _
  rw [if_neg (by cases L with | nil => exact absurd rfl h | cons a b => simp)]
/-! wrong takes -/
section
variable {ts rs : List Int} {roll : Int} {c : Str} {st : Store}
theorem wrong_ok (h : chk ts roll = some c) (hl : ts.length ≤ 100) {RS : D} : m_law_asked [encT ts, .int roll, RS] st = .ok (.lst [.str c, .str c, .str c, .str c]) st := by
  have hc := fun st2 => check_ok (ts := ts) (roll := roll) (st := st2) hl
  rw [h] at hc
  have hc : ∀ st2, m_check_takes [encT ts, .int roll] st2 = .exc (StE c) st2 := hc
  generalize encT ts = T at *
  unfold StE at hc
  refine asked_ok (.inr ⟨c, rfl, fun st => ?_⟩) (.inr ⟨c, rfl, fun st => ?_⟩) (.inr ⟨c, rfl, fun st => ?_⟩) (.inr ⟨c, rfl, fun st => ?_⟩) (by rw [← lf_tup]; simp)
  · unfold StE
    refine wpX_eq ?_
    unfold m_in_order
    rw [wpX_fnD]
    unfold b_in_order
    simp [hc]
  · unfold StE
    refine wpX_eq ?_
    unfold m_fewest_rolls
    rw [wpX_fnD]
    unfold b_fewest_rolls
    simp [hc]
  · unfold StE
    refine wpX_eq ?_
    unfold m_takes_rolls
    rw [wpX_fnD]
    unfold b_takes_rolls
    simp [hc]
  · unfold StE
    refine wpX_eq ?_
    unfold m_short_ends
    rw [wpX_fnD]
    unfold b_short_ends
    simp [hc]
theorem right_ok {M : Nat} {F : List Nat} (h : chk ts roll = none) (hF : Few ts roll M F) (hM : M ≤ 800) (hrs : rs.length ≤ 100) (hB : ∀ r ∈ rs, r < 100) :
    m_law_asked [encT ts, .int roll, encT rs] st = .ok (.lst [encN (gr roll ts 0 roll), encN F, .bl (fitZ ts roll rs), if fitZ ts roll rs = true then encT (endsL ts roll rs) else .str "rolls"]) st := by
  refine asked_ok (.inl fun st => in_order_ok h) (.inl fun st => fewest_ok h hF hM) (.inl fun st => takes_ok h hrs hB) ?_ ?_
  · cases hz : fitZ ts roll rs with
    | true =>
      refine .inl fun st => ?_
      rw [short_ok h hrs hB, hz]
      rfl
    | false =>
      refine .inr ⟨"rolls", rfl, fun st => ?_⟩
      rw [short_ok h hrs hB, hz]
      rfl
  · have e1 := lf_encN (gr roll ts 0 roll)
    have e2 := lf_encN F
    have e3 := lf_encT (endsL ts roll rs)
    rw [← lf_tup]
    cases fitZ ts roll rs <;> simp [e1, e2, e3]
end
end Lk69
namespace Lk69
open PySem Dn
theorem okd_N (l : List Nat) : okd 40 (encN l) = true := by
  unfold encN nats
  exact okd_tup (n := 39) (okd_map fun _ _ => okd_int)
theorem okd_T (l : List Int) : okd 40 (encT l) = true := by
  unfold encT
  exact okd_tup (n := 39) (okd_map fun _ _ => okd_int)
theorem e2_val {f : D → D → Store → Re D} {a b : EM} {V : Vars} {s : Store} {x y d : D} (ha : a V s = .ok x s) (hb : b V s = .ok y s) (hf : f x y s = .ok d s) : e2 f a b V s = .ok d s := by
  rw [e2_eq, ha, bind_ok, hb, bind_ok, hf]
theorem eV2_val {V : Vars} {s : Store} {i : Nat} {d : D} (h : getV V i = some d) : eV i V s = .ok d s := by
  rw [eV_eq, h]
section
variable {ts rs : List Int} {roll : Int} {st : Store} {P : Po} {M : Nat} {F : List Nat}
theorem told_step {X0 X1 X5 X7 X9 X10 : Option D} (h : chk ts roll = none) (hF : Few ts roll M F) (hM : M ≤ 800) (hrs : rs.length ≤ 100) (hB : ∀ r ∈ rs, r < 100)
    (hP : ∀ x15, P.n [X0, X1, some (.int roll), some (encT ts), none, X5, some (encN (gr roll ts 0 roll)), X7, none, X9, X10, some (encN F), some (encT rs), none, some (.bl (fitZ ts roll rs)), x15, none, none, none] st) :
    wpS (b_law_13 [X0, X1, some (.int roll), some (encT ts), none, X5, some (encN (gr roll ts 0 roll)), X7, none, X9, X10, some (encN F), some (encT rs), none, none, none, none, none, none] st) P := by
  obtain ⟨q1, q2, q3⟩ := chk_none h
  have hfit := fun st2 => law_fits_ok (ts := ts) (roll := roll) (rs := rs) (st := st2) (by omega) hrs hB
  have hask := fun st2 => right_ok (st := st2) h hF hM hrs hB
  have l1 : ∀ st2, lenD [encT ts] st2 = .ok (.int (ts.length : Nat)) st2 := fun st2 => by simp [encT]
  have l2 : ∀ st2, lenD [encT rs] st2 = .ok (.int (rs.length : Nat)) st2 := fun st2 => by simp [encT]
  have okE : ∀ E : D, okd 40 E = true → okd 60 (.lst [encN (gr roll ts 0 roll), encN F, .bl (fitZ ts roll rs), E]) = true := fun E hE => by
    refine okd_mono (n := 41) (by omega) ?_
    show ([encN (gr roll ts 0 roll), encN F, .bl (fitZ ts roll rs), E] : List D).all (okd 40) = true
    simp [okd_N, okd, hE]
  have hne := fun (E : D) (hE : okd 40 E = true) (st2 : Store) => ne_refl (st := st2) (okE E hE)
  cases hz : fitZ ts roll rs with
  | false =>
    rw [hz] at hfit hask hne hP
    have hne := hne (.str "rolls") (by show PyData.strOk "rolls" = true; decide +kernel)
    have hask : ∀ st2, m_law_asked [encT ts, .int roll, encT rs] st2 = .ok (.lst [encN (gr roll ts 0 roll), encN F, .bl false, .str "rolls"]) st2 := hask
    generalize encN (gr roll ts 0 roll) = O at *
    generalize encN F = FF at *
    generalize encT ts = T at *
    generalize encT rs = RS at *
    unfold b_law_13
    simp [hfit]
    unfold b_law_14
    simp
    unfold b_law_15
    simp
    unfold b_law_17
    simp [hask, hne]
    exact hP _
  | true =>
    rw [hz] at hfit hask hne hP
    have hne := hne (encT (endsL ts roll rs)) (okd_T _)
    have hask : ∀ st2, m_law_asked [encT ts, .int roll, encT rs] st2 = .ok (.lst [encN (gr roll ts 0 roll), encN F, .bl true, encT (endsL ts roll rs)]) st2 := hask
    have hz2 := hz
    unfold fitZ at hz2
    rw [Bool.and_eq_true, Bool.and_eq_true, decide_eq_true_eq] at hz2
    have h1 := hz2.1
    have h0 : ∀ r ∈ rs, 0 ≤ r := fun r hr => by
      have := List.all_eq_true.mp hz2.2.1 r hr
      simpa using this
    obtain ⟨n, hn2⟩ : ∃ n, n = mxZ rs := ⟨_, rfl⟩
    have hmx := mx_le (B := 100) hB
    rw [← hn2] at hmx
    have hcomp : ∀ V st2, V = [X0, X1, some (.int roll), some (encT ts), none, X5, some (encN (gr roll ts 0 roll)), X7, none, X9, X10, some (encN F), some (encT rs), none, some (.bl true), some (.str "rolls"), none, none, none] →
        eComp false (iR (aCons (eIf (e2 gtD (eN lenD (aCons (eV 12) (aNil))) (eC (.int 0))) (e2 (addD false) (eN maxT (aCons (eV 12) (aNil))) (eC (.int 1))) (eC (.int 0))) (aNil))) (gN 13) (eC (.bl true)) (e2 subD (eV 2) (eN sumD (aCons (eComp false (iR (aCons (eN lenD (aCons (eV 3) (aNil))) (aNil))) (gN 4) (e2 eqD (e2 ixA (eV 12) (eV 4)) (eV 13)) (e2 ixA (eV 3) (eV 4)) [4]) (aNil)))) [13] V st2 = .ok (.lst ((endsL ts roll rs).map .int)) st2 := fun V st2 e => by
      have hsum : ∀ (j : Nat) V st2, V = [X0, X1, some (.int roll), some (encT ts), none, X5, some (encN (gr roll ts 0 roll)), X7, none, X9, X10, some (encN F), some (encT rs), some (.int (j : Nat)), some (.bl true), some (.str "rolls"), none, none, none] → (eN sumD (aCons (eComp false (iR (aCons (eN lenD (aCons (eV 3) (aNil))) (aNil))) (gN 4) (e2 eqD (e2 ixA (eV 12) (eV 4)) (eV 13)) (e2 ixA (eV 3) (eV 4)) [4]) (aNil))) V st2 = .ok (.int (ldZ ts rs j)) st2 := fun j V st2 e => by
        subst e
        obtain ⟨L, hL, hLs⟩ := sum_comp (ts := ts) (rs := rs) (j := (j : Nat)) h1 (by omega) (g := gN 4) (t := e2 eqD (e2 ixA (eV 12) (eV 4)) (eV 13)) (e := e2 ixA (eV 3) (eV 4)) (gd := grd (rng 0 ts.length, [])) (vs := [X0, X1, some (.int roll), some (encT ts), none, X5, some (encN (gr roll ts 0 roll)), X7, none, X9, X10, some (encN F), some (encT rs), some (.int (j : Nat)), some (.bl true), some (.str "rolls"), none, none, none]) (st := st2) trivial fun k hk => by
          have i1 := fun st2 => ix_T (l := rs) (k := k) (st := st2) (by omega)
          have i2 := fun st2 => ix_T (l := ts) (k := k) (st := st2) hk
          generalize rs.getD k 0 = z at *
          generalize encT ts = T at *
          generalize encT rs = RI at *
          exact ⟨_, rfl, by simp [i1], by simp [i2]⟩
        have hs := fun st2 => sum_list (L := L) (st := st2)
        refine wp_eq ?_
        rw [← hLs]
        generalize encN (gr roll ts 0 roll) = O at *
        generalize encN F = FF at *
        generalize encT ts = T at *
        generalize encT rs = RI at *
        simp [eComp_wp, l1, fitR_of (i := (ts.length : Int)) (by omega) (by omega)]
        refine ⟨by omega, ?_⟩
        rw [hL]
        simp [-Dn.sum_eq, hs]
      subst e
      have hcnt : ∀ V st2, V = [X0, X1, some (.int roll), some (encT ts), none, X5, some (encN (gr roll ts 0 roll)), X7, none, X9, X10, some (encN F), some (encT rs), none, some (.bl true), some (.str "rolls"), none, none, none] → (eIf (e2 gtD (eN lenD (aCons (eV 12) (aNil))) (eC (.int 0))) (e2 (addD false) (eN maxT (aCons (eV 12) (aNil))) (eC (.int 1))) (eC (.int 0))) V st2 = .ok (.int (n : Nat)) st2 := fun V st2 e => by
        subst e
        refine wp_eq ?_
        by_cases e : rs = []
        · have : n = 0 := by rw [hn2]; unfold mxZ; rw [if_pos e]
          subst this
          have z : ¬ 0 < rs.length := by rw [e]; simp
          generalize encT rs = RI at *
          simp [l2, z]
        · have hm : ∀ st2, maxT [encT rs] st2 = .ok (.int (maxI rs)) st2 := fun st2 => maxT_ints (st := st2) e
          have h3 := mx_int h0 e
          rw [← hn2] at h3
          have z : 0 < rs.length := List.length_pos_iff.mpr e
          generalize encT rs = RI at *
          simp [l2, z, hm, h3]
      have hb := fun (j : Nat) st2 => hsum j _ st2 rfl
      have hcnt' := fun st2 => hcnt _ st2 rfl
      have eE : (endsL ts roll rs).map D.int = (List.range n).map fun j : Nat => D.int (roll - ldZ ts rs j) := by
        unfold endsL loadsL
        rw [List.map_map, List.map_map, hn2]
        rfl
      clear hsum hcnt hfit hask hne
      refine wp_eq ?_
      rw [eE]
      generalize encN (gr roll ts 0 roll) = O at *
      generalize encN F = FF at *
      generalize encT ts = T at *
      generalize encT rs = RS at *
      rw [eComp_wp]
      simp only [iR_eq, aCons_eq, aNil_eq, hcnt']
      simp [fitR_of (i := (n : Int)) (by omega) (by omega)]
      refine ⟨by omega, ?_⟩
      have hel : ∀ x : Nat, e2 subD (eV 2) (eN sumD (aCons (eComp false (iR (aCons (eN lenD (aCons (eV 3) (aNil))) (aNil))) (gN 4) (e2 eqD (e2 ixA (eV 12) (eV 4)) (eV 13)) (e2 ixA (eV 3) (eV 4)) [4]) (aNil))) [X0, X1, some (.int roll), some T, none, X5, some O, X7, none, X9, X10, some FF, some RS, some (.int (x : Nat)), some (.bl true), some (.str "rolls"), none, none, none] st2 = .ok (.int (roll - ldZ ts rs x)) st2 := fun x => e2_val (eV2_val rfl) (hb x st2) rfl
      have hcg : compGo (gN 13) (eC (.bl true)) (e2 subD (eV 2) (eN sumD (aCons (eComp false (iR (aCons (eN lenD (aCons (eV 3) (aNil))) (aNil))) (gN 4) (e2 eqD (e2 ixA (eV 12) (eV 4)) (eV 13)) (e2 ixA (eV 3) (eV 4)) [4]) (aNil)))) (grd (rng 0 n, [])) [X0, X1, some (.int roll), some T, none, X5, some O, X7, none, X9, X10, some FF, some RS, none, some (.bl true), some (.str "rolls"), none, none, none] (rng 0 n) st2 = .ok ((List.range n).map fun j : Nat => D.int (roll - ldZ ts rs j)) st2 := by
        rw [rng0_map]
        exact compGo_map (f := fun j : Nat => D.int (j : Nat)) (h := fun j : Nat => D.int (roll - ldZ ts rs j)) trivial fun x hx => ⟨_, rfl, hel x⟩
      rw [hcg]
      simp
    have hc' := fun st2 => hcomp _ st2 rfl
    have het : ∀ st2, tupleD [.lst ((endsL ts roll rs).map .int)] st2 = .ok (encT (endsL ts roll rs)) st2 := fun st2 => rfl
    clear hcomp l1 l2
    generalize (endsL ts roll rs).map D.int = EI at *
    generalize encT (endsL ts roll rs) = EE at *
    generalize encN (gr roll ts 0 roll) = O at *
    generalize encN F = FF at *
    generalize encT ts = T at *
    generalize encT rs = RS at *
    unfold b_law_13
    simp [hfit]
    unfold b_law_14
    simp
    unfold b_law_15
    simp [hc', het]
    unfold b_law_17
    simp [hask, hne]
    exact hP _
end
end Lk69
namespace Lk69
open PySem Dn
theorem take_is : m_law_take = takeM := rfl
theorem begin_is : m_law_begin = beginM := rfl
def wr : List (List Int × Int × Str) := [(List.replicate 13 1, 5, "many"), ([2], 0, "roll"), ([2], 1000, "roll"), ([0], 5, "take"), ([6], 5, "take"), (List.replicate 13 1, 0, "many"), ([3, -1], 5, "take")]
def enc3 (x : List Int × Int × Str) : D := .tup [encT x.1, .int x.2.1, .str x.2.2]
theorem wr_ok : ∀ x ∈ wr, chk x.1 x.2.1 = some x.2.2 ∧ 1 ≤ x.1.length ∧ x.1.length ≤ 20 := fun x hx => by
  unfold wr at hx
  simp only [List.mem_cons, List.not_mem_nil, or_false] at hx
  rcases hx with rfl | rfl | rfl | rfl | rfl | rfl | rfl <;> refine ⟨by decide, by decide, by decide⟩
section
variable {st : Store} {P : Po}
theorem wrong_step {X0 X1 X2 X3 X5 X6 X7 X9 X10 X11 : Option D} {x : List Int × Int × Str} (hx : x ∈ wr)
    (hP : P.n [X0, X1, X2, X3, none, X5, X6, X7, none, X9, X10, X11, none, none, none, none, some (encT x.1), some (.int x.2.1), some (.str x.2.2)] st) :
    wpS (b_law_20 [X0, X1, X2, X3, none, X5, X6, X7, none, X9, X10, X11, none, none, none, none, some (encT x.1), some (.int x.2.1), some (.str x.2.2)] st) P := by
  obtain ⟨h, l0, l1⟩ := wr_ok x hx
  obtain ⟨ts, roll, c⟩ := x
  have h : chk ts roll = some c := h
  have hl : ∀ st2, lenD [encT ts] st2 = .ok (.int (ts.length : Nat)) st2 := fun st2 => by simp [encT]
  have hm : ∀ st2, mulQ false (.tup [.int 0]) (.int (ts.length : Nat)) st2 = .ok (.tup ((List.replicate ts.length (0 : Int)).map .int)) st2 := fun st2 => by
    have l0 : 1 ≤ ts.length := l0
    have l1 : ts.length ≤ 20 := l1
    have := mulQ_tup (b := false) (u := [.int 0]) (n := ts.length) (st := st2) (by simp) (by omega) (by omega) (by simp)
    rw [this]
    congr 2
    have : ∀ m : Nat, (List.replicate m [D.int 0]).flatten = (List.replicate m (0 : Int)).map .int := fun m => by
      induction m with
      | zero => rfl
      | succ m ih => rw [List.replicate_succ, List.flatten_cons, ih]; rfl
    exact this _
  have hm4 : ∀ st2, mulD false (.lst [.str c]) (.int 4) st2 = .ok (.lst [.str c, .str c, .str c, .str c]) st2 := fun st2 => by
    have e : mulD false (.lst [.str c]) (.int 4) st2 = (if -(2 ^ 63) ≤ (4 : Int) ∧ (4 : Int) < 2 ^ 63 ∧ room (1 * (4 : Int).toNat) then mkNew false (List.replicate (4 : Int).toNat [D.str c]).flatten st2 else .bad) := by
      unfold mulD
      rfl
    rw [e, if_pos ⟨by omega, by omega, by show 1 * (4 : Int).toNat ≤ 1000000; decide⟩]
    rfl
  have hask := fun (RS : D) st2 => wrong_ok (st := st2) h (by have : ts.length ≤ 20 := l1; omega) (RS := RS)
  have hcs : PyData.strOk c = true := by
    have : ∀ x ∈ wr, PyData.strOk x.2.2 = true := fun x hx => by
      unfold wr at hx
      simp only [List.mem_cons, List.not_mem_nil, or_false] at hx
      rcases hx with rfl | rfl | rfl | rfl | rfl | rfl | rfl <;> (show PyData.strOk _ = true; decide +kernel)
    exact this _ hx
  have hne : ∀ st2 : Store, neD (.lst [.str c, .str c, .str c, .str c]) (.lst [.str c, .str c, .str c, .str c]) st2 = .ok (.bl false) st2 := fun st2 => ne_refl (by
    show ([.str c, .str c, .str c, .str c] : List D).all (okd 59) = true
    simp [okd, hcs])
  have hP : P.n [X0, X1, X2, X3, none, X5, X6, X7, none, X9, X10, X11, none, none, none, none, some (encT ts), some (.int roll), some (.str c)] st := hP
  show wpS (b_law_20 [X0, X1, X2, X3, none, X5, X6, X7, none, X9, X10, X11, none, none, none, none, some (encT ts), some (.int roll), some (.str c)] st) P
  generalize encT ts = T at *
  generalize (List.replicate ts.length (0 : Int)).map D.int = Z at *
  unfold b_law_20
  simp [hl, hm, hm4, hask, hne]
  exact hP
end
theorem fm_map {α : Type} {p : α → Bool} {f : α → Nat} {l : List α} : ((l.filter p).map fun x => D.int ((f x : Nat) : Int)) = ((l.filter p).map fun x => ((f x : Nat) : Int)).map .int := by rw [List.map_map]; rfl
section
variable {ts rl : List Int} {roll : Int} {st : Store} {P : Po} {X0 X1 : Option D}
theorem law_rest (hn : ts.length ≤ 6) (ro : 1 ≤ roll ∧ roll ≤ 999) (hts : ∀ t ∈ ts, 1 ≤ t ∧ t ≤ roll) (hrl : rl.length = ts.length) (hrb : ∀ r ∈ rl, 0 ≤ r ∧ r < 4) (hP : P.r (.bl true) st) :
    wpS (b_law_5 [X0, X1, some (.int roll), some (encT ts), none, some (encT rl), none, none, none, none, none, none, none, none, none, none, none, none, none] st) P := by
  have hck : chk ts roll = none := by
    unfold chk
    rw [if_neg (by omega), if_neg (not_not_intro ro), if_neg]
    refine not_not_intro ?_
    rw [List.all_eq_true]
    intro t ht
    have := hts t ht
    simp [this.1, this.2]
  obtain ⟨M, F, hF⟩ := few_ex (ts := ts) (roll := roll) (by omega) (fun t ht => by have := hts t ht; omega) (fun t ht => (hts t ht).2)
  have way_G : ∀ w ∈ ways ts roll, w ∈ G ts.length 0 := fun w hw => (List.mem_filter.mp hw).1
  have hFG := way_G F hF.mem
  have hFl := G_len hFG
  have hFu := G_um hFG
  have hMs : M ≤ 800 := by have := hF.use; omega
  have hOw : gr roll ts 0 roll ∈ ways ts roll := gr_way (fun t ht => by have := hts t ht; omega) (by omega)
  have hOG := way_G _ hOw
  have hOl := G_len hOG
  have hOu := G_um hOG
  have hOs := gr_sorted (roll := roll) (ts := ts) (n := 0) (l := roll)
  have hbest := fun w hw hp => gr_best (ts := ts) (roll := roll) (row := w) (fun t ht => by have := hts t ht; omega) (by omega) hw hp
  have l1 : ∀ st2, lenD [encT ts] st2 = .ok (.int (ts.length : Nat)) st2 := fun st2 => by simp [encT]
  have hord := fun st2 => ordered_ok (ts := ts) (roll := roll) (st := st2) (by omega) fun t ht => (hts t ht).2
  have hall := fun st2 => all_ok (n := ts.length) (st := st2) hn
  have hfit : ∀ row ∈ G ts.length 0, ∀ st2, m_law_fits [encT ts, .int roll, encN row] st2 = .ok (.bl (fitb ts roll row)) st2 := fun row hr st2 => by
    have h1 := G_len hr
    have h2 := G_um hr
    rw [encN_T, law_fits_ok (by omega) (by simp; omega) (fun r h => by
      obtain ⟨k, hk, rfl⟩ := List.mem_map.mp h
      have := um_mem (u := 0) hk
      omega), fitZ_row h1 (by omega)]
  have hus : ∀ row ∈ G ts.length 0, ∀ st2, m_law_used [encN row] st2 = .ok (.int (um 0 row : Nat)) st2 := fun row hr st2 => used_ok hr (by omega)
  have hGl : (G ts.length 0).length ≤ 203 := by rw [← A_is]; exact A_len hn
  have hWl : (ways ts roll).length ≤ 203 := Nat.le_trans (List.length_filter_le _ _) hGl
  -- the ways
  have cW : ∀ st2, eComp false (iE (eN m_law_all (aCons (eN lenD (aCons (eV 3) (aNil))) (aNil)))) (gN 8) (eTru (eN m_law_fits (aCons (eV 3) (aCons (eV 2) (aCons (eV 8) (aNil)))))) (eV 8) [8] [X0, X1, some (.int roll), some (encT ts), none, some (encT rl), some (encN (gr roll ts 0 roll)), none, none, none, none, none, none, none, none, none, none, none, none] st2 = .ok (.lst ((ways ts roll).map encN)) st2 := fun st2 => by
    refine wp_eq ?_
    have cg : ∀ (O RL : D), compGo (gN 8) (eTru (eN m_law_fits (aCons (eV 3) (aCons (eV 2) (aCons (eV 8) (aNil)))))) (eV 8) (grd ((G ts.length 0).map encN, [])) [X0, X1, some (.int roll), some (encT ts), none, some RL, some O, none, none, none, none, none, none, none, none, none, none, none, none] ((G ts.length 0).map encN) st2 = .ok ((ways ts roll).map encN) st2 := fun O RL => by
      unfold ways
      refine compGo_fmap (f := encN) (h := encN) (p := fitb ts roll) trivial fun row hr => ⟨_, rfl, ?_, fun _ => ?_⟩
      · have := hfit row hr
        generalize encT ts = T at *
        generalize encN row = RR at *
        refine wp_eq ?_
        simp [this]
      · exact eV2_val rfl
    have cg := cg (encN (gr roll ts 0 roll)) (encT rl)
    generalize encN (gr roll ts 0 roll) = O at *
    generalize encT rl = RL at *
    generalize encT ts = T at *
    simp [eComp_wp, l1, hall]
    refine ⟨by omega, ?_⟩
    rw [cg]
    simp
  have cL : ∀ st2, eComp false (iE (eV 7)) (gN 8) (eC (.bl true)) (eN m_law_used (aCons (eV 8) (aNil))) [8] [X0, X1, some (.int roll), some (encT ts), none, some (encT rl), some (encN (gr roll ts 0 roll)), some (.lst ((ways ts roll).map encN)), none, none, none, none, none, none, none, none, none, none, none] st2 = .ok (.lst (((ways ts roll).map fun w => ((um 0 w : Nat) : Int)).map .int)) st2 := fun st2 => by
    refine wp_eq ?_
    have cg : ∀ (O RL T : D), compGo (gN 8) (eC (.bl true)) (eN m_law_used (aCons (eV 8) (aNil))) (grd ((ways ts roll).map encN, [])) [X0, X1, some (.int roll), some T, none, some RL, some O, some (.lst ((ways ts roll).map encN)), none, none, none, none, none, none, none, none, none, none, none] ((ways ts roll).map encN) st2 = .ok (((ways ts roll).map fun w => ((um 0 w : Nat) : Int)).map .int) st2 := fun O RL T => by
      rw [List.map_map]
      refine compGo_map (f := encN) (h := fun w => D.int ((um 0 w : Nat) : Int)) trivial fun row hr => ⟨_, rfl, ?_⟩
      have := hus row (way_G row hr)
      generalize encN row = RR at *
      generalize (ways ts roll).map encN = WW at *
      refine wp_eq ?_
      simp [this]
    have cg := cg (encN (gr roll ts 0 roll)) (encT rl) (encT ts)
    generalize encN (gr roll ts 0 roll) = O at *
    generalize encT rl = RL at *
    generalize encT ts = T at *
    simp [eComp_wp]
    refine ⟨by omega, ?_⟩
    rw [cg]
    simp
  have hmin : ∀ st2, minB [.lst (((ways ts roll).map fun w => ((um 0 w : Nat) : Int)).map .int)] st2 = .ok (.int (M : Nat)) st2 := fun st2 => by
    rw [minB_ints (by simp; exact List.ne_nil_of_mem hF.mem)]
    congr 2
    refine (min_uniq ?_ fun y hy => ?_).symm
    · exact List.mem_map.mpr ⟨F, hF.mem, by rw [hF.use]⟩
    · obtain ⟨w, hw, rfl⟩ := List.mem_map.mp hy
      have := hF.low w hw
      omega
  have cK : ∀ st2, eComp false (iE (eV 7)) (gN 8) (e2 eqD (eN (listD false) (aCons (eV 8) (aNil))) (eN (sortQ false) (aCons (eV 8) (aNil)))) (eN m_law_used (aCons (eV 8) (aNil))) [8] [X0, X1, some (.int roll), some (encT ts), none, some (encT rl), some (encN (gr roll ts 0 roll)), some (.lst ((ways ts roll).map encN)), none, some (.int (M : Nat)), none, none, none, none, none, none, none, none, none] st2 = .ok (.lst ((((ways ts roll).filter fun w => decide (w = srtN w)).map fun w => ((um 0 w : Nat) : Int)).map .int)) st2 := fun st2 => by
    refine wp_eq ?_
    have cg : ∀ (O RL T : D), compGo (gN 8) (e2 eqD (eN (listD false) (aCons (eV 8) (aNil))) (eN (sortQ false) (aCons (eV 8) (aNil)))) (eN m_law_used (aCons (eV 8) (aNil))) (grd ((ways ts roll).map encN, [])) [X0, X1, some (.int roll), some T, none, some RL, some O, some (.lst ((ways ts roll).map encN)), none, some (.int (M : Nat)), none, none, none, none, none, none, none, none, none] ((ways ts roll).map encN) st2 = .ok ((((ways ts roll).filter fun w => decide (w = srtN w)).map fun w => ((um 0 w : Nat) : Int)).map .int) st2 := fun O RL T => by
      rw [List.map_map]
      refine compGo_fmap (f := encN) (h := fun w => D.int ((um 0 w : Nat) : Int)) (p := fun w => decide (w = srtN w)) trivial fun row hr => ⟨_, rfl, ?_, fun _ => ?_⟩
      · have h1 := fun st2 => sortQ_row (row := row) (st := st2)
        have h2 := fun st2 => keep_ok (row := row) (st := st2)
        have h3 : ∀ st2, listD false [encN row] st2 = .ok (.lst (nats row)) st2 := fun st2 => rfl
        generalize decide (row = srtN row) = b at *
        generalize nats (srtN row) = N1 at *
        generalize nats row = N2 at *
        generalize encN row = RR at *
        generalize (ways ts roll).map encN = WW at *
        refine wp_eq ?_
        simp [-sortQ_eq, -list_eq, h1, h2, h3]
      · have := hus row (way_G row hr)
        generalize encN row = RR at *
        generalize (ways ts roll).map encN = WW at *
        refine wp_eq ?_
        simp [this]
    have cg := cg (encN (gr roll ts 0 roll)) (encT rl) (encT ts)
    generalize encN (gr roll ts 0 roll) = O at *
    generalize encT rl = RL at *
    generalize encT ts = T at *
    simp [eComp_wp]
    refine ⟨by omega, ?_⟩
    rw [cg]
    simp
  have hOk : gr roll ts 0 roll ∈ (ways ts roll).filter fun w => decide (w = srtN w) := List.mem_filter.mpr ⟨hOw, decide_eq_true (srtN_iff.mpr hOs)⟩
  have hminK : ∀ st2, minB [.lst ((((ways ts roll).filter fun w => decide (w = srtN w)).map fun w => ((um 0 w : Nat) : Int)).map .int)] st2 = .ok (.int (um 0 (gr roll ts 0 roll) : Nat)) st2 := fun st2 => by
    rw [minB_ints (by
      intro h
      have := List.map_eq_nil_iff.mp h
      rw [this] at hOk
      cases hOk)]
    congr 2
    refine (min_uniq ?_ fun y hy => ?_).symm
    · exact List.mem_map.mpr ⟨_, hOk, rfl⟩
    · obtain ⟨w, hw, rfl⟩ := List.mem_map.mp hy
      obtain ⟨w1, w2⟩ := List.mem_filter.mp hw
      have := hbest w w1 (srtN_iff.mp (of_decide_eq_true w2))
      omega
  have husO := hus _ hOG
  have cF : ∀ (X10 : Option D) st2, eComp false (iE (eV 7)) (gN 8) (e2 eqD (eN m_law_used (aCons (eV 8) (aNil))) (eV 9)) (eV 8) [8] [X0, X1, some (.int roll), some (encT ts), none, some (encT rl), some (encN (gr roll ts 0 roll)), some (.lst ((ways ts roll).map encN)), none, some (.int (M : Nat)), X10, none, none, none, none, none, none, none, none] st2 = .ok (.lst (((ways ts roll).filter fun w => decide (um 0 w = M)).map encN)) st2 := fun X10 st2 => by
    refine wp_eq ?_
    have cg : ∀ (O RL T : D), compGo (gN 8) (e2 eqD (eN m_law_used (aCons (eV 8) (aNil))) (eV 9)) (eV 8) (grd ((ways ts roll).map encN, [])) [X0, X1, some (.int roll), some T, none, some RL, some O, some (.lst ((ways ts roll).map encN)), none, some (.int (M : Nat)), X10, none, none, none, none, none, none, none, none] ((ways ts roll).map encN) st2 = .ok (((ways ts roll).filter fun w => decide (um 0 w = M)).map encN) st2 := fun O RL T => by
      refine compGo_fmap (f := encN) (h := encN) (p := fun w => decide (um 0 w = M)) trivial fun row hr => ⟨_, rfl, ?_, fun _ => eV2_val rfl⟩
      have := hus row (way_G row hr)
      generalize um 0 row = u at *
      generalize encN row = RR at *
      generalize (ways ts roll).map encN = WW at *
      refine wp_eq ?_
      simp [this]
      omega
    have cg := cg (encN (gr roll ts 0 roll)) (encT rl) (encT ts)
    generalize encN (gr roll ts 0 roll) = O at *
    generalize encT rl = RL at *
    generalize encT ts = T at *
    simp [eComp_wp]
    refine ⟨by omega, ?_⟩
    rw [cg]
    simp
  have hix0 : ∀ st2, ixA (.lst (((ways ts roll).filter fun w => decide (um 0 w = M)).map encN)) (.int 0) st2 = .ok (encN F) st2 := fun st2 => by
    rw [ixA_lst, atI_pos (by omega)]
    show (match (((ways ts roll).filter fun w => decide (um 0 w = M)).map encN)[0]? with | some d => Re.ok d st2 | none => .bad) = _
    rw [List.getElem?_map, hF.head]
    rfl
  have hF100 : ∀ x ∈ intsR F, 0 ≤ x ∧ x < 90 := fun x hx => by
    obtain ⟨k, hk, rfl⟩ := List.mem_map.mp hx
    have := um_mem (u := 0) hk
    omega
  have hO100 : ∀ x ∈ intsR (gr roll ts 0 roll), 0 ≤ x ∧ x < 90 := fun x hx => by
    obtain ⟨k, hk, rfl⟩ := List.mem_map.mp hx
    have := um_mem (u := 0) hk
    omega
  have told_ok : ∀ r ∈ [rl, intsR F, intsR (gr roll ts 0 roll), intsR F ++ [0], (intsR F).drop 1, (intsR F).map (fun x => x - 1), (intsR F).map (fun x => x + 1)], r.length ≤ 100 ∧ ∀ x ∈ r, x < 100 := fun r hr => by
    have lF : (intsR F).length ≤ 6 := by simp; omega
    have lO : (intsR (gr roll ts 0 roll)).length ≤ 6 := by simp; omega
    simp only [List.mem_cons, List.not_mem_nil, or_false] at hr
    rcases hr with rfl | rfl | rfl | rfl | rfl | rfl | rfl
    · exact ⟨by omega, fun x hx => by have := hrb x hx; omega⟩
    · exact ⟨by omega, fun x hx => by have := hF100 x hx; omega⟩
    · exact ⟨by omega, fun x hx => by have := hO100 x hx; omega⟩
    · refine ⟨by rw [List.length_append]; show _ + 1 ≤ _; omega, fun x hx => ?_⟩
      rcases List.mem_append.mp hx with hx | hx
      · have := hF100 x hx; omega
      · rw [List.mem_singleton] at hx; omega
    · exact ⟨by rw [List.length_drop]; omega, fun x hx => by have := hF100 x (List.mem_of_mem_drop hx); omega⟩
    · refine ⟨by rw [List.length_map]; omega, fun x hx => ?_⟩
      obtain ⟨y, hy, rfl⟩ := List.mem_map.mp hx
      have := hF100 y hy; omega
    · refine ⟨by rw [List.length_map]; omega, fun x hx => ?_⟩
      obtain ⟨y, hy, rfl⟩ := List.mem_map.mp hx
      have := hF100 y hy; omega
  have tA : ∀ st2, addD false (encN F) (.tup [.int 0]) st2 = .ok (encT (intsR F ++ [0])) st2 := fun st2 => by
    rw [encN_T]
    unfold encT
    rw [add_tup, if_pos (by simp; omega)]
    simp
  have tS : ∀ st2, sliceD false (encN F) (some 1) none st2 = .ok (encT ((intsR F).drop 1)) st2 := fun st2 => by
    rw [encN_T]
    unfold encT
    rw [sl_tup]
    have e : cutD ((intsR F).map D.int) (some 1) none = ((intsR F).map D.int).drop 1 := by
      by_cases h : 1 ≤ ((intsR F).map D.int).length
      · exact cut_from h
      · have : (intsR F).map D.int = [] := List.eq_nil_of_length_eq_zero (by omega)
        rw [this]
        rfl
    rw [e, List.map_drop]
  have tM : ∀ (f : D → D → Store → Re D) (g : Int → Int), (∀ x st2, f (.int x) (.int 1) st2 = .ok (.int (g x)) st2) → ∀ (X7 X9 X10 : Option D) (O RL T : D) st2, eComp false (iE (eV 11)) (gN 13) (eC (.bl true)) (e2 f (eV 13) (eC (.int 1))) [13] [X0, X1, some (.int roll), some T, none, some RL, some O, X7, none, X9, X10, some (encN F), none, none, none, none, none, none, none] st2 = .ok (.lst (((intsR F).map g).map .int)) st2 := fun f g hfg X7 X9 X10 O RL T st2 => by
    refine wp_eq ?_
    have lF : (intsR F).length ≤ 6 := by simp; omega
    rw [encN_T]
    unfold encT
    generalize intsR F = FI at *
    have cg : compGo (gN 13) (eC (.bl true)) (e2 f (eV 13) (eC (.int 1))) (grd ((FI).map D.int, [])) [X0, X1, some (.int roll), some T, none, some RL, some O, X7, none, X9, X10, some (.tup ((FI).map .int)), none, none, none, none, none, none, none] ((FI).map D.int) st2 = .ok (((FI).map g).map .int) st2 := by
      rw [show (FI.map g).map D.int = FI.map fun x => D.int (g x) from by rw [List.map_map]; rfl]
      exact compGo_map (f := D.int) (h := fun x => D.int (g x)) trivial fun x hx => by
        refine ⟨_, rfl, ?_⟩
        exact e2_val (a := eV 13) (b := eC (.int 1)) (x := .int x) (y := .int 1) (eV2_val rfl) rfl (hfg x st2)
    simp [eComp_wp]
    refine ⟨by omega, ?_⟩
    rw [cg]
    simp
  have cMinus := tM subD (fun x => x - 1) fun x st2 => rfl
  have cPlus := tM (addD false) (fun x => x + 1) fun x st2 => rfl
  have tup : ∀ (l : List Int) st2, tupleD [.lst (l.map .int)] st2 = .ok (encT l) st2 := fun l st2 => rfl
  -- the walk
  have tail : ∀ (X7 X9 X10 : Option D), wpS (b_law_12 [X0, X1, some (.int roll), some (encT ts), none, some (encT rl), some (encN (gr roll ts 0 roll)), X7, none, X9, X10, some (encN F), none, none, none, none, none, none, none] st) P := fun X7 X9 X10 => by
    have cm := cMinus X7 X9 X10 (encN (gr roll ts 0 roll)) (encT rl) (encT ts)
    have cp := cPlus X7 X9 X10 (encN (gr roll ts 0 roll)) (encT rl) (encT ts)
    have wrong : wpS (b_law_19 [X0, X1, some (.int roll), some (encT ts), none, some (encT rl), some (encN (gr roll ts 0 roll)), X7, none, X9, X10, some (encN F), none, none, none, none, none, none, none] st) P := by
      have m13 : ∀ st2, mulQ false (.tup [.int 1]) (.int 13) st2 = .ok (encT (List.replicate 13 1)) st2 := fun st2 => by
        have := mulQ_tup (b := false) (u := [.int 1]) (n := 13) (st := st2) (by simp) (by omega) (by omega) (by simp)
        exact this
      have ws := fun (x : List Int × Int × Str) (hx : x ∈ wr) (P : Po) hP => wrong_step (st := st) (P := P) (X0 := X0) (X1 := X1) (X2 := some (.int roll)) (X3 := some (encT ts)) (X5 := some (encT rl)) (X6 := some (encN (gr roll ts 0 roll))) (X7 := X7) (X9 := X9) (X10 := X10) (X11 := some (encN F)) hx hP
      have hwr : ∀ T13, T13 = encT (List.replicate 13 1) → [D.tup [T13, .int 5, .str "many"], .tup [.tup [.int 2], .int 0, .str "roll"], .tup [.tup [.int 2], .int 1000, .str "roll"], .tup [.tup [.int 0], .int 5, .str "take"], .tup [.tup [.int 6], .int 5, .str "take"], .tup [T13, .int 0, .str "many"], .tup [.tup [.int 3, .int (-1)], .int 5, .str "take"]] = wr.map enc3 := fun T13 e => by rw [e]; rfl
      clear cm cp
      generalize encN (gr roll ts 0 roll) = O at *
      generalize encN F = FF at *
      generalize encT rl = RL at *
      generalize encT ts = T at *
      obtain ⟨T13, h13⟩ : ∃ T13, T13 = encT (List.replicate 13 1) := ⟨_, rfl⟩
      rw [← h13] at m13
      unfold b_law_19
      simp [sFor_wp, m13]
      rw [hwr T13 h13]
      refine forGo_wp (fun l vs st2 => ∃ rest : List (List Int × Int × Str), l = rest.map enc3 ∧ (∀ x ∈ rest, x ∈ wr) ∧ st2 = st ∧ vs = [X0, X1, some (.int roll), some T, none, some RL, some O, X7, none, X9, X10, some FF, none, none, none, none, none, none, none]) (fun _ _ _ _ => trivial) (fun d l vs st2 hI => ?_) (fun vs st2 hI => ?_) _ _ _ ⟨wr, rfl, fun x hx => hx, rfl, rfl⟩
      · obtain ⟨rest, hj, hr, rfl, rfl⟩ := hI
        cases rest with
        | nil => simp at hj
        | cons x rest =>
          rw [List.map_cons] at hj
          injection hj with e1 e2
          subst e1 e2
          refine ⟨_, rfl, ?_⟩
          exact ws x (hr x List.mem_cons_self) _ ⟨rest, rfl, fun y hy => hr y (List.mem_cons_of_mem _ hy), rfl, rfl⟩
      · obtain ⟨rest, hj, hr, rfl, rfl⟩ := hI
        unfold b_law_22
        simp
        exact hP
    have ts7 := fun (r : List Int) hr (P : Po) hP => told_step (st := st) (P := P) (X0 := X0) (X1 := X1) (X5 := some (encT rl)) (X7 := X7) (X9 := X9) (X10 := X10) (rs := r) hck hF hMs (told_ok r hr).1 (told_ok r hr).2 hP
    obtain ⟨told, htold⟩ : ∃ told, told = [rl, intsR F, intsR (gr roll ts 0 roll), intsR F ++ [0], (intsR F).drop 1, (intsR F).map (fun x => x - 1), (intsR F).map (fun x => x + 1)] := ⟨_, rfl⟩
    have htl : [encT rl, encN F, encN (gr roll ts 0 roll), encT (intsR F ++ [0]), encT ((intsR F).drop 1), encT ((intsR F).map fun x => x - 1), encT ((intsR F).map fun x => x + 1)] = told.map encT := by
      rw [htold, encN_T, encN_T]
      rfl
    rw [← htold] at ts7
    have tm := tup ((intsR F).map fun x => x - 1)
    have tp := tup ((intsR F).map fun x => x + 1)
    clear cMinus cPlus tM told_ok
    generalize ((intsR F).map fun x => x - 1).map D.int = LM at *
    generalize ((intsR F).map fun x => x + 1).map D.int = LP at *
    generalize encT ((intsR F).map fun x => x - 1) = EM at *
    generalize encT ((intsR F).map fun x => x + 1) = EP at *
    generalize encT ((intsR F).drop 1) = ED at *
    generalize encT (intsR F ++ [0]) = EA at *
    generalize encN (gr roll ts 0 roll) = O at *
    generalize encN F = FF at *
    generalize encT rl = RL at *
    generalize encT ts = T at *
    unfold b_law_12
    simp [-Dn.add_tup, -Dn.sl_tup, sFor_wp, tA, tS, cm, cp, tm, tp]
    rw [htl]
    refine forGo_wp (fun l vs st2 => ∃ rest : List (List Int), l = rest.map encT ∧ (∀ x ∈ rest, x ∈ told) ∧ st2 = st ∧ vs = [X0, X1, some (.int roll), some T, none, some RL, some O, X7, none, X9, X10, some FF, none, none, none, none, none, none, none]) (fun _ _ _ _ => trivial) (fun d l vs st2 hI => ?_) (fun vs st2 hI => ?_) _ _ _ ⟨told, rfl, fun x hx => hx, rfl, rfl⟩
    · obtain ⟨rest, hj, hr, rfl, rfl⟩ := hI
      cases rest with
      | nil => simp at hj
      | cons x rest =>
        rw [List.map_cons] at hj
        injection hj with e1 e2
        subst e1 e2
        refine ⟨_, rfl, ?_⟩
        exact ts7 x (hr x List.mem_cons_self) _ fun x15 => ⟨rest, rfl, fun y hy => hr y (List.mem_cons_of_mem _ hy), rfl, rfl⟩
    · obtain ⟨rest, hj, hr, rfl, rfl⟩ := hI
      exact wrong
  clear cMinus cPlus tM told_ok tA tS tup hfit hus hbest hall
  obtain ⟨U, hU⟩ : ∃ U : Nat, U = um 0 (gr roll ts 0 roll) := ⟨_, rfl⟩
  rw [← hU] at hminK husO
  generalize (((ways ts roll).filter fun w => decide (w = srtN w)).map fun w => ((um 0 w : Nat) : Int)).map D.int = LK at *
  generalize ((ways ts roll).map fun w => ((um 0 w : Nat) : Int)).map D.int = LW at *
  generalize ((ways ts roll).filter fun w => decide (um 0 w = M)).map encN = LF at *
  generalize (ways ts roll).map encN = WW at *
  generalize encN (gr roll ts 0 roll) = O at *
  generalize encN F = FF at *
  generalize encT rl = RL at *
  generalize encT ts = T at *
  unfold b_law_5
  simp [hord]
  unfold b_law_6
  simp [cW]
  unfold b_law_7
  simp [cL, hmin]
  unfold b_law_8
  simp [cK]
  unfold b_law_9
  by_cases hz : 0 < ts.length
  · simp [l1, hz, husO, hminK]
    unfold b_law_11
    simp [cF, hix0]
    exact tail _ _ _
  · simp [l1, hz]
    unfold b_law_11
    simp [cF, hix0]
    exact tail _ _ _
end
theorem law_wp (ns : List Int) : wp (m_law [.frz (ns.map D.int)] []) fun d _ => d = .bl true := by
  unfold m_law
  rw [wp_fnD]
  unfold b_law
  obtain ⟨c0, h0, e0⟩ := begin_ok (ns := ns)
  have hPt : ∀ st2, wp (gcRet [] (.bl true) st2) fun d _ => d = .bl true := fun st2 => by rw [gc_nil (by simp), wp_ok]
  simp [begin_is, e0]
  unfold b_law_2
  simp [take_is]
  refine take_wp h0 (by omega) (by omega) fun r c1 h1 r0 r1 => ?_
  simp [take_is]
  refine take_wp h1 (by omega) (by omega) fun r2 c2 h2 q0 q1 => ?_
  obtain ⟨roll, ro, hz⟩ : ∃ roll : Int, (1 ≤ roll ∧ roll ≤ 999) ∧ ∀ st2, ixA (.lst [.int (1 + r), .int 10, .int 999, .int 100]) (.int r2) st2 = .ok (.int roll) st2 := by
    have : r2 = 0 ∨ r2 = 1 ∨ r2 = 2 ∨ r2 = 3 := by omega
    rcases this with rfl | rfl | rfl | rfl
    · exact ⟨1 + r, by omega, fun st2 => rfl⟩
    · exact ⟨10, by omega, fun st2 => rfl⟩
    · exact ⟨999, by omega, fun st2 => rfl⟩
    · exact ⟨100, by omega, fun st2 => rfl⟩
  simp [hz]
  unfold b_law_3
  simp [take_is, eComp_wp]
  refine take_wp h2 (by omega) (by omega) fun r3 c3 h3 r30 r31 => ?_
  simp [fitR_of (i := r3) (by omega) (by omega)]
  refine ⟨by omega, wp_mono (compGo_draw1 (T := []) (Pr := fun y => ∃ t : Int, y = .int t ∧ (1 ≤ t ∧ t ≤ roll)) (fun _ => trivial) _ c3 h3 fun d hd c4 h4 => ?_) fun ys st hys => ?_⟩
  · refine ⟨_, rfl, ?_⟩
    simp [take_is]
    refine take_wp h4 (by omega) (by omega) fun r4 c5 h5 r40 r41 => ?_
    by_cases g : 0 < r4
    · simp [g, take_is]
      refine take_wp (m := roll) h5 (by omega) (by omega) fun r5 c6 h6 r50 r51 => ?_
      simp
      exact de_of ⟨1 + r5, rfl, by omega, by omega⟩ h6
    · simp [g, take_is]
      refine take_wp h5 (by omega) (by omega) fun r5 c6 h6 r50 r51 => ?_
      have hd0 : roll / (2 + r5) ≤ roll := Int.ediv_le_self _ (by omega)
      have hdp : (0 : Int) < 2 + r5 ∧ 2 + r5 < 1073741824 := by omega
      simp [max2_int, hdp]
      refine de_of ⟨if 1 < roll / (2 + r5) then roll / (2 + r5) else 1, rfl, ?_⟩ h6
      split <;> omega
  · obtain ⟨t1, t2, c4, h4, rfl⟩ := hys
    obtain ⟨ts, rfl, hts⟩ := list_ofP (f := D.int) (p := fun t => 1 ≤ t ∧ t ≤ roll) t1
    have hn : ts.length ≤ 6 := by simp at t2; omega
    have l1 : ∀ st2, lenD [encT ts] st2 = .ok (.int (ts.length : Nat)) st2 := fun st2 => by simp [encT]
    have tup : ∀ st2, tupleD [.lst (ts.map .int)] st2 = .ok (encT ts) st2 := fun st2 => rfl
    clear t1 t2
    have rest := fun (rl : List Int) hrl hrb (st : Store) (P : Po) hP => law_rest (ts := ts) (rl := rl) (roll := roll) (st := st) (P := P) (X0 := some (.frz (ns.map .int))) (X1 := some (.loc 0)) hn ro hts hrl hrb hP
    generalize ts.map D.int = TI at *
    generalize encT ts = T at *
    simp [tup]
    unfold b_law_4
    simp [eComp_wp, l1, fitR_of (i := (ts.length : Int)) (by omega) (by omega)]
    refine ⟨by omega, wp_mono (compGo_draw1 (T := []) (Pr := fun y => ∃ t : Int, y = .int t ∧ (0 ≤ t ∧ t < 4)) (fun _ => trivial) _ c4 h4 fun d hd c5 h5 => ?_) fun ys st hys => ?_⟩
    · refine ⟨_, rfl, ?_⟩
      simp [take_is]
      refine take_wp h5 (by omega) (by omega) fun r5 c6 h6 r50 r51 => ?_
      exact de_of ⟨r5, rfl, r50, r51⟩ h6
    · obtain ⟨t1, t2, c5, h5, rfl⟩ := hys
      obtain ⟨rl, rfl, hrl⟩ := list_ofP (f := D.int) (p := fun t => 0 ≤ t ∧ t < 4) t1
      have hl2 : rl.length = ts.length := by simpa using t2
      have tup2 : ∀ st2, tupleD [.lst (rl.map .int)] st2 = .ok (encT rl) st2 := fun st2 => rfl
      have fin := rest rl hl2 hrl [c5] ⟨fun x st' => wp (gcRet [] D.non st') fun d x => d = D.bl true, fun d st' => wp (gcRet [] d st') fun d x => d = D.bl true, fun _ _ => False, fun _ _ => False⟩ (hPt _)
      clear t1 t2
      generalize rl.map D.int = RI at *
      generalize encT rl = RL at *
      simp [tup2]
      exact fin
theorem law_true (ns : List Int) (_ : ns.length ≤ 63) : ∃ st, m_law [.frz (ns.map D.int)] [] = .ok (.bl true) st := by
  obtain ⟨d, st, e, rfl⟩ := wp_ex (law_wp ns)
  exact ⟨st, e⟩
end Lk69
open PySem PySem.W PyProof.Rows
set_option maxHeartbeats 0 in
theorem PySem.Challenge.cw_callsheets_k69_takes_on_rolls_holds : PySem.Challenge.rw_callsheets_k69_takes_on_rolls.Holds := by
  w_on; o_law; k_head; (case hw => w_witness2)
  k_fill
  refine L2.walk_of (l := PySem.Challenge.rw_callsheets_k69_takes_on_rolls) (n := 63) (k := 5) (x := "script") (CX := fun w => L2.CX PySem.Challenge.pw_callsheets_k69_takes_on_rolls w) (sp := fun w => Lk69.spLaw _) rfl (by decide) rfl ⟨rfl, by decide, by decide⟩ (fun w h Y => PySem.W.kIn_of Y) ?F (fun _ _ a ns hl _ hS => ⟨a, ns, rfl, hS, hl, fun _ => rfl⟩) (fun _ _ _ _ _ h => Dn.cx_false h)
  case F =>
    intro w mg fa h KX G hmg
    refine' Lk69.all_mk KX G hmg Lk69.law_true ?g_MOST_TAKES ?g_MOST_MINUTES ?a1 ?l1 ?c1 ?k1 ?a2 ?l2 ?c2 ?k2 ?a3 ?l3 ?c3 ?k3 ?a4 ?l4 ?c4 ?k4 ?a5 ?l5 ?c5 ?k5 ?a6 ?l6 ?c6 ?k6 ?a7 ?l7 ?c7 ?k7 ?a8 ?l8 ?c8 ?k8 ?a9 ?l9 ?c9 ?k9 ?a10 ?l10 ?c10 ?k10 ?a11 ?l11 ?c11 ?k11 ?a12 ?l12 ?c12 ?k12 ?a13 ?l13 ?c13 ?k13 ?a14 ?l14 ?c14 ?k14 ?a15 ?l15 ?c15 ?k15 ?a16 ?l16 ?c16 ?k16 ?a17 ?l17 ?c17 ?k17 ?e_D ?e_I ?e_tI ?e_lI ?e_cI ?e_lc ?e_lcc ?e_clD ?e_zs ?e_zy ?e_a_StockError ?e_x_StockError ?e_sa_StockError ?e_ga_StockError ?e_gg_StockError ?e_nb_StockError ?e_ic_StockError ?e_k_StockError ?e_e_StockError ?e_v_StockError ?e_t_StockError ?e_h_StockError ?e_s_StockError ?y_e_StockError ?y_i_StockError ?y_t_StockError ?y_s_StockError_StockError ?z_abs ?z_all ?z_int ?z_len ?z_list ?z_max ?z_min ?z_range ?z_set ?z_sorted ?z_sum ?z_tuple ?z_zip ?v_hv ?v_file ?v_top ?v_ne_StockError
    (case g_MOST_TAKES => k_is); (case g_MOST_MINUTES => k_is); (case a1 => k_is); (case l1 => k_is); (case c1 => k_is); (case k1 => k_is); (case a2 => k_is); (case l2 => k_is); (case c2 => k_is); (case k2 => k_is); (case a3 => k_is); (case l3 => k_is); (case c3 => k_is); (case k3 => k_is); (case a4 => k_is); (case l4 => k_is); (case c4 => k_is); (case k4 => k_is); (case a5 => k_is); (case l5 => k_is); (case c5 => k_is); (case k5 => k_is); (case a6 => k_is); (case l6 => k_is); (case c6 => k_is); (case k6 => k_is); (case a7 => k_is); (case l7 => k_is); (case c7 => k_is); (case k7 => k_is); (case a8 => k_is); (case l8 => k_is); (case c8 => k_is); (case k8 => k_is); (case a9 => k_is); (case l9 => k_is); (case c9 => k_is); (case k9 => k_is); (case a10 => k_is); (case l10 => k_is); (case c10 => k_is); (case k10 => k_is); (case a11 => k_is); (case l11 => k_is); (case c11 => k_is); (case k11 => k_is); (case a12 => k_is); (case l12 => k_is); (case c12 => k_is); (case k12 => k_is); (case a13 => k_is); (case l13 => k_is); (case c13 => k_is); (case k13 => k_is); (case a14 => k_is); (case l14 => k_is); (case c14 => k_is); (case k14 => k_is); (case a15 => k_is); (case l15 => k_is); (case c15 => k_is); (case k15 => k_is); (case a16 => k_is); (case l16 => k_is); (case c16 => k_is); (case k16 => k_is); (case a17 => k_is); (case l17 => k_is); (case c17 => k_is); (case k17 => k_is); (case e_D => k_is); (case e_I => k_is); (case e_tI => k_is); (case e_lI => k_is); (case e_cI => k_is); (case e_lc => k_is); (case e_lcc => k_is); (case e_clD => k_is); (case e_zs => k_is); (case e_zy => k_is); (case e_a_StockError => k_is); (case e_x_StockError => k_is); (case e_sa_StockError => k_is); (case e_ga_StockError => k_is); (case e_gg_StockError => k_is); (case e_nb_StockError => k_is); (case e_ic_StockError => k_is); (case e_k_StockError => k_is); (case e_e_StockError => k_is); (case e_v_StockError => k_is); (case e_t_StockError => k_is); (case e_h_StockError => k_is); (case e_s_StockError => k_is); (case y_e_StockError => k_is); (case y_i_StockError => k_is); (case y_t_StockError => k_is); (case y_s_StockError_StockError => k_is); (case z_abs => k_is); (case z_all => k_is); (case z_int => k_is); (case z_len => k_is); (case z_list => k_is); (case z_max => k_is); (case z_min => k_is); (case z_range => k_is); (case z_set => k_is); (case z_sorted => k_is); (case z_sum => k_is); (case z_tuple => k_is); (case z_zip => k_is); (case v_hv => first | rfl | decide +kernel | kernel_rfl); (case v_file => first | rfl | decide +kernel | kernel_rfl); (case v_top => first | rfl | decide +kernel | kernel_rfl); (case v_ne_StockError => first | rfl | decide +kernel | kernel_rfl)
