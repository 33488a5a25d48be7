import PyProof.Rows.All
import Wide.All
import OpenK.AllK
import Wide.FinOn
import HandS.ForMost
import HandS.ForExc
import HandS.IsInst
import HandS.Conv
import HandS.Zip
import HandS.TupAny
import HandS.SortInts
import HandS.WideBits
import HandS.Flow
import HandS.Lambda
import HandS.ExcInit
import HandS.Small
import KE.OsArith
import HandS.ExcField
import KE.KExcIs
import KE.KTryMore
import KE.KRevSl
import HandS.Style
import HandS.More
import HandS.EndTab
import HandS.ExcIs
import PySem.Challenge.RW_paidornot_k45_whole_sums_of_items
set_option Elab.async false
set_option linter.all false
set_option maxRecDepth 100000
set_option maxHeartbeats 1000000
/-! The data layer: readings of the hand layer over plain data. -/
namespace DL
open PySem L2

/-! ### data -/
inductive D where
  | non | bl (b : Bool) | int (i : Int) | str (s : Str) | ty (n : String) | tup (xs : List D) | lst (xs : List D) | dct (ks : List L2.Key) (vs : List D) | adr (a : Addr)

abbrev St := L2.St
/-- all that was tracked stays -/
abbrev Ex (H H' : Hp) : Prop := ∀ a o, H a = some o → H' a = some o
theorem Ex.rfl {H : Hp} : Ex H H := fun _ _ h => h
theorem Ex.tr {H H1 H2 : Hp} (a : Ex H H1) (b : Ex H1 H2) : Ex H H2 := fun x o h => b x o (a x o h)
theorem ex_new {H : Hp} {p : Addr} {o : HO} (h : H p = none) : Ex H (upd H p o) := fun a u e => by
  rw [upd_ne (ne_of_none e h)]
  exact e
theorem ex_none {H H' : Hp} {p : Addr} (e : Ex H H') (h : H' p = none) : H p = none := by
  cases q : H p with
  | none => rfl
  | some o =>
    rw [e p o q] at h
    cases h
theorem ex_upd2 {F H : Hp} {p : Addr} {o : HO} (e : Ex F H) : Ex (upd F p o) (upd H p o) := fun a u h => by
  by_cases q : a = p
  · subst q
    rw [upd_same] at h ⊢
    exact h
  · rw [upd_ne q] at h ⊢
    exact e a u h
theorem ex_rd {H H' : Hp} {a : Addr} {u : HO} (e : Ex H H') (h : Rd H a u) : Rd H' a u := by
  rcases h with h | ⟨o, h⟩
  · exact Or.inl (e a _ h)
  · exact Or.inr ⟨o, e a _ h⟩
theorem ex_l {K : PySem.W.Frag} {H H' : Hp} {a : Addr} {xs : List V} (e : Ex H H') (h : SqL K H a xs) : SqL K H' a xs := by
  rcases h with h | h
  · exact Or.inl (ex_rd e h)
  · exact Or.inr h
theorem ex_t {K : PySem.W.Frag} {H H' : Hp} {a : Addr} {xs : List V} (e : Ex H H') (h : SqT K H a xs) : SqT K H' a xs := by
  rcases h with h | h
  · exact Or.inl (ex_rd e h)
  · exact Or.inr h

mutual
/-- the value v is the data d, told of the frozen heap F -/
inductive Dat (K : PySem.W.Frag) (F : Hp) : V → D → Prop
  | non : Dat K F .non .non
  | bl (b : Bool) : Dat K F (.bl b) (.bl b)
  | int (i : Int) : Dat K F (.int i) (.int i)
  | str (x : Str) : Dat K F (.str x) (.str x)
  | ty (n : String) : Dat K F (.ty n) (.ty n)
  | tup {a : Addr} {xs : List V} {ds : List D} : SqT K F a xs → DatL K F xs ds → Dat K F (.ref a) (.tup ds)
  | lst {a : Addr} {xs : List V} {ds : List D} : SqL K F a xs → DatL K F xs ds → Dat K F (.ref a) (.lst ds)
  | dct {a : Addr} {kvs : List (L2.Key × V)} {ks : List L2.Key} {vs : List D} : Rd F a (.dK kvs) → ks = kvs.map (·.1) → DatL K F (kvs.map (·.2)) vs → Dat K F (.ref a) (.dct ks vs)
  | adr (a : Addr) : Dat K F (.ref a) (.adr a)
inductive DatL (K : PySem.W.Frag) (F : Hp) : List V → List D → Prop
  | nil : DatL K F [] []
  | cons {v : V} {vs : List V} {d : D} {ds : List D} : Dat K F v d → DatL K F vs ds → DatL K F (v :: vs) (d :: ds)
end
section
variable {K : PySem.W.Frag} {F F' H H' : Hp}
mutual
theorem Dat.mono (e : Ex F F') : ∀ {v : V} {d : D}, Dat K F v d → Dat K F' v d
  | _, _, .non => .non
  | _, _, .bl b => .bl b
  | _, _, .int i => .int i
  | _, _, .str x => .str x
  | _, _, .ty n => .ty n
  | _, _, .tup h l => .tup (ex_t e h) (DatL.mono e l)
  | _, _, .lst h l => .lst (ex_l e h) (DatL.mono e l)
  | _, _, .dct h k l => .dct (ex_rd e h) k (DatL.mono e l)
  | _, _, .adr a => .adr a
theorem DatL.mono (e : Ex F F') : ∀ {vs : List V} {ds : List D}, DatL K F vs ds → DatL K F' vs ds
  | _, _, .nil => .nil
  | _, _, .cons h l => .cons (Dat.mono e h) (DatL.mono e l)
end
theorem DatL.length : ∀ {vs : List V} {ds : List D}, DatL K F vs ds → vs.length = ds.length
  | _, _, .nil => rfl
  | _, _, .cons _ l => congrArg (· + 1) (DatL.length l)
theorem DatL.get : ∀ {vs : List V} {ds : List D} {i : Nat} {d : D}, DatL K F vs ds → ds[i]? = some d → ∃ v, vs[i]? = some v ∧ Dat K F v d
  | _, _, _, _, .nil, e => by simp at e
  | _, _, 0, _, .cons h _, e => by
    simp at e
    subst e
    exact ⟨_, rfl, h⟩
  | _, _, i + 1, d, .cons _ l, e => by
    obtain ⟨v, h1, h2⟩ := DatL.get (i := i) (d := d) l (by simpa using e)
    exact ⟨v, by simpa using h1, h2⟩
theorem DatL.getV : ∀ {vs : List V} {ds : List D} {i : Nat} {v : V}, DatL K F vs ds → vs[i]? = some v → ∃ d, ds[i]? = some d ∧ Dat K F v d
  | _, _, _, _, .nil, e => by simp at e
  | _, _, 0, _, .cons h _, e => by
    simp at e
    subst e
    exact ⟨_, rfl, h⟩
  | _, _, i + 1, d, .cons _ l, e => by
    obtain ⟨v, h1, h2⟩ := DatL.getV (i := i) (v := d) l (by simpa using e)
    exact ⟨v, by simpa using h1, h2⟩
theorem DatL.append : ∀ {vs ws : List V} {ds es : List D}, DatL K F vs ds → DatL K F ws es → DatL K F (vs ++ ws) (ds ++ es)
  | _, _, _, _, .nil, s => s
  | _, _, _, _, .cons r t, s => .cons r (DatL.append t s)
theorem DatL.take : ∀ {vs : List V} {ds : List D} (n : Nat), DatL K F vs ds → DatL K F (vs.take n) (ds.take n)
  | _, _, 0, _ => by simp only [List.take_zero]; exact .nil
  | _, _, _ + 1, .nil => .nil
  | _, _, n + 1, .cons r t => .cons r (DatL.take n t)
theorem DatL.drop : ∀ {vs : List V} {ds : List D} (n : Nat), DatL K F vs ds → DatL K F (vs.drop n) (ds.drop n)
  | _, _, 0, h => h
  | _, _, _ + 1, .nil => .nil
  | _, _, n + 1, .cons _ t => DatL.drop n t
theorem DatL.set {v : V} {d : D} (r : Dat K F v d) : ∀ {vs : List V} {ds : List D} (i : Nat), DatL K F vs ds → DatL K F (vs.set i v) (ds.set i d)
  | _, _, _, .nil => .nil
  | _, _, 0, .cons _ t => .cons r t
  | _, _, i + 1, .cons q t => .cons q (DatL.set r i t)
theorem DatL.ints : ∀ ns : List Int, DatL K F (ns.map V.int) (ns.map D.int)
  | [] => .nil
  | n :: r => .cons (.int n) (DatL.ints r)
theorem DatL.of_ints : ∀ {vs : List V} (ns : List Int), DatL K F vs (ns.map D.int) → vs = ns.map V.int
  | _, [], .nil => rfl
  | _, n :: r, .cons h l => by
    cases h
    rw [DatL.of_ints r l]
    rfl
theorem DatL.of_bls : ∀ {vs : List V} (bs : List Bool), DatL K F vs (bs.map D.bl) → vs = bs.map V.bl
  | _, [], .nil => rfl
  | _, n :: r, .cons h l => by
    cases h
    rw [DatL.of_bls r l]
    rfl
theorem DatL.rep {vs : List V} {ds : List D} (h : DatL K F vs ds) : ∀ k : Nat, DatL K F (List.replicate k vs).flatten (List.replicate k ds).flatten
  | 0 => .nil
  | k + 1 => by
    simp only [List.replicate_succ, List.flatten_cons]
    exact h.append (DatL.rep h k)
theorem DatL.reverse : ∀ {vs : List V} {ds : List D}, DatL K F vs ds → DatL K F vs.reverse ds.reverse
  | _, _, .nil => .nil
  | _, _, .cons r t => by
    simp only [List.reverse_cons]
    exact (DatL.reverse t).append (.cons r .nil)
end

/-! ### the state over data -/
abbrev DS := List (Option D)
/-- an owned object: a list, a dict, that may change -/
inductive OO where
  | lst (xs : List D) | dct (kvs : List (L2.Key × D)) | tab (q : Str)
abbrev Mu := List (Addr × OO)
structure Fx where
  K : PySem.W.Frag
  F0 : Hp
  H0 : Hp
  hand : Option Addr
/-- the drawing hand: its five places -/
def HandAt (K : PySem.W.Frag) (F H : Hp) (h : Addr) : Prop := F h = none ∧ ∃ (c : Addr) (cells : List Int) (pl : Nat) (left mix cnt : Int),
  H h = some (.lst [.ref c, .int (pl : Int), .int left, .int mix, .int cnt]) ∧ SqL K F c (cells.map V.int) ∧ cells.length ≤ 63 ∧ (∀ z ∈ cells, 0 ≤ z) ∧ 0 ≤ left ∧ 0 ≤ mix ∧ 0 ≤ cnt
def OwnAt (K : PySem.W.Frag) (F H : Hp) (p : Addr) : OO → Prop
  | .lst xs => ∃ vs, H p = some (.lst vs) ∧ DatL K F vs xs
  | .dct ds => ∃ kvs : List (L2.Key × V), H p = some (.dK kvs) ∧ ds.map (·.1) = kvs.map (·.1) ∧ DatL K F (kvs.map (·.2)) (ds.map (·.2))
  | .tab q => ∃ ps : Array Value, H p = some (.tbl ps) ∧ TriplesOk ps.toList ∧ ∀ (pos : Pos) (cv : Value), codeAmong pos ps.toList = some cv → ∃ c, cv = .ref c ∧ F c = some (LamX.CodeO c q)
def Rep (K : PySem.W.Frag) (F : Hp) (σ : St) (ds : DS) : Prop := σ.length = ds.length ∧ ∀ (i : Nat) (d : D), ds[i]? = some (some d) → ∃ v, σ[i]? = some (some v) ∧ Dat K F v d
structure Okb (x : Fx) (F H : Hp) (μ : Mu) : Prop where
  ext : Ex F H
  ff : Ex x.F0 F
  new : ∀ a o, F a = some o → x.F0 a = some o ∨ x.H0 a = none
  fr : ∀ a o, x.H0 a = some o → x.hand ≠ some a → H a = some o
  hd : ∀ h, x.hand = some h → HandAt x.K F H h
  nd : (μ.map (·.1)).Nodup
  own : ∀ p ∈ μ, F p.1 = none ∧ x.H0 p.1 = none ∧ x.hand ≠ some p.1 ∧ OwnAt x.K F H p.1 p.2
/-- from a state to a later one within an expression -/
structure Nxt (x : Fx) (F H : Hp) (μ : Mu) (F' H' : Hp) (μ' : Mu) : Prop where
  ok : Okb x F' H' μ'
  ff : Ex F F'
  fr : ∀ b o, H b = some o → b ∉ μ.map (·.1) → x.hand ≠ some b → H' b = some o
  ad : μ'.map (·.1) = μ.map (·.1)
  nw : ∀ a o, F' a = some o → F a = some o ∨ H a = none
section
variable {x : Fx} {F F' H H' : Hp} {μ μ' : Mu} {σ : St} {ds : DS}
theorem Rep.mono {K : PySem.W.Frag} (e : Ex F F') (r : Rep K F σ ds) : Rep K F' σ ds := ⟨r.1, fun i d h => by
  obtain ⟨v, h1, h2⟩ := r.2 i d h
  exact ⟨v, h1, h2.mono e⟩⟩
theorem Rep.set {K : PySem.W.Frag} {i : Nat} {v : V} {d : D} (r : Rep K F σ ds) (h : Dat K F v d) : Rep K F (σ.set i (some v)) (ds.set i (some d)) := by
  refine ⟨by simp [r.1], fun j e hj => ?_⟩
  by_cases q : i = j
  · subst q
    rw [List.getElem?_set] at hj ⊢
    rw [if_pos rfl] at hj ⊢
    split at hj
    · cases hj
      rename_i hl
      rw [if_pos (by rw [r.1]; exact hl)]
      exact ⟨v, rfl, h⟩
    · cases hj
  · rw [List.getElem?_set_ne q] at hj ⊢
    exact r.2 j e hj
theorem Rep.unset {K : PySem.W.Frag} {i : Nat} {o : Option V} (r : Rep K F σ ds) : Rep K F (σ.set i o) (ds.set i none) := by
  refine ⟨by simp [r.1], fun j e hj => ?_⟩
  by_cases q : i = j
  · subst q
    rw [List.getElem?_set, if_pos rfl] at hj
    split at hj <;> cases hj
  · rw [List.getElem?_set_ne q] at hj ⊢
    exact r.2 j e hj
theorem Okb.h0 (ok : Okb x F H μ) {p : Addr} (h : H p = none) : x.H0 p = none := by
  cases q : x.H0 p with
  | none => rfl
  | some o =>
    by_cases z : x.hand = some p
    · obtain ⟨_, _, _, _, _, _, _, e, _⟩ := ok.hd p z
      rw [h] at e
      cases e
    · have := ok.fr p o q z
      rw [h] at this
      cases this
theorem Okb.f0 (ok : Okb x F H μ) {p : Addr} (h : H p = none) : F p = none := ex_none ok.ext h
theorem OwnAt.some {K : PySem.W.Frag} {p : Addr} {o : OO} (h : OwnAt K F H p o) : ∃ u, H p = some u := by
  cases o with
  | lst xs => obtain ⟨vs, e, _⟩ := h; exact ⟨_, e⟩
  | dct ys => obtain ⟨vs, e, _⟩ := h; exact ⟨_, e⟩
  | tab q => obtain ⟨vs, e, _⟩ := h; exact ⟨_, e⟩
theorem Nxt.rfl (ok : Okb x F H μ) : Nxt x F H μ F H μ := ⟨ok, Ex.rfl, fun _ _ h _ _ => h, Eq.refl _, fun _ _ h => .inl h⟩
/-- what was tracked is tracked -/
theorem Nxt.there (n : Nxt x F H μ F' H' μ') {b : Addr} {o : HO} (h : H b = some o) : ∃ u, H' b = some u := by
  by_cases z : x.hand = some b
  · obtain ⟨_, _, _, _, _, _, _, e, _⟩ := n.ok.hd b z
    exact ⟨_, e⟩
  · by_cases m : b ∈ μ.map (·.1)
    · rw [← n.ad] at m
      obtain ⟨q, hq, e⟩ := List.mem_map.mp m
      obtain ⟨u, hu⟩ := (n.ok.own q hq).2.2.2.some
      exact ⟨u, by rw [← e]; exact hu⟩
    · exact ⟨o, n.fr b o h m z⟩
theorem Nxt.tr {F1 H1 F2 H2 : Hp} {μ1 μ2 : Mu} (a : Nxt x F H μ F1 H1 μ1) (b : Nxt x F1 H1 μ1 F2 H2 μ2) : Nxt x F H μ F2 H2 μ2 :=
  ⟨b.ok, a.ff.tr b.ff, fun c o h n q => b.fr c o (a.fr c o h n q) (by rw [a.ad]; exact n) q, b.ad.trans a.ad, fun c o h => by
    rcases b.nw c o h with z | z
    · exact a.nw c o z
    · refine .inr ?_
      cases q : H c with
      | none => rfl
      | some u =>
        obtain ⟨w, hw⟩ := a.there q
        rw [z] at hw
        cases hw⟩
theorem OwnAt.mono {K : PySem.W.Frag} {p : Addr} {o : OO} (h : OwnAt K F H p o) (e : Ex F F') (q : H' p = H p) : OwnAt K F' H' p o := by
  cases o with
  | lst xs =>
    obtain ⟨vs, a, b⟩ := h
    exact ⟨vs, q.trans a, b.mono e⟩
  | dct ys =>
    obtain ⟨vs, a, k, b⟩ := h
    exact ⟨vs, q.trans a, k, b.mono e⟩
  | tab qn =>
    obtain ⟨ps, a, k, b⟩ := h
    exact ⟨ps, q.trans a, k, fun pos cv hc => by
      obtain ⟨c, h1, h2⟩ := b pos cv hc
      exact ⟨c, h1, e _ _ h2⟩⟩
theorem HandAt.mono {K : PySem.W.Frag} {h : Addr} (a : HandAt K F H h) (e : Ex F F') (q : H' h = H h) (n : F' h = none) : HandAt K F' H' h := by
  obtain ⟨_, c, cells, pl, left, mix, cnt, e1, e2, r⟩ := a
  exact ⟨n, c, cells, pl, left, mix, cnt, q.trans e1, ex_l e e2, r⟩
/-- a new object is frozen -/
theorem Okb.lay (ok : Okb x F H μ) {p : Addr} (o : HO) (h : H p = none) : Nxt x F H μ (upd F p o) (upd H p o) μ := by
  have hF := ok.f0 h
  have h0 := ok.h0 h
  have hup : ∀ b, (∃ u, H b = some u) → b ≠ p := fun b ⟨u, e⟩ z => by
    subst z
    rw [h] at e
    cases e
  refine ⟨⟨ex_upd2 ok.ext, ok.ff.tr (ex_new hF), fun a u e => ?_, fun a u e n => ?_, fun q e => ?_, ok.nd, fun q hq => ?_⟩, ex_new hF, fun b u e _ _ => ex_new h b u e, rfl, fun a u e => ?_⟩
  · by_cases z : a = p
    · subst z
      exact .inr h0
    · rw [upd_ne z] at e
      exact ok.new a u e
  · exact ex_new h a u (ok.fr a u e n)
  · have hh := ok.hd q e
    have z : q ≠ p := hup q (by obtain ⟨_, _, _, _, _, _, _, e, _⟩ := hh; exact ⟨_, e⟩)
    exact hh.mono (ex_new hF) (upd_ne z) (by rw [upd_ne z]; exact hh.1)
  · obtain ⟨a1, a2, a3, a4⟩ := ok.own q hq
    have z : q.1 ≠ p := hup q.1 a4.some
    exact ⟨by rw [upd_ne z]; exact a1, a2, a3, a4.mono (ex_new hF) (upd_ne z)⟩
  · by_cases z : a = p
    · subst z
      exact .inr h
    · rw [upd_ne z] at e
      exact .inl e
/-- a new object is owned -/
theorem Okb.take (ok : Okb x F H μ) {p : Addr} {o : HO} {u : OO} (h : H p = none) (hu : OwnAt x.K F (upd H p o) p u) : Okb x F (upd H p o) ((p, u) :: μ) := by
  have hF := ok.f0 h
  have h0 := ok.h0 h
  have hup : ∀ b, (∃ u, H b = some u) → b ≠ p := fun b ⟨u, e⟩ z => by
    subst z
    rw [h] at e
    cases e
  have np : p ∉ μ.map (·.1) := fun z => by
    obtain ⟨q, hq, e⟩ := List.mem_map.mp z
    exact hup q.1 (ok.own q hq).2.2.2.some e
  refine ⟨ok.ext.tr (ex_new h), ok.ff, ok.new, fun a u e n => ex_new h a u (ok.fr a u e n), fun q e => ?_, by simp only [List.map_cons, List.nodup_cons]; exact ⟨np, ok.nd⟩, fun q hq => ?_⟩
  · have hh := ok.hd q e
    have z : q ≠ p := hup q (by obtain ⟨_, _, _, _, _, _, _, e, _⟩ := hh; exact ⟨_, e⟩)
    exact hh.mono Ex.rfl (upd_ne z) hh.1
  · rcases List.mem_cons.mp hq with e | hq
    · subst e
      refine ⟨hF, h0, fun z => ?_, hu⟩
      obtain ⟨_, _, _, _, _, _, _, e, _⟩ := ok.hd p z
      rw [h] at e
      cases e
    · obtain ⟨a1, a2, a3, a4⟩ := ok.own q hq
      exact ⟨a1, a2, a3, a4.mono Ex.rfl (upd_ne (hup q.1 a4.some))⟩
theorem map_set_fst (μ : Mu) (j : Nat) (p : Addr) (u v : OO) (h : μ[j]? = some (p, u)) : (μ.set j (p, v)).map (·.1) = μ.map (·.1) := by
  apply List.ext_getElem?
  intro i
  rw [List.getElem?_map, List.getElem?_map, List.getElem?_set]
  split
  · rename_i e
    subst e
    rw [h]
    obtain ⟨hl, _⟩ := List.getElem?_eq_some_iff.mp h
    rw [if_pos hl]
    rfl
  · rfl
theorem mu_other {μ : Mu} {j : Nat} {p : Addr} {u v : OO} (nd : (μ.map (·.1)).Nodup) (h : μ[j]? = some (p, u)) {q : Addr × OO} (hq : q ∈ μ.set j (p, v)) : q = (p, v) ∨ (q ∈ μ ∧ q.1 ≠ p) := by
  obtain ⟨i, hi⟩ := List.mem_iff_getElem?.mp hq
  rw [List.getElem?_set] at hi
  split at hi
  · rename_i e
    split at hi
    · exact .inl (Option.some.inj hi).symm
    · cases hi
  · rename_i e
    refine .inr ⟨List.mem_of_getElem? hi, fun z => e ?_⟩
    have h1 : (μ.map (·.1))[j]? = some p := by rw [List.getElem?_map, h]; rfl
    have h2 : (μ.map (·.1))[i]? = some p := by rw [List.getElem?_map, hi, ← z]; rfl
    obtain ⟨l1, g1⟩ := List.getElem?_eq_some_iff.mp h1
    obtain ⟨l2, g2⟩ := List.getElem?_eq_some_iff.mp h2
    exact (List.getElem_inj nd).mp (g1.trans g2.symm)
/-- an owned object changes -/
theorem Okb.write (ok : Okb x F H μ) {j : Nat} {p : Addr} {u v : OO} {o : HO} (h : μ[j]? = some (p, u)) (hu : OwnAt x.K F (upd H p o) p v) : Nxt x F H μ F (upd H p o) (μ.set j (p, v)) := by
  have hm : (p, u) ∈ μ := List.mem_of_getElem? h
  obtain ⟨a1, a2, a3, a4⟩ := ok.own _ hm
  have hF : ∀ b w, F b = some w → b ≠ p := fun b w e z => by
    subst z
    rw [a1] at e
    cases e
  refine ⟨⟨fun b w e => by rw [upd_ne (hF b w e)]; exact ok.ext b w e, ok.ff, ok.new, fun b w e n => ?_, fun q e => ?_, by rw [map_set_fst μ j p u v h]; exact ok.nd, fun q hq => ?_⟩, Ex.rfl, fun b w e n _ => ?_, map_set_fst μ j p u v h, fun _ _ h => .inl h⟩
  · have z : b ≠ p := fun z => by
      subst z
      rw [a2] at e
      cases e
    rw [upd_ne z]
    exact ok.fr b w e n
  · have hh := ok.hd q e
    have z : q ≠ p := fun z => a3 (by rw [e, z])
    exact hh.mono Ex.rfl (upd_ne z) hh.1
  · rcases mu_other ok.nd h hq with e | ⟨hq, ne⟩
    · subst e
      exact ⟨a1, a2, a3, hu⟩
    · obtain ⟨b1, b2, b3, b4⟩ := ok.own q hq
      exact ⟨b1, b2, b3, b4.mono Ex.rfl (upd_ne ne)⟩
  · have z : b ≠ p := fun z => n (by subst z; exact List.mem_map.mpr ⟨_, hm, rfl⟩)
    rw [upd_ne z]
    exact e
/-- an owned object is frozen -/
theorem Okb.freeze (ok : Okb x F H μ) {j : Nat} {p : Addr} {u : OO} (h : μ[j]? = some (p, u)) : ∃ o, H p = some o ∧ F p = none ∧ Okb x (upd F p o) H (μ.eraseIdx j) := by
  have hm : (p, u) ∈ μ := List.mem_of_getElem? h
  obtain ⟨a1, a2, a3, a4⟩ := ok.own _ hm
  obtain ⟨o, ho⟩ := a4.some
  refine ⟨o, ho, a1, ⟨fun b w e => ?_, ok.ff.tr (ex_new a1), fun b w e => ?_, ok.fr, fun q e => ?_, ?_, fun q hq => ?_⟩⟩
  · by_cases z : b = p
    · subst z
      rw [upd_same] at e
      exact ho.trans e
    · rw [upd_ne z] at e
      exact ok.ext b w e
  · by_cases z : b = p
    · subst z
      exact .inr a2
    · rw [upd_ne z] at e
      exact ok.new b w e
  · have hh := ok.hd q e
    have z : q ≠ p := fun z => a3 (by rw [e, z])
    exact hh.mono (ex_new a1) rfl (by rw [upd_ne z]; exact hh.1)
  · exact List.Nodup.sublist ((List.eraseIdx_sublist μ j).map _) ok.nd
  · have hq' : q ∈ μ := List.mem_of_mem_eraseIdx hq
    obtain ⟨b1, b2, b3, b4⟩ := ok.own q hq'
    have ne : q.1 ≠ p := fun z => by
      obtain ⟨i, hi⟩ := List.mem_eraseIdx_iff_getElem?.mp hq
      have h1 : (μ.map (·.1))[j]? = some p := by rw [List.getElem?_map, h]; rfl
      have h2 : (μ.map (·.1))[i]? = some p := by rw [List.getElem?_map, hi.2, ← z]; rfl
      obtain ⟨l1, g1⟩ := List.getElem?_eq_some_iff.mp h1
      obtain ⟨l2, g2⟩ := List.getElem?_eq_some_iff.mp h2
      exact hi.1 ((List.getElem_inj ok.nd).mp (g1.trans g2.symm)).symm
    exact ⟨by rw [upd_ne ne]; exact b1, b2, b3, b4.mono (ex_new a1) rfl⟩
end
end DL
set_option Elab.async false
set_option linter.all false
set_option maxRecDepth 100000
set_option maxHeartbeats 1000000
namespace DL
open PySem L2

/-! ### judgements over data -/
def ED (x : Fx) (te : TE) (ds : DS) (μ : Mu) (Q : D → Mu → Prop) : Prop := ∀ F H σ, Okb x F H μ → Rep x.K F σ ds → ∀ Qv : VK, (∀ F' H' μ' v d, Nxt x F H μ F' H' μ' → Dat x.K F' v d → Q d μ' → Qv v H') → te σ H Qv
def TD (x : Fx) (tt : TT) (ds : DS) (μ : Mu) (Q : Bool → Mu → Prop) : Prop := ∀ F H σ, Okb x F H μ → Rep x.K F σ ds → ∀ Qb : Bool → Hp → Prop, (∀ F' H' μ' b, Nxt x F H μ F' H' μ' → Q b μ' → Qb b H') → tt σ H Qb
def AD (x : Fx) (ta : TA) (ds : DS) (μ : Mu) (Q : List D → Mu → Prop) : Prop := ∀ F H σ, Okb x F H μ → Rep x.K F σ ds → ∀ Qa : List V → Hp → Prop, (∀ F' H' μ' vs es, Nxt x F H μ F' H' μ' → DatL x.K F' vs es → Q es μ' → Qa vs H') → ta σ H Qa
def OD (x : Fx) (to : TO) (ds : DS) (μ : Mu) (Q : Option Int → Mu → Prop) : Prop := ∀ F H σ, Okb x F H μ → Rep x.K F σ ds → ∀ Qo : Option Int → Hp → Prop, (∀ F' H' μ' o, Nxt x F H μ F' H' μ' → Q o μ' → Qo o H') → to σ H Qo
def RD (x : Fx) (r : R2) (a b : D) (μ : Mu) (Q : D → Mu → Prop) : Prop := ∀ F H, Okb x F H μ → ∀ u v, Dat x.K F u a → Dat x.K F v b → ∀ Qv : VK, (∀ F' H' μ' w d, Nxt x F H μ F' H' μ' → Dat x.K F' w d → Q d μ' → Qv w H') → r u v H Qv
def UD (x : Fx) (r : V → Hp → VK → Prop) (a : D) (μ : Mu) (Q : D → Mu → Prop) : Prop := ∀ F H, Okb x F H μ → ∀ u, Dat x.K F u a → ∀ Qv : VK, (∀ F' H' μ' w d, Nxt x F H μ F' H' μ' → Dat x.K F' w d → Q d μ' → Qv w H') → r u H Qv
def CD (x : Fx) (r : List V → Hp → VK → Prop) (as : List D) (μ : Mu) (Q : D → Mu → Prop) : Prop := ∀ F H, Okb x F H μ → ∀ us, DatL x.K F us as → ∀ Qv : VK, (∀ F' H' μ' w d, Nxt x F H μ F' H' μ' → Dat x.K F' w d → Q d μ' → Qv w H') → r us H Qv
/-- a statement: N behind it, R of what is returned, B at a break, C at a continue -/
def SD (x : Fx) (ts : TS) (ds : DS) (μ : Mu) (N : DS → Mu → Prop) (R : D → Mu → Prop) (B C : DS → Mu → Prop) : Prop := ∀ F H σ, Okb x F H μ → Rep x.K F σ ds → ∀ E : Ends,
  (∀ F' H' σ' ds' μ', Ex F F' → Okb x F' H' μ' → Rep x.K F' σ' ds' → N ds' μ' → E.nx σ' H') → (∀ F' H' μ' v d, Okb x F' H' μ' → Dat x.K F' v d → R d μ' → E.rt v H') →
  (∀ F' H' σ' ds' μ', Ex F F' → Okb x F' H' μ' → Rep x.K F' σ' ds' → B ds' μ' → E.bk σ' H') → (∀ F' H' σ' ds' μ', Ex F F' → Okb x F' H' μ' → Rep x.K F' σ' ds' → C ds' μ' → E.ct σ' H') → ts E σ H
/-- a target takes the data y -/
def GD (x : Fx) (g : TG) (y : D) (ds : DS) (μ : Mu) (Q : DS → Mu → Prop) : Prop := ∀ F H σ v, Okb x F H μ → Rep x.K F σ ds → Dat x.K F v y → ∀ Qs : St → Hp → Prop, (∀ F' H' μ' σ' ds', Nxt x F H μ F' H' μ' → Rep x.K F' σ' ds' → Q ds' μ' → Qs σ' H') → g v σ H Qs
def GDs (x : Fx) (g : TGs) (ys : List D) (ds : DS) (μ : Mu) (Q : DS → Mu → Prop) : Prop := ∀ F H σ vs, Okb x F H μ → Rep x.K F σ ds → DatL x.K F vs ys → ∀ Qs : St → Hp → Prop, (∀ F' H' μ' σ' ds', Nxt x F H μ F' H' μ' → Rep x.K F' σ' ds' → Q ds' μ' → Qs σ' H') → g vs σ H Qs
def asB (d : D) (k : Bool → Prop) : Prop := match d with | .bl b => k b | _ => False
def asI (d : D) (k : Int → Prop) : Prop := match d with | .int i => k i | _ => False
def asU (d : D) (k : List D → Prop) : Prop := match d with | .tup l => k l | _ => False
def asL (d : D) (k : List D → Prop) : Prop := match d with | .lst l => k l | _ => False
def isT (b : Bool) (p q : Prop) : Prop := if b = true then p else q
theorem isT_of {b : Bool} {p q : Prop} (h1 : b = true → p) (h2 : b = false → q) : isT b p q := by
  cases b with
  | true =>
    unfold isT
    rw [if_pos rfl]
    exact h1 rfl
  | false =>
    unfold isT
    rw [if_neg Bool.false_ne_true]
    exact h2 rfl
theorem isT_t {p q : Prop} (h : p) : isT true p q := by
  unfold isT
  rw [if_pos rfl]
  exact h
theorem isT_f {p q : Prop} (h : q) : isT false p q := by
  unfold isT
  rw [if_neg Bool.false_ne_true]
  exact h
theorem isT_ite {b : Bool} {p q : Prop} (h : isT b p q) : if b = true then p else q := h
section
variable {x : Fx} {ta tb tc te : TE} {tt uu : TT} {ds : DS} {μ : Mu} {Q : D → Mu → Prop} {QB : Bool → Mu → Prop}

theorem ED.imp {Q' : D → Mu → Prop} (h : ED x te ds μ Q) (k : ∀ d μ', Q d μ' → Q' d μ') : ED x te ds μ Q' := fun F H σ ok rp Qv c => h F H σ ok rp Qv fun F' H' μ' v d n dv q => c F' H' μ' v d n dv (k d μ' q)
theorem ed_var {i : Nat} {d : D} (h : ds[i]? = some (some d)) (q : Q d μ) : ED x (tVar i) ds μ Q := fun F H σ ok rp Qv k => by
  obtain ⟨v, h1, h2⟩ := rp.2 i d h
  exact ⟨v, h1, k F H μ v d (.rfl ok) h2 q⟩
theorem ed_int {i : Int} (q : Q (.int i) μ) : ED x (tC (.int i)) ds μ Q := fun F H σ ok rp Qv k => k F H μ _ _ (.rfl ok) (.int i) q
theorem ed_bl {i : Bool} (q : Q (.bl i) μ) : ED x (tC (.bl i)) ds μ Q := fun F H σ ok rp Qv k => k F H μ _ _ (.rfl ok) (.bl i) q
theorem ed_str {i : Str} (q : Q (.str i) μ) : ED x (tC (.str i)) ds μ Q := fun F H σ ok rp Qv k => k F H μ _ _ (.rfl ok) (.str i) q
theorem ed_ty {i : String} (q : Q (.ty i) μ) : ED x (tC (.ty i)) ds μ Q := fun F H σ ok rp Qv k => k F H μ _ _ (.rfl ok) (.ty i) q
theorem ed_non (q : Q .non μ) : ED x (tC .non) ds μ Q := fun F H σ ok rp Qv k => k F H μ _ _ (.rfl ok) .non q
theorem ed_op {r : R2} (h : ED x ta ds μ fun a μ1 => ED x tb ds μ1 fun b μ2 => RD x r a b μ2 Q) : ED x (tOp r ta tb) ds μ Q := fun F H σ ok rp Qv k =>
  h F H σ ok rp _ fun F1 H1 μ1 v1 d1 n1 dv1 q1 => q1 F1 H1 σ n1.ok (rp.mono n1.ff) _ fun F2 H2 μ2 v2 d2 n2 dv2 q2 =>
    q2 F2 H2 n2.ok v1 v2 (dv1.mono n2.ff) dv2 Qv fun F3 H3 μ3 w d n3 dw q3 => k F3 H3 μ3 w d ((n1.tr n2).tr n3) dw q3
theorem ed_un {r : V → Hp → VK → Prop} (h : ED x ta ds μ fun a μ1 => UD x r a μ1 Q) : ED x (tUn r ta) ds μ Q := fun F H σ ok rp Qv k =>
  h F H σ ok rp _ fun F1 H1 μ1 v1 d1 n1 dv1 q1 => q1 F1 H1 n1.ok v1 dv1 Qv fun F3 H3 μ3 w d n3 dw q3 => k F3 H3 μ3 w d (n1.tr n3) dw q3
/-! operators -/
theorem rd_int {f : Int → Int → Int} {i j : Int} (q : Q (.int (f i j)) μ) : RD x (rI0 fun i j => .int (f i j)) (.int i) (.int j) μ Q := fun F H ok u v du dv Qv k => by
  cases du
  cases dv
  exact ⟨i, j, rfl, rfl, k F H μ _ _ (.rfl ok) (.int _) q⟩
theorem rd_bool {f : Int → Int → Bool} {i j : Int} (q : Q (.bl (f i j)) μ) : RD x (rI0 fun i j => .bl (f i j)) (.int i) (.int j) μ Q := fun F H ok u v du dv Qv k => by
  cases du
  cases dv
  exact ⟨i, j, rfl, rfl, k F H μ _ _ (.rfl ok) (.bl _) q⟩
theorem rd_intC {C : Int → Int → Prop} {f : Int → Int → Int} {i j : Int} (hc : C i j) (q : Q (.int (f i j)) μ) : RD x (rI C fun i j => .int (f i j)) (.int i) (.int j) μ Q := fun F H ok u v du dv Qv k => by
  cases du
  cases dv
  exact ⟨i, j, rfl, rfl, hc, k F H μ _ _ (.rfl ok) (.int _) q⟩
theorem ud_int {f : Int → Int} {i : Int} (q : Q (.int (f i)) μ) : UD x (rU fun i => .int (f i)) (.int i) μ Q := fun F H ok u du Qv k => by
  cases du
  exact ⟨i, rfl, k F H μ _ _ (.rfl ok) (.int _) q⟩
/-- == of scalars -/
def scalD : D → D → Bool
  | .non, .non => true | .non, .int _ => true | .int _, .non => true | .non, .bl _ => true | .bl _, .non => true | .non, .str _ => true | .str _, .non => true
  | .int _, .int _ => true | .bl _, .bl _ => true | .str _, .str _ => true
  | .int _, .str _ => true | .str _, .int _ => true | .bl _, .str _ => true | .str _, .bl _ => true
  | _, _ => false
def eqS : D → D → Bool
  | .non, .non => true
  | .int i, .int j => decide (i = j)
  | .bl i, .bl j => decide (i = j)
  | .str i, .str j => decide (i = j)
  | _, _ => false
theorem scal_of {K : PySem.W.Frag} {F : Hp} {u v : V} {a b : D} (hu : Dat K F u a) (hv : Dat K F v b) (h : scalD a b = true) : scal u v = true ∧ decide (u = v) = eqS a b := by
  cases hu <;> cases hv <;> first
    | (refine ⟨rfl, ?_⟩; simp [eqS])
    | (exact absurd h Bool.false_ne_true)
    | (cases h)
theorem rd_eq {a b : D} (h : scalD a b = true) (q : Q (.bl (eqS a b)) μ) : RD x rEq a b μ Q := fun F H ok u v du dv Qv k => by
  obtain ⟨e1, e2⟩ := scal_of du dv h
  exact ⟨e1, by rw [e2]; exact k F H μ _ _ (.rfl ok) (.bl _) q⟩
theorem rd_ne {a b : D} (h : scalD a b = true) (q : Q (.bl (!eqS a b)) μ) : RD x rNe a b μ Q := fun F H ok u v du dv Qv k => by
  obtain ⟨e1, e2⟩ := scal_of du dv h
  exact ⟨e1, by rw [e2]; exact k F H μ _ _ (.rfl ok) (.bl _) q⟩
def isNonD : D → Bool
  | .non => true
  | _ => false
theorem isNon_of {K : PySem.W.Frag} {F : Hp} {u : V} {a : D} (hu : Dat K F u a) : decide (u = .non) = isNonD a := by
  cases hu <;> simp [isNonD]
theorem rd_isN {a : D} (q : Q (.bl (isNonD a)) μ) : RD x (fun u v H Q => v = .non ∧ Q (.bl (decide (u = .non))) H) a .non μ Q := fun F H ok u v du dv Qv k => by
  cases dv
  exact ⟨rfl, by rw [isNon_of du]; exact k F H μ _ _ (.rfl ok) (.bl _) q⟩
theorem rd_notN {a : D} (q : Q (.bl (!isNonD a)) μ) : RD x (fun u v H Q => v = .non ∧ Q (.bl (!decide (u = .non))) H) a .non μ Q := fun F H ok u v du dv Qv k => by
  cases dv
  exact ⟨rfl, by rw [isNon_of du]; exact k F H μ _ _ (.rfl ok) (.bl _) q⟩
/-! subscripts -/
theorem rd_ixL {K : PySem.W.Frag} {l : List D} {i : Int} {d : D} (hK : K = x.K) (h : atI l i = some d) (q : Q d μ) : RD x (rIxL K) (.lst l) (.int i) μ Q := fun F H ok u v du dv Qv k => by
  subst hK
  cases dv
  cases du with
  | lst hs hl =>
    rename_i a xs
    unfold atI at h
    rw [← hl.length] at h
    obtain ⟨j, hj, e⟩ := Option.bind_eq_some_iff.mp h
    obtain ⟨w, h1, h2⟩ := hl.get e
    exact ⟨a, xs, i, w, rfl, rfl, ex_l ok.ext hs, by unfold atI; rw [hj]; exact h1, k F H μ _ _ (.rfl ok) h2 q⟩
theorem rd_ixT {K : PySem.W.Frag} {l : List D} {i : Int} {d : D} (hK : K = x.K) (h : atI l i = some d) (q : Q d μ) : RD x (rIxT K) (.tup l) (.int i) μ Q := fun F H ok u v du dv Qv k => by
  subst hK
  cases dv
  cases du with
  | tup hs hl =>
    rename_i a xs
    unfold atI at h
    rw [← hl.length] at h
    obtain ⟨j, hj, e⟩ := Option.bind_eq_some_iff.mp h
    obtain ⟨w, h1, h2⟩ := hl.get e
    exact ⟨a, xs, i, w, rfl, rfl, ex_t ok.ext hs, by unfold atI; rw [hj]; exact h1, k F H μ _ _ (.rfl ok) h2 q⟩
/-- an item of a list, a tuple: what stands in a -/
def seqOf : D → Option (List D)
  | .lst l => some l
  | .tup l => some l
  | _ => none
theorem rd_ix {K : PySem.W.Frag} {a : D} {l : List D} {i : Int} {d : D} (hK : K = x.K) (ha : seqOf a = some l) (h : atI l i = some d) (q : Q d μ) : RD x (rIx K) a (.int i) μ Q := fun F H ok u v du dv Qv k => by
  cases a with
  | lst l' =>
    cases ha
    exact .inl (rd_ixL hK h q F H ok u v du dv Qv k)
  | tup l' =>
    cases ha
    exact .inr (.inl (rd_ixT hK h q F H ok u v du dv Qv k))
  | _ => cases ha
/-- an item of an owned list -/
theorem rd_ixO {K : PySem.W.Frag} {p : Addr} {j : Nat} {l : List D} {i : Int} {d : D} (hK : K = x.K) (hm : μ[j]? = some (p, .lst l)) (h : atI l i = some d) (q : Q d μ) : RD x (rIxL K) (.adr p) (.int i) μ Q := fun F H ok u v du dv Qv k => by
  subst hK
  cases dv
  cases du
  obtain ⟨vs, h1, hl⟩ := (ok.own _ (List.mem_of_getElem? hm)).2.2.2
  unfold atI at h
  rw [← hl.length] at h
  obtain ⟨j, hj, e⟩ := Option.bind_eq_some_iff.mp h
  obtain ⟨w, h1', h2⟩ := hl.get e
  exact ⟨p, vs, i, w, rfl, rfl, .of h1, by unfold atI; rw [hj]; exact h1', k F H μ _ _ (.rfl ok) h2 q⟩
/-! in: a value in a sequence of flat ones -/
def flatD : D → Bool
  | .non => true | .bl _ => true | .int _ => true | .str _ => true
  | _ => false
def toV : D → V
  | .non => .non | .bl b => .bl b | .int i => .int i | .str s => .str s
  | _ => .non
theorem toV_of {K : PySem.W.Frag} {F : Hp} {v : V} {d : D} (h : Dat K F v d) (f : flatD d = true) : v = toV d ∧ flatV v = true := by
  cases h <;> first
    | exact ⟨rfl, rfl⟩
    | cases f
theorem toV_all {K : PySem.W.Frag} {F : Hp} : ∀ {vs : List V} {ds : List D}, DatL K F vs ds → ds.all flatD = true → vs = ds.map toV ∧ vs.all flatV = true
  | _, _, .nil, _ => ⟨rfl, rfl⟩
  | _, _, .cons h l, f => by
    rw [List.all_cons, Bool.and_eq_true] at f
    obtain ⟨e1, e2⟩ := toV_of h f.1
    obtain ⟨e3, e4⟩ := toV_all l f.2
    subst e1 e3
    exact ⟨rfl, by rw [List.all_cons, e2, e4]; rfl⟩
def inD (d : D) (l : List D) : Bool := inV (toV d) (l.map toV)
theorem seq_of {K : PySem.W.Frag} {F H : Hp} {v : V} {a : D} {l : List D} (e : Ex F H) (h : Dat K F v a) (ha : seqOf a = some l) : ∃ p xs, v = .ref p ∧ (SqL K H p xs ∨ SqT K H p xs) ∧ DatL K F xs l := by
  cases h with
  | lst hs hl =>
    cases ha
    exact ⟨_, _, rfl, .inl (ex_l e hs), hl⟩
  | tup hs hl =>
    cases ha
    exact ⟨_, _, rfl, .inr (ex_t e hs), hl⟩
  | _ => cases ha
theorem rd_in {K : PySem.W.Frag} {neg : Bool} {d a : D} {l : List D} (hK : K = x.K) (ha : seqOf a = some l) (fd : flatD d = true) (fl : l.all flatD = true) (q : Q (.bl (if neg then !inD d l else inD d l)) μ) : RD x (rIn K neg) d a μ Q := fun F H ok u v du dv Qv k => by
  subst hK
  obtain ⟨p, xs, rfl, hs, hl⟩ := seq_of ok.ext dv ha
  obtain ⟨e1, e2⟩ := toV_of du fd
  obtain ⟨e3, e4⟩ := toV_all hl fl
  subst e1 e3
  exact ⟨p, _, rfl, hs, e2, e4, k F H μ _ _ (.rfl ok) (.bl _) q⟩
theorem rd_inO {K : PySem.W.Frag} {neg : Bool} {d : D} {p : Addr} {j : Nat} {l : List D} (hK : K = x.K) (hm : μ[j]? = some (p, .lst l)) (fd : flatD d = true) (fl : l.all flatD = true) (q : Q (.bl (if neg then !inD d l else inD d l)) μ) : RD x (rIn K neg) d (.adr p) μ Q := fun F H ok u v du dv Qv k => by
  subst hK
  cases dv
  obtain ⟨vs, h1, hl⟩ := (ok.own _ (List.mem_of_getElem? hm)).2.2.2
  obtain ⟨e1, e2⟩ := toV_of du fd
  obtain ⟨e3, e4⟩ := toV_all hl fl
  subst e1 e3
  exact ⟨p, _, rfl, .inl (.of h1), e2, e4, k F H μ _ _ (.rfl ok) (.bl _) q⟩
/-! ### tests -/
theorem td_test (h : ED x te ds μ fun d μ1 => asB d fun b => QB b μ1) : TD x (tTest te) ds μ QB := fun F H σ ok rp Qb k =>
  h F H σ ok rp _ fun F1 H1 μ1 v d n dv q => by
    cases dv with
    | bl b => exact ⟨b, rfl, k F1 H1 μ1 b n q⟩
    | _ => exact False.elim q
theorem td_B (h : ED x te ds μ fun d μ1 => asB d fun b => QB b μ1) : TD x (tB te) ds μ QB := fun F H σ ok rp Qb k =>
  h F H σ ok rp _ fun F1 H1 μ1 v d n dv q => by
    cases dv with
    | bl b => exact ⟨b, rfl, k F1 H1 μ1 b n q⟩
    | _ => exact False.elim q
theorem td_not (h : TD x tt ds μ fun b μ1 => QB (!b) μ1) : TD x (tNot tt) ds μ QB := fun F H σ ok rp Qb k =>
  h F H σ ok rp _ fun F1 H1 μ1 b n q => k F1 H1 μ1 (!b) n q
theorem td_and (h : TD x tt ds μ fun b μ1 => isT b (TD x uu ds μ1 QB) (QB false μ1)) : TD x (tAnd tt uu) ds μ QB := fun F H σ ok rp Qb k =>
  h F H σ ok rp _ fun F1 H1 μ1 b n q => by
    cases b with
    | true =>
      show uu σ H1 Qb
      exact (show TD x uu ds μ1 QB from q) F1 H1 σ n.ok (rp.mono n.ff) Qb fun F2 H2 μ2 b n2 q2 => k F2 H2 μ2 b (n.tr n2) q2
    | false =>
      show Qb false H1
      exact k F1 H1 μ1 false n q
theorem td_or (h : TD x tt ds μ fun b μ1 => isT b (QB true μ1) (TD x uu ds μ1 QB)) : TD x (tOr tt uu) ds μ QB := fun F H σ ok rp Qb k =>
  h F H σ ok rp _ fun F1 H1 μ1 b n q => by
    cases b with
    | false =>
      show uu σ H1 Qb
      exact (show TD x uu ds μ1 QB from q) F1 H1 σ n.ok (rp.mono n.ff) Qb fun F2 H2 μ2 b n2 q2 => k F2 H2 μ2 b (n.tr n2) q2
    | true =>
      show Qb true H1
      exact k F1 H1 μ1 true n q
theorem td_yes (q : QB true μ) : TD x tYes ds μ QB := fun F H σ ok rp Qb k => k F H μ true (.rfl ok) q
theorem ed_andV (h : ED x ta ds μ fun d μ1 => asB d fun b => isT b (ED x tb ds μ1 Q) (Q (.bl false) μ1)) : ED x (tAndV ta tb) ds μ Q := fun F H σ ok rp Qv k =>
  h F H σ ok rp _ fun F1 H1 μ1 v d n dv q => by
    cases dv with
    | bl b =>
      refine ⟨b, rfl, ?_⟩
      cases b with
      | true =>
        show tb σ H1 Qv
        exact (show ED x tb ds μ1 Q from q) F1 H1 σ n.ok (rp.mono n.ff) Qv fun F2 H2 μ2 v d n2 dv q2 => k F2 H2 μ2 v d (n.tr n2) dv q2
      | false =>
        show Qv (.bl false) H1
        exact k F1 H1 μ1 _ _ n (.bl false) q
    | _ => exact False.elim q
theorem ed_orV (h : ED x ta ds μ fun d μ1 => asB d fun b => isT b (Q (.bl true) μ1) (ED x tb ds μ1 Q)) : ED x (tOrV ta tb) ds μ Q := fun F H σ ok rp Qv k =>
  h F H σ ok rp _ fun F1 H1 μ1 v d n dv q => by
    cases dv with
    | bl b =>
      refine ⟨b, rfl, ?_⟩
      cases b with
      | false =>
        show tb σ H1 Qv
        exact (show ED x tb ds μ1 Q from q) F1 H1 σ n.ok (rp.mono n.ff) Qv fun F2 H2 μ2 v d n2 dv q2 => k F2 H2 μ2 v d (n.tr n2) dv q2
      | true =>
        show Qv (.bl true) H1
        exact k F1 H1 μ1 _ _ n (.bl true) q
    | _ => exact False.elim q
theorem ed_notV (h : ED x ta ds μ fun d μ1 => asB d fun b => Q (.bl (!b)) μ1) : ED x (tNotV ta) ds μ Q := fun F H σ ok rp Qv k =>
  h F H σ ok rp _ fun F1 H1 μ1 v d n dv q => by
    cases dv with
    | bl b => exact ⟨b, rfl, k F1 H1 μ1 _ _ n (.bl _) q⟩
    | _ => exact False.elim q
theorem ed_if (h : TD x tt ds μ fun b μ1 => isT b (ED x ta ds μ1 Q) (ED x tb ds μ1 Q)) : ED x (tIf tt ta tb) ds μ Q := fun F H σ ok rp Qv k =>
  h F H σ ok rp _ fun F1 H1 μ1 b n q => by
    cases b with
    | true =>
      show ta σ H1 Qv
      exact (show ED x ta ds μ1 Q from q) F1 H1 σ n.ok (rp.mono n.ff) Qv fun F2 H2 μ2 v d n2 dv q2 => k F2 H2 μ2 v d (n.tr n2) dv q2
    | false =>
      show tb σ H1 Qv
      exact (show ED x tb ds μ1 Q from q) F1 H1 σ n.ok (rp.mono n.ff) Qv fun F2 H2 μ2 v d n2 dv q2 => k F2 H2 μ2 v d (n.tr n2) dv q2
theorem ed_chain {r r' : R2} (h : ED x ta ds μ fun a μ1 => ED x tb ds μ1 fun b μ2 => RD x r a b μ2 fun z μ3 => asB z fun c => isT c (ED x tc ds μ3 fun e μ4 => RD x r' b e μ4 Q) (Q (.bl false) μ3)) : ED x (tChain r r' ta tb tc) ds μ Q := fun F H σ ok rp Qv k =>
  h F H σ ok rp _ fun F1 H1 μ1 v1 d1 n1 dv1 q1 => q1 F1 H1 σ n1.ok (rp.mono n1.ff) _ fun F2 H2 μ2 v2 d2 n2 dv2 q2 =>
    q2 F2 H2 n2.ok v1 v2 (dv1.mono n2.ff) dv2 _ fun F3 H3 μ3 w d n3 dw q3 => by
      cases dw with
      | bl b =>
        refine ⟨b, rfl, ?_⟩
        cases b with
        | true =>
          show tc σ H3 _
          exact (show ED x tc ds μ3 fun e μ4 => RD x r' d2 e μ4 Q from q3) F3 H3 σ n3.ok (rp.mono ((n1.ff.tr n2.ff).tr n3.ff)) _ fun F4 H4 μ4 v4 d4 n4 dv4 q4 =>
            q4 F4 H4 n4.ok v2 v4 (dv2.mono (n3.ff.tr n4.ff)) dv4 Qv fun F5 H5 μ5 v5 d5 n5 dv5 q5 => k F5 H5 μ5 v5 d5 ((((n1.tr n2).tr n3).tr n4).tr n5) dv5 q5
        | false =>
          show Qv (.bl false) H3
          exact k F3 H3 μ3 _ _ ((n1.tr n2).tr n3) (.bl false) q3
      | _ => exact False.elim q3
/-! ### arguments, displays, calls of built-ins -/
theorem ad_nil {QA : List D → Mu → Prop} (q : QA [] μ) : AD x tNil ds μ QA := fun F H σ ok rp Qa k => k F H μ [] [] (.rfl ok) .nil q
theorem ad_cons {tr : TA} {QA : List D → Mu → Prop} (h : ED x ta ds μ fun d μ1 => AD x tr ds μ1 fun es μ2 => QA (d :: es) μ2) : AD x (tCons ta tr) ds μ QA := fun F H σ ok rp Qa k =>
  h F H σ ok rp _ fun F1 H1 μ1 v d n dv q => q F1 H1 σ n.ok (rp.mono n.ff) _ fun F2 H2 μ2 vs es n2 dl q2 => k F2 H2 μ2 _ _ (n.tr n2) (.cons (dv.mono n2.ff) dl) q2
theorem ed_tup {tr : TA} (h : AD x tr ds μ fun es μ1 => es.length ≤ 100000 ∧ Q (.tup es) μ1) : ED x (tTup tr) ds μ Q := fun F H σ ok rp Qv k =>
  h F H σ ok rp _ fun F1 H1 μ1 vs es n dl q => by
    refine ⟨by rw [dl.length, sizeLine_eq]; have := q.1; omega, fun p hp => ?_⟩
    have n2 := n.ok.lay (.tup vs) hp
    exact k _ _ μ1 _ _ (n.tr n2) (.tup (.of upd_same) (dl.mono n2.ff)) q.2
theorem ed_lst {tr : TA} (h : AD x tr ds μ fun es μ1 => es.length ≤ 100000 ∧ Q (.lst es) μ1) : ED x (tLst tr) ds μ Q := fun F H σ ok rp Qv k =>
  h F H σ ok rp _ fun F1 H1 μ1 vs es n dl q => by
    refine ⟨by rw [dl.length, sizeLine_eq]; have := q.1; omega, fun p hp => ?_⟩
    have n2 := n.ok.lay (.lst vs) hp
    exact k _ _ μ1 _ _ (n.tr n2) (.lst (.of upd_same) (dl.mono n2.ff)) q.2
theorem ed_dnew (q : Q (.dct [] []) μ) : ED x tDNewK ds μ Q := fun F H σ ok rp Qv k p hp => by
  have n2 := ok.lay (.dK []) hp
  exact k _ _ μ _ _ n2 (.dct (kvs := []) (.of upd_same) rfl .nil) q
theorem ed_cb {r : List V → Hp → VK → Prop} {tr : TA} (h : AD x tr ds μ fun es μ1 => CD x r es μ1 Q) : ED x (tCB r tr) ds μ Q := fun F H σ ok rp Qv k =>
  h F H σ ok rp _ fun F1 H1 μ1 vs es n dl q => q F1 H1 n.ok vs dl Qv fun F2 H2 μ2 w d n2 dw q2 => k F2 H2 μ2 w d (n.tr n2) dw q2
def rLenS (K : PySem.W.Frag) : List V → Hp → VK → Prop := fun xs H Q => ∃ p ys, xs = [.ref p] ∧ (SqL K H p ys ∨ SqT K H p ys) ∧ Q (.int ys.length) H
theorem call_lenS {X : Cx} : CallR X (.builtin "len") (rLenS X.K) := call_len_seq
theorem cd_len {K : PySem.W.Frag} {a : D} {l : List D} (hK : K = x.K) (ha : seqOf a = some l) (q : Q (.int (l.length : Int)) μ) : CD x (rLenS K) [a] μ Q := fun F H ok us du Qv k => by
  subst hK
  cases du with
  | cons h hn =>
    cases hn
    obtain ⟨p, xs, rfl, hs, hl⟩ := seq_of ok.ext h ha
    exact ⟨p, xs, rfl, hs, by rw [hl.length]; exact k F H μ _ _ (.rfl ok) (.int _) q⟩
theorem cd_lenO {K : PySem.W.Frag} {p : Addr} {j : Nat} {l : List D} (hK : K = x.K) (hm : μ[j]? = some (p, .lst l)) (q : Q (.int (l.length : Int)) μ) : CD x (rLenS K) [.adr p] μ Q := fun F H ok us du Qv k => by
  subst hK
  cases du with
  | cons h hn =>
    cases hn
    cases h
    obtain ⟨vs, h1, hl⟩ := (ok.own _ (List.mem_of_getElem? hm)).2.2.2
    exact ⟨p, vs, rfl, .inl (.of h1), by rw [hl.length]; exact k F H μ _ _ (.rfl ok) (.int _) q⟩
def rTupS (K : PySem.W.Frag) : List V → Hp → VK → Prop := fun xs H Q => ∃ p ys, xs = [.ref p] ∧ ((SqL K H p ys ∧ ∀ l, H l = none → Q (.ref l) (upd H l (.tup ys))) ∨ (SqT K H p ys ∧ Q (.ref p) H))
theorem call_tupS {X : Cx} : CallR X (.type "tuple") (rTupS X.K) := call_tuple_of
theorem cd_tup {K : PySem.W.Frag} {a : D} {l : List D} (hK : K = x.K) (ha : seqOf a = some l) (q : Q (.tup l) μ) : CD x (rTupS K) [a] μ Q := fun F H ok us du Qv k => by
  subst hK
  cases du with
  | cons h hn =>
    cases hn
    cases h with
    | lst hs hl =>
      cases ha
      rename_i a xs
      refine ⟨_, _, rfl, .inl ⟨ex_l ok.ext hs, fun p hp => ?_⟩⟩
      have n2 := ok.lay (.tup xs) hp
      exact k _ _ μ _ _ n2 (.tup (.of upd_same) (hl.mono n2.ff)) q
    | tup hs hl =>
      cases ha
      exact ⟨_, _, rfl, .inr ⟨ex_t ok.ext hs, k F H μ _ _ (.rfl ok) (.tup hs hl) q⟩⟩
    | _ => cases ha
theorem cd_tupO {K : PySem.W.Frag} {p : Addr} {j : Nat} {l : List D} (hK : K = x.K) (hm : μ[j]? = some (p, .lst l)) (q : Q (.tup l) μ) : CD x (rTupS K) [.adr p] μ Q := fun F H ok us du Qv k => by
  subst hK
  cases du with
  | cons h hn =>
    cases hn
    cases h
    obtain ⟨vs, h1, hl⟩ := (ok.own _ (List.mem_of_getElem? hm)).2.2.2
    refine ⟨_, _, rfl, .inl ⟨.of h1, fun p hp => ?_⟩⟩
    have n2 := ok.lay (.tup vs) hp
    exact k _ _ μ _ _ n2 (.tup (.of upd_same) (hl.mono n2.ff)) q
theorem cd_all {K : PySem.W.Frag} {bs : List Bool} (hK : K = x.K) (q : Q (.bl (bs.all id)) μ) : CD x (rAll K) [.lst (bs.map D.bl)] μ Q := fun F H ok us du Qv k => by
  subst hK
  cases du with
  | cons h hn =>
    cases hn
    cases h with
    | lst hs hl =>
      have e := hl.of_bls bs
      subst e
      exact ⟨_, bs, rfl, ex_l ok.ext hs, k F H μ _ _ (.rfl ok) (.bl _) q⟩
theorem cd_any {K : PySem.W.Frag} {bs : List Bool} (hK : K = x.K) (q : Q (.bl (bs.any id)) μ) : CD x (rAny K) [.lst (bs.map D.bl)] μ Q := fun F H ok us du Qv k => by
  subst hK
  cases du with
  | cons h hn =>
    cases hn
    cases h with
    | lst hs hl =>
      have e := hl.of_bls bs
      subst e
      exact ⟨_, bs, rfl, ex_l ok.ext hs, k F H μ _ _ (.rfl ok) (.bl _) q⟩
theorem cd_sum {K : PySem.W.Frag} {ns : List Int} (hK : K = x.K) (q : Q (.int ns.sum) μ) : CD x (rSum K) [.lst (ns.map D.int)] μ Q := fun F H ok us du Qv k => by
  subst hK
  cases du with
  | cons h hn =>
    cases hn
    cases h with
    | lst hs hl =>
      have e := hl.of_ints ns
      subst e
      exact ⟨_, ns, rfl, ex_l ok.ext hs, k F H μ _ _ (.rfl ok) (.int _) q⟩
theorem cd_max {K : PySem.W.Frag} {ns : List Int} (hK : K = x.K) (h0 : 0 < ns.length) (q : ∀ m, m ∈ ns → (∀ y, y ∈ ns → y ≤ m) → Q (.int m) μ) : CD x (rMax K) [.lst (ns.map D.int)] μ Q := fun F H ok us du Qv k => by
  subst hK
  cases du with
  | cons h hn =>
    cases hn
    cases h with
    | lst hs hl =>
      have e := hl.of_ints ns
      subst e
      exact ⟨_, ns, rfl, ex_l ok.ext hs, h0, fun m h1 h2 => k F H μ _ _ (.rfl ok) (.int _) (q m h1 h2)⟩
theorem cd_min {K : PySem.W.Frag} {ns : List Int} (hK : K = x.K) (h0 : 0 < ns.length) (q : ∀ m, m ∈ ns → (∀ y, y ∈ ns → m ≤ y) → Q (.int m) μ) : CD x (rMin K) [.lst (ns.map D.int)] μ Q := fun F H ok us du Qv k => by
  subst hK
  cases du with
  | cons h hn =>
    cases hn
    cases h with
    | lst hs hl =>
      have e := hl.of_ints ns
      subst e
      exact ⟨_, ns, rfl, ex_l ok.ext hs, h0, fun m h1 h2 => k F H μ _ _ (.rfl ok) (.int _) (q m h1 h2)⟩
theorem cd_sorted {K : PySem.W.Frag} {ns : List Int} (hK : K = x.K) (q : ∀ ns' : List Int, ns'.Perm ns → ns'.Pairwise (· ≤ ·) → Q (.lst (ns'.map D.int)) μ) : CD x (rSortedI K) [.lst (ns.map D.int)] μ Q := fun F H ok us du Qv k => by
  subst hK
  cases du with
  | cons h hn =>
    cases hn
    cases h with
    | lst hs hl =>
      have e := hl.of_ints ns
      subst e
      refine ⟨_, ns, rfl, ex_l ok.ext hs, fun ns' p h1 h2 hp => ?_⟩
      have n2 := ok.lay (.lst (ns'.map V.int)) hp
      exact k _ _ μ _ _ n2 (.lst (.of upd_same) (.ints ns')) (q ns' h1 h2)
theorem cd_sortedO {K : PySem.W.Frag} {p : Addr} {j : Nat} {ns : List Int} (hK : K = x.K) (hm : μ[j]? = some (p, .lst (ns.map D.int))) (q : ∀ ns' : List Int, ns'.Perm ns → ns'.Pairwise (· ≤ ·) → Q (.lst (ns'.map D.int)) μ) : CD x (rSortedI K) [.adr p] μ Q := fun F H ok us du Qv k => by
  subst hK
  cases du with
  | cons h hn =>
    cases hn
    cases h
    obtain ⟨vs, h1, hl⟩ := (ok.own _ (List.mem_of_getElem? hm)).2.2.2
    have e := hl.of_ints ns
    subst e
    refine ⟨_, ns, rfl, .of h1, fun ns' p h1 h2 hp => ?_⟩
    have n2 := ok.lay (.lst (ns'.map V.int)) hp
    exact k _ _ μ _ _ n2 (.lst (.of upd_same) (.ints ns')) (q ns' h1 h2)
def rAbs : List V → Hp → VK → Prop := fun xs H Q => ∃ i, xs = [.int i] ∧ Q (.int (if i < 0 then -i else i)) H
theorem call_absS {X : Cx} : CallR X (.builtin "abs") rAbs := call_abs
theorem cd_abs {i : Int} (q : Q (.int (if i < 0 then -i else i)) μ) : CD x rAbs [.int i] μ Q := fun F H ok us du Qv k => by
  cases du with
  | cons h hn =>
    cases hn
    cases h
    exact ⟨i, rfl, k F H μ _ _ (.rfl ok) (.int _) q⟩
def rInt1 : List V → Hp → VK → Prop := fun xs H Q => (∃ i, xs = [.int i] ∧ Q (.int i) H) ∨ ∃ k, xs = [.bl k] ∧ Q (.int (if k then 1 else 0)) H
theorem call_int1S {X : Cx} : CallR X (.type "int") rInt1 := call_int1
theorem cd_int {i : Int} (q : Q (.int i) μ) : CD x rInt1 [.int i] μ Q := fun F H ok us du Qv k => by
  cases du with
  | cons h hn =>
    cases hn
    cases h
    exact .inl ⟨i, rfl, k F H μ _ _ (.rfl ok) (.int _) q⟩
/-! slices -/
theorem od_none {QO : Option Int → Mu → Prop} (q : QO none μ) : OD x tNoPart ds μ QO := fun F H σ ok rp Qo k => k F H μ none (.rfl ok) q
theorem od_some {QO : Option Int → Mu → Prop} (h : ED x te ds μ fun d μ1 => asI d fun i => QO (some i) μ1) : OD x (tPart te) ds μ QO := fun F H σ ok rp Qo k =>
  h F H σ ok rp _ fun F1 H1 μ1 v d n dv q => by
    cases dv with
    | int b => exact ⟨b, rfl, k F1 H1 μ1 _ n q⟩
    | _ => exact False.elim q
def cutD (xs : List D) (lo hi : Option Int) : List D := (xs.drop (HT.sIx xs.length 0 lo)).take (HT.sIx xs.length xs.length hi - HT.sIx xs.length 0 lo)
theorem cut_of {K : PySem.W.Frag} {F : Hp} {vs : List V} {ds : List D} (h : DatL K F vs ds) (lo hi : Option Int) : DatL K F (cutV vs lo hi) (cutD ds lo hi) := by
  unfold cutV cutD
  rw [h.length]
  exact (h.drop _).take _
theorem ed_slL {K : PySem.W.Frag} {tl th : TO} (hK : K = x.K) (h : ED x te ds μ fun d μ1 => asL d fun l => OD x tl ds μ1 fun lo μ2 => OD x th ds μ2 fun hi μ3 => Q (.lst (cutD l lo hi)) μ3) : ED x (tSl (rSlL K) te tl th) ds μ Q := fun F H σ ok rp Qv k =>
  h F H σ ok rp _ fun F1 H1 μ1 v d n dv q => by
    subst hK
    cases dv with
    | lst hs hl =>
      rename_i a xs es
      exact (show OD x tl ds μ1 _ from q) F1 H1 σ n.ok (rp.mono n.ff) _ fun F2 H2 μ2 lo n2 q2 => q2 F2 H2 σ n2.ok (rp.mono (n.ff.tr n2.ff)) _ fun F3 H3 μ3 hi n3 q3 => by
        refine ⟨_, _, rfl, ex_l ((n2.ff.tr n3.ff).tr n3.ok.ext) hs, fun p hp => ?_⟩
        have n4 := n3.ok.lay (.lst (cutV xs lo hi)) hp
        exact k _ _ μ3 _ _ (((n.tr n2).tr n3).tr n4) (.lst (.of upd_same) ((cut_of hl lo hi).mono ((n2.ff.tr n3.ff).tr n4.ff))) q3
    | _ => exact False.elim q
theorem ed_slT {K : PySem.W.Frag} {tl th : TO} (hK : K = x.K) (h : ED x te ds μ fun d μ1 => asU d fun l => OD x tl ds μ1 fun lo μ2 => OD x th ds μ2 fun hi μ3 => Q (.tup (cutD l lo hi)) μ3) : ED x (tSl (rSlA K) te tl th) ds μ Q := fun F H σ ok rp Qv k =>
  h F H σ ok rp _ fun F1 H1 μ1 v d n dv q => by
    subst hK
    cases dv with
    | tup hs hl =>
      rename_i a xs es
      exact (show OD x tl ds μ1 _ from q) F1 H1 σ n.ok (rp.mono n.ff) _ fun F2 H2 μ2 lo n2 q2 => q2 F2 H2 σ n2.ok (rp.mono (n.ff.tr n2.ff)) _ fun F3 H3 μ3 hi n3 q3 => by
        refine ⟨_, _, rfl, ex_t ((n2.ff.tr n3.ff).tr n3.ok.ext) hs, fun ⟨w1, w2⟩ => ?_, fun _ p hp => ?_⟩
        · have e : cutD es lo hi = es := by
            unfold cutD
            rw [← hl.length, w1, w2, List.drop_zero, Nat.sub_zero, hl.length, List.take_length]
          have q3' : Q (.tup (cutD es lo hi)) μ3 := q3
          rw [e] at q3'
          exact k _ _ μ3 _ _ ((n.tr n2).tr n3) (.tup (ex_t (n2.ff.tr n3.ff) hs) (hl.mono (n2.ff.tr n3.ff))) q3'
        · have n4 := n3.ok.lay (.tup (cutV xs lo hi)) hp
          exact k _ _ μ3 _ _ (((n.tr n2).tr n3).tr n4) (.tup (.of upd_same) ((cut_of hl lo hi).mono ((n2.ff.tr n3.ff).tr n4.ff))) q3
    | _ => exact False.elim q
/-! ### isinstance -/
def tyD : D → Option String
  | .non => some "NoneType" | .bl _ => some "bool" | .int _ => some "int" | .str _ => some "str"
  | .tup _ => some "tuple" | .lst _ => some "list" | .dct _ _ => some "dict"
  | _ => none
theorem tyx_of {K : PySem.W.Frag} {F H : Hp} {v : V} {d : D} {n : String} (e : Ex F H) (h : Dat K F v d) (hn : tyD d = some n) : TyX K H v (.type n) := by
  cases h with
  | non => cases hn; exact .base .non
  | bl b => cases hn; exact .base (.bl b)
  | int i => cases hn; exact .base (.int i)
  | str s => cases hn; exact .base (.str s)
  | tup hs _ =>
    cases hn
    rcases hs with (hs | ⟨o, hs⟩) | ⟨o, its, m, h1, h2, _⟩
    · exact .base (.tup (e _ _ hs))
    · exact .fTuple (e _ _ hs)
    · exact .kTuple h1 h2
  | lst hs _ =>
    cases hn
    rcases hs with (hs | ⟨o, hs⟩) | ⟨o, its, m, h1, h2, _⟩
    · exact .base (.lst (e _ _ hs))
    · exact .base (.frz (e _ _ hs))
    · exact .kList h1 h2
  | dct hs _ _ =>
    cases hn
    rcases hs with hs | ⟨o, hs⟩
    · exact .base (.dK (e _ _ hs))
    · exact .fDict (e _ _ hs)
  | _ => cases hn
theorem cd_isi {K : PySem.W.Frag} {d : D} {n t : String} {b : Bool} (hK : K = x.K) (hn : tyD d = some n) (hb : kitB n t = some b) (q : Q (.bl b) μ) : CD x (rIsi K) [d, .ty t] μ Q := fun F H ok us du Qv k => by
  subst hK
  cases du with
  | cons h hr =>
    cases hr with
    | cons h2 hn2 =>
      cases hn2
      cases h2
      exact ⟨_, _, _, _, b, rfl, .ty t, tyx_of ok.ext h hn, kit_ty hb, k F H μ _ _ (.rfl ok) (.bl b) q⟩
/-- isinstance(d, (t1, ..)) with classes by name -/
def kitBs (n : String) : List String → Option Bool
  | [] => some false
  | t :: r => match kitB n t with
    | some true => some true
    | some false => kitBs n r
    | none => none
theorem kitBs_any {K : PySem.W.Frag} {n : String} : ∀ {ts : List String} {b : Bool}, kitBs n ts = some b → PySem.W.kitAny K (.type n) (ts.map Value.type) = some b
  | [], b, h => h
  | t :: r, b, h => by
    unfold kitBs at h
    split at h
    · rename_i e
      cases h
      exact kitAny_cons (kit_ty e) (fun z => by cases z) (fun _ => rfl)
    · rename_i e
      exact kitAny_cons (kit_ty e) (fun _ => kitBs_any h) (fun z => by cases z)
    · cases h
/-- isinstance(e, (T1, T2)) -/
theorem ed_isi2 {K : PySem.W.Frag} {t1 t2 : String} (hK : K = x.K) (h : ED x te ds μ fun d μ1 => ∃ n b, tyD d = some n ∧ kitBs n [t1, t2] = some b ∧ Q (.bl b) μ1) :
    ED x (tCB (rIsiT K) (tCons te (tCons (tTup (tCons (tC (.ty t1)) (tCons (tC (.ty t2)) tNil))) tNil))) ds μ Q := fun F H σ ok rp Qv k =>
  h F H σ ok rp _ fun F1 H1 μ1 v d n dv ⟨m, b, hn, hb, q⟩ => by
    subst hK
    refine ⟨by rw [sizeLine_eq]; show 2 ≤ 16777216; decide, fun p hp => ?_⟩
    have n2 := n.ok.lay (.tup [.ty t1, .ty t2]) hp
    exact ⟨v, p, [.ty t1, .ty t2], .type m, [.type t1, .type t2], b, rfl, upd_same, .cons (.ty _) (.cons (.ty _) .nil), tyx_of n2.ok.ext (dv.mono n2.ff) hn, kitBs_any (ts := [t1, t2]) hb, k _ _ μ1 _ _ (n.tr n2) (.bl b) q⟩
end
end DL
set_option Elab.async false
set_option linter.all false
set_option maxRecDepth 100000
set_option maxHeartbeats 1000000
namespace DL
open PySem L2
section
variable {x : Fx} {te tl : TE} {tt : TT} {t u tb : TS} {g : TG} {ds : DS} {μ : Mu} {N : DS → Mu → Prop} {R : D → Mu → Prop} {B C : DS → Mu → Prop}
/-! ### statements -/
theorem SD.imp {N' : DS → Mu → Prop} (h : SD x t ds μ N R B C) (k : ∀ d m, N d m → N' d m) : SD x t ds μ N' R B C := fun F H σ ok rp E c1 c2 c3 c4 =>
  h F H σ ok rp E (fun F' H' σ' ds' μ' e o r q => c1 F' H' σ' ds' μ' e o r (k _ _ q)) c2 c3 c4
theorem sd_seq (h : SD x t ds μ (fun ds1 μ1 => SD x u ds1 μ1 N R B C) R B C) : SD x (tSeq t u) ds μ N R B C := fun F H σ ok rp E c1 c2 c3 c4 =>
  h F H σ ok rp { E with nx := u E } (fun F' H' σ' ds' μ' e o r q => q F' H' σ' o r E (fun F2 H2 σ2 ds2 μ2 e2 => c1 F2 H2 σ2 ds2 μ2 (e.tr e2)) c2 (fun F2 H2 σ2 ds2 μ2 e2 => c3 F2 H2 σ2 ds2 μ2 (e.tr e2)) (fun F2 H2 σ2 ds2 μ2 e2 => c4 F2 H2 σ2 ds2 μ2 (e.tr e2))) c2 c3 c4
theorem sd_next (q : N ds μ) : SD x tNext ds μ N R B C := fun F H σ ok rp E c1 _ _ _ => c1 F H σ ds μ Ex.rfl ok rp q
theorem sd_brk (q : B ds μ) : SD x tBreak ds μ N R B C := fun F H σ ok rp E _ _ c3 _ => c3 F H σ ds μ Ex.rfl ok rp q
theorem sd_cont (q : C ds μ) : SD x tCont ds μ N R B C := fun F H σ ok rp E _ _ _ c4 => c4 F H σ ds μ Ex.rfl ok rp q
theorem sd_if (h : TD x tt ds μ fun b μ1 => isT b (SD x t ds μ1 N R B C) (SD x u ds μ1 N R B C)) : SD x (tIfS tt t u) ds μ N R B C := fun F H σ ok rp E c1 c2 c3 c4 =>
  h F H σ ok rp _ fun F1 H1 μ1 b n q => by
    cases b with
    | true =>
      show t E σ H1
      exact (show SD x t ds μ1 N R B C from q) F1 H1 σ n.ok (rp.mono n.ff) E (fun F2 H2 σ2 ds2 μ2 e2 => c1 F2 H2 σ2 ds2 μ2 (n.ff.tr e2)) c2 (fun F2 H2 σ2 ds2 μ2 e2 => c3 F2 H2 σ2 ds2 μ2 (n.ff.tr e2)) (fun F2 H2 σ2 ds2 μ2 e2 => c4 F2 H2 σ2 ds2 μ2 (n.ff.tr e2))
    | false =>
      show u E σ H1
      exact (show SD x u ds μ1 N R B C from q) F1 H1 σ n.ok (rp.mono n.ff) E (fun F2 H2 σ2 ds2 μ2 e2 => c1 F2 H2 σ2 ds2 μ2 (n.ff.tr e2)) c2 (fun F2 H2 σ2 ds2 μ2 e2 => c3 F2 H2 σ2 ds2 μ2 (n.ff.tr e2)) (fun F2 H2 σ2 ds2 μ2 e2 => c4 F2 H2 σ2 ds2 μ2 (n.ff.tr e2))
theorem sd_ret (h : ED x te ds μ R) : SD x (tRet te) ds μ N R B C := fun F H σ ok rp E _ c2 _ _ =>
  h F H σ ok rp _ fun F1 H1 μ1 v d n dv q => c2 F1 H1 μ1 v d n.ok dv q
theorem sd_retN (q : R .non μ) : SD x tRetN ds μ N R B C := fun F H σ ok rp E _ c2 _ _ => c2 F H μ _ _ ok .non q
theorem sd_drop (h : ED x te ds μ fun _ μ1 => N ds μ1) : SD x (tDrop te) ds μ N R B C := fun F H σ ok rp E c1 _ _ _ =>
  h F H σ ok rp _ fun F1 H1 μ1 v d n dv q => c1 F1 H1 σ ds μ1 n.ff n.ok (rp.mono n.ff) q
theorem sd_never : False → SD x tNever ds μ N R B C := fun f => f.elim
theorem sd_asg (h : ED x te ds μ fun d μ1 => GD x g d ds μ1 N) : SD x (tAsg te g) ds μ N R B C := fun F H σ ok rp E c1 _ _ _ =>
  h F H σ ok rp _ fun F1 H1 μ1 v d n dv q => q F1 H1 σ v n.ok (rp.mono n.ff) dv _ fun F2 H2 μ2 σ2 ds2 n2 r2 q2 => c1 F2 H2 σ2 ds2 μ2 (n.ff.tr n2.ff) n2.ok r2 q2
theorem gd_name {i : Nat} {y : D} {Q : DS → Mu → Prop} (q : Q (ds.set i (some y)) μ) : GD x (gName i) y ds μ Q := fun F H σ v ok rp dv Qs k => k F H μ _ _ (.rfl ok) (rp.set dv) q
theorem gds_nil {Q : DS → Mu → Prop} (q : Q ds μ) : GDs x gNil [] ds μ Q := fun F H σ vs ok rp dv Qs k => by
  cases dv
  exact ⟨rfl, k F H μ _ _ (.rfl ok) rp q⟩
theorem gds_cons {gs : TGs} {y : D} {ys : List D} {Q : DS → Mu → Prop} (h : GD x g y ds μ fun ds1 μ1 => GDs x gs ys ds1 μ1 Q) : GDs x (gCons g gs) (y :: ys) ds μ Q := fun F H σ vs ok rp dv Qs k => by
  cases dv with
  | cons dv dl =>
    rename_i v vs
    exact ⟨v, vs, rfl, h F H σ v ok rp dv _ fun F1 H1 μ1 σ1 ds1 n1 r1 q1 => q1 F1 H1 σ1 vs n1.ok r1 (dl.mono n1.ff) Qs fun F2 H2 μ2 σ2 ds2 n2 r2 q2 => k F2 H2 μ2 σ2 ds2 (n1.tr n2) r2 q2⟩
theorem gd_tup {K : PySem.W.Frag} {m : Nat} {gs : TGs} {ys : List D} {Q : DS → Mu → Prop} (hK : K = x.K) (hm : ys.length = m) (h : GDs x gs ys ds μ Q) : GD x (gTup K m gs) (.tup ys) ds μ Q := fun F H σ v ok rp dv Qs k => by
  subst hK
  cases dv with
  | tup hs hl =>
    exact ⟨_, _, rfl, ex_t ok.ext hs, hl.length.trans hm, h F H σ _ ok rp hl Qs k⟩
/-- a, b = e1, e2 -/
theorem sd_par {i j : Nat} {ta : TA} (h : AD x ta ds μ fun es μ1 => ∃ a b, es = [a, b] ∧ N ((ds.set i (some a)).set j (some b)) μ1) : SD x (tPar i j ta) ds μ N R B C := fun F H σ ok rp E c1 _ _ _ =>
  h F H σ ok rp _ fun F1 H1 μ1 vs es n dl ⟨a, b, e, q⟩ => by
    subst e
    cases dl with
    | cons h1 r =>
      cases r with
      | cons h2 r =>
        cases r
        exact ⟨_, _, rfl, c1 F1 H1 _ _ μ1 n.ff n.ok (((rp.mono n.ff).set h1).set h2) q⟩
/-! ### owned objects -/
/-- name = [..], the list owned from now on -/
def tOwnL (ta : TA) (i : Nat) : TS := tAsg (tLst ta) (gName i)
theorem sd_ownL {ta : TA} {i : Nat} (h : AD x ta ds μ fun es μ1 => es.length ≤ 100000 ∧ ∀ p, N (ds.set i (some (.adr p))) ((p, .lst es) :: μ1)) : SD x (tOwnL ta i) ds μ N R B C := fun F H σ ok rp E c1 _ _ _ =>
  h F H σ ok rp _ fun F1 H1 μ1 vs es n dl q => by
    refine ⟨by rw [dl.length, sizeLine_eq]; have := q.1; omega, fun p hp => ?_⟩
    have ok2 := n.ok.take (u := .lst es) (o := .lst vs) hp ⟨vs, upd_same, dl⟩
    exact c1 F1 _ _ _ _ n.ff ok2 ((rp.mono n.ff).set (.adr p)) (q.2 p)
/-- name = {} -/
def tOwnD (i : Nat) : TS := tAsg tDNewK (gName i)
theorem sd_ownD {i : Nat} (h : ∀ p, N (ds.set i (some (.adr p))) ((p, .dct []) :: μ)) : SD x (tOwnD i) ds μ N R B C := fun F H σ ok rp E c1 _ _ _ => by
  intro p hp
  have ok2 := ok.take (u := .dct []) (o := .dK []) hp ⟨[], upd_same, rfl, .nil⟩
  exact c1 F _ _ _ _ Ex.rfl ok2 (rp.set (.adr p)) (h p)
/-- a, b = [..], e (the list owned) -/
def tParL (i j : Nat) (ta : TA) (te : TE) : TS := tPar i j (tCons (tLst ta) (tCons te tNil))
theorem sd_parL {i j : Nat} {ta : TA} (h : AD x ta ds μ fun es μ1 => es.length ≤ 100000 ∧ ∀ p, ED x te ds ((p, .lst es) :: μ1) fun d μ2 => N ((ds.set i (some (.adr p))).set j (some d)) μ2) : SD x (tParL i j ta te) ds μ N R B C := fun F H σ ok rp E c1 _ _ _ =>
  h F H σ ok rp _ fun F1 H1 μ1 vs es n dl q => by
    refine ⟨by rw [dl.length, sizeLine_eq]; have := q.1; omega, fun p hp => ?_⟩
    have ok2 := n.ok.take (u := .lst es) (o := .lst vs) hp ⟨vs, upd_same, dl⟩
    exact q.2 p F1 _ σ ok2 (rp.mono n.ff) _ fun F2 H2 μ2 v d n2 dv q2 => ⟨_, _, rfl, c1 F2 H2 _ _ μ2 (n.ff.tr n2.ff) n2.ok (((rp.mono (n.ff.tr n2.ff)).set (.adr p)).set dv) q2⟩
/-- xs.append(e), xs owned -/
theorem sd_append {K : PySem.W.Frag} {i j : Nat} {p : Addr} {ys : List D} (hK : K = x.K) (hs : ds[i]? = some (some (.adr p))) (hm : μ[j]? = some (p, .lst ys)) (h : ED x te ds μ fun d μ1 => ∃ xs, μ1[j]? = some (p, .lst xs) ∧ xs.length < 100000 ∧ N ds (μ1.set j (p, .lst (xs ++ [d])))) :
    SD x (tDrop (tBM K "list" rAppend (tVar i) (tCons te tNil))) ds μ N R B C := fun F H σ ok rp E c1 _ _ _ => by
  subst hK
  obtain ⟨v, h1, h2⟩ := rp.2 i _ hs
  cases h2
  obtain ⟨_, _, _, vs, e1, _⟩ := ok.own _ (List.mem_of_getElem? hm)
  refine ⟨_, h1, .inl ⟨rfl, vs, .of e1⟩, h F H σ ok rp _ fun F1 H1 μ1 v d n dv ⟨xs, hx, hl, q⟩ => ?_⟩
  obtain ⟨_, _, _, ws, e2, e3⟩ := n.ok.own _ (List.mem_of_getElem? hx)
  refine ⟨p, ws, v, rfl, rfl, e2, by rw [e3.length, sizeLine_eq]; omega, ?_⟩
  have n2 := n.ok.write (v := .lst (xs ++ [d])) (o := .lst (ws ++ [v])) hx ⟨_, upd_same, e3.append (.cons dv .nil)⟩
  exact c1 _ _ _ _ _ (n.ff.tr n2.ff) n2.ok ((rp.mono n.ff).mono n2.ff) q
/-- xs[i] = e, xs owned -/
theorem gd_setL {ti : TE} {i j : Nat} {p : Addr} {y : D} (hs : ds[i]? = some (some (.adr p))) (h : ED x ti ds μ fun d μ1 => asI d fun k => ∃ xs m, μ1[j]? = some (p, .lst xs) ∧ ixN xs.length k = some m ∧ N ds (μ1.set j (p, .lst (xs.set m y)))) : GD x (gSub (tVar i) ti rSetL) y ds μ N := fun F H σ v ok rp dv Qs k => by
  obtain ⟨w, h1, h2⟩ := rp.2 i _ hs
  cases h2
  refine ⟨_, h1, h F H σ ok rp _ fun F1 H1 μ1 v' d n dv' q => ?_⟩
  cases dv' with
  | int k' =>
    obtain ⟨xs, m, hx, hm, q⟩ := (show ∃ xs m, μ1[j]? = some (p, OO.lst xs) ∧ ixN xs.length k' = some m ∧ N ds (μ1.set j (p, .lst (xs.set m y))) from q)
    obtain ⟨_, _, _, ws, e2, e3⟩ := n.ok.own _ (List.mem_of_getElem? hx)
    refine ⟨p, ws, k', m, rfl, rfl, e2, by rw [e3.length]; exact hm, ?_⟩
    have n2 := n.ok.write (v := .lst (xs.set m y)) (o := .lst (ws.set m v)) hx ⟨_, upd_same, e3.set (dv.mono n.ff) m⟩
    exact k _ _ _ _ _ (n.tr n2) ((rp.mono n.ff).mono n2.ff) q
  | _ => exact False.elim q
/-! dicts -/
def keyD : D → Option L2.Key
  | .int i => some (.inl i)
  | .str s => some (.inr s)
  | _ => none
theorem keyD_of {K : PySem.W.Frag} {F : Hp} {v : V} {d : D} {k : L2.Key} (h : Dat K F v d) (e : keyD d = some k) : v = kV k := by
  cases h with
  | int i => cases e; rfl
  | str i => cases e; rfl
  | _ => cases e
def putG {β : Type} (kvs : List (L2.Key × β)) (k : L2.Key) (v : β) : List (L2.Key × β) := if kvs.any (fun kv => decide (kv.1 = k)) then kvs.map (fun kv => if kv.1 = k then (kv.1, v) else kv) else kvs ++ [(k, v)]
theorem putG_V (kvs : List (L2.Key × V)) (k : L2.Key) (v : V) : putK kvs k v = putG kvs k v := rfl
theorem putG_of {K : PySem.W.Frag} {F : Hp} {v : V} {d : D} (k : L2.Key) (hv : Dat K F v d) : ∀ {kvs : List (L2.Key × V)} {ds : List (L2.Key × D)}, ds.map (·.1) = kvs.map (·.1) → DatL K F (kvs.map (·.2)) (ds.map (·.2)) →
    (putG ds k d).map (·.1) = (putG kvs k v).map (·.1) ∧ DatL K F ((putG kvs k v).map (·.2)) ((putG ds k d).map (·.2)) := by
  intro kvs ds e l
  have anyE : (ds.any fun kv => decide (kv.1 = k)) = kvs.any fun kv => decide (kv.1 = k) := by
    have h1 : (ds.any fun kv => decide (kv.1 = k)) = (ds.map (·.1)).any fun a => decide (a = k) := by rw [List.any_map]; rfl
    have h2 : (kvs.any fun kv => decide (kv.1 = k)) = (kvs.map (·.1)).any fun a => decide (a = k) := by rw [List.any_map]; rfl
    rw [h1, h2, e]
  have mapE : ∀ {kvs : List (L2.Key × V)} {ds : List (L2.Key × D)}, ds.map (·.1) = kvs.map (·.1) → DatL K F (kvs.map (·.2)) (ds.map (·.2)) →
      ((ds.map fun kv => if kv.1 = k then (kv.1, d) else kv).map (·.1) = (kvs.map fun kv => if kv.1 = k then (kv.1, v) else kv).map (·.1) ∧ DatL K F ((kvs.map fun kv => if kv.1 = k then (kv.1, v) else kv).map (·.2)) ((ds.map fun kv => if kv.1 = k then (kv.1, d) else kv).map (·.2))) := by
    intro kvs
    induction kvs with
    | nil =>
      intro ds e l
      cases ds with
      | nil => exact ⟨rfl, .nil⟩
      | cons a r => cases e
    | cons b s ih =>
      intro ds e l
      cases ds with
      | nil => cases e
      | cons a r =>
        simp only [List.map_cons, List.cons.injEq] at e
        cases l with
        | cons l1 l2 =>
          obtain ⟨i1, i2⟩ := ih e.2 l2
          simp only [List.map_cons]
          rw [i1]
          by_cases c : b.1 = k
          · rw [if_pos c, if_pos (e.1.trans c)]
            exact ⟨by rw [e.1], .cons hv i2⟩
          · rw [if_neg c, if_neg (fun z => c (e.1.symm.trans z))]
            exact ⟨by rw [e.1], .cons l1 i2⟩
  unfold putG
  rw [anyE]
  split
  · exact mapE e l
  · simp only [List.map_append, List.map_cons, List.map_nil]
    exact ⟨by rw [e], l.append (.cons hv .nil)⟩
theorem putG_len {β : Type} (kvs : List (L2.Key × β)) (k : L2.Key) (v : β) : (putG kvs k v).length ≤ kvs.length + 1 := by
  unfold putG
  split
  · rw [List.length_map]; omega
  · simp
/-- d[k] = e, d owned -/
theorem sd_dput {ty tv : TE} {i j : Nat} {p : Addr} (hs : ds[i]? = some (some (.adr p))) (h : ED x tv ds μ fun v μ1 => ED x ty ds μ1 fun k μ2 => ∃ kk kvs, keyD k = some kk ∧ μ2[j]? = some (p, .dct kvs) ∧ kvs.length < 100000 ∧ N ds (μ2.set j (p, .dct (putG kvs kk v)))) :
    SD x (sDPut (tVar i) ty tv) ds μ N R B C := fun F H σ ok rp E c1 _ _ _ =>
  h F H σ ok rp _ fun F1 H1 μ1 v d n dv q => by
    obtain ⟨w, h1, h2⟩ := rp.2 i _ hs
    cases h2
    refine ⟨_, h1, q F1 H1 σ n.ok (rp.mono n.ff) _ fun F2 H2 μ2 v2 d2 n2 dv2 ⟨kk, kvs, hk, hm, hl, q2⟩ => ?_⟩
    obtain ⟨_, _, _, ws, e2, e3, e4⟩ := n2.ok.own _ (List.mem_of_getElem? hm)
    have ev := keyD_of dv2 hk
    subst ev
    have len : ws.length = kvs.length := by
      have := congrArg List.length e3
      simpa using this.symm
    refine ⟨p, _, rfl, DPut.k (k := kk) e2 (by rw [len, sizeLine_eq]; omega), ?_⟩
    obtain ⟨g1, g2⟩ := putG_of kk (dv.mono n2.ff) e3 e4
    have n3 := n2.ok.write (v := .dct (putG kvs kk d)) (o := .dK (putK ws kk v)) hm ⟨_, upd_same, g1, g2⟩
    exact c1 _ _ _ _ _ ((n.ff.tr n2.ff).tr n3.ff) n3.ok (((rp.mono n.ff).mono n2.ff).mono n3.ff) q2
/-! ### freezing -/
def frozen : OO → D
  | .lst xs => .lst xs
  | .dct kvs => .dct (kvs.map (·.1)) (kvs.map (·.2))
  | .tab _ => .non
theorem sd_freeze {i j : Nat} {p : Addr} {u : OO} (hs : ds[i]? = some (some (.adr p))) (hm : μ[j]? = some (p, u)) (h : SD x t (ds.set i (some (frozen u))) (μ.eraseIdx j) N R B C) (hu : ∀ q, u ≠ .tab q := by (intro q z; cases z)) : SD x t ds μ N R B C := fun F H σ ok rp E c1 c2 c3 c4 => by
  obtain ⟨o, ho, hF, ok2⟩ := ok.freeze hm
  obtain ⟨v, h1, h2⟩ := rp.2 i _ hs
  cases h2
  have own := (ok.own _ (List.mem_of_getElem? hm)).2.2.2
  have dv : Dat x.K (upd F p o) (.ref p) (frozen u) := by
    cases u with
    | lst xs =>
      obtain ⟨vs, e, l⟩ := own
      rw [ho] at e
      cases e
      exact .lst (.of upd_same) (l.mono (ex_new hF))
    | dct kvs =>
      obtain ⟨vs, e, k, l⟩ := own
      rw [ho] at e
      cases e
      exact .dct (.of upd_same) k (l.mono (ex_new hF))
    | tab q => exact (hu q rfl).elim
  have r2 : Rep x.K (upd F p o) σ (ds.set i (some (frozen u))) := by
    have r3 := (rp.mono (ex_new (o := o) hF)).set (i := i) dv
    have e : σ.set i (some (.ref p)) = σ := by
      apply List.ext_getElem?
      intro m
      rw [List.getElem?_set]
      split
      · rename_i z
        subst z
        obtain ⟨hl, _⟩ := List.getElem?_eq_some_iff.mp h1
        rw [if_pos hl, h1]
      · rfl
    rw [e] at r3
    exact r3
  exact h _ _ _ ok2 r2 E (fun F2 H2 σ2 ds2 μ2 e2 => c1 F2 H2 σ2 ds2 μ2 ((ex_new hF).tr e2)) c2 (fun F2 H2 σ2 ds2 μ2 e2 => c3 F2 H2 σ2 ds2 μ2 ((ex_new hF).tr e2)) (fun F2 H2 σ2 ds2 μ2 e2 => c4 F2 H2 σ2 ds2 μ2 ((ex_new hF).tr e2))
/-- what is owned and no more wanted -/
theorem sd_forget {j : Nat} (h : SD x t ds (μ.eraseIdx j) N R B C) : SD x t ds μ N R B C := fun F H σ ok rp E c1 c2 c3 c4 =>
  h F H σ ⟨ok.ext, ok.ff, ok.new, ok.fr, ok.hd, List.Nodup.sublist ((List.eraseIdx_sublist μ j).map _) ok.nd, fun q hq => ok.own q (List.mem_of_mem_eraseIdx hq)⟩ rp E c1 c2 c3 c4
/-- a slot is told no more -/
theorem sd_unset {i : Nat} (h : SD x t (ds.set i none) μ N R B C) : SD x t ds μ N R B C := fun F H σ ok rp E c1 c2 c3 c4 => by
  have r2 := rp.unset (i := i) (o := σ.getD i none)
  have e : σ.set i (σ.getD i none) = σ := by
    apply List.ext_getElem?
    intro m
    rw [List.getElem?_set]
    split
    · rename_i z
      subst z
      by_cases hl : i < σ.length
      · rw [if_pos hl, List.getElem?_eq_getElem hl]
        simp [List.getD, List.getElem?_eq_getElem hl]
      · rw [if_neg hl, List.getElem?_eq_none (by omega)]
    · rfl
  rw [e] at r2
  exact h F H σ ok r2 E c1 c2 c3 c4
/-! ### while -/
theorem sd_while (I : Nat → DS → Mu → Prop) (n : Nat) (h0 : I n ds μ)
    (hs : ∀ n ds' μ', I n ds' μ' → TD x tt ds' μ' fun b μ1 => isT b (SD x tb ds' μ1 (fun d m => ∃ n', n' < n ∧ I n' d m) R N (fun d m => ∃ n', n' < n ∧ I n' d m)) (N ds' μ1)) : SD x (tWhile tt tb) ds μ N R B C := fun F0 H σ ok rp E c1 c2 _ _ => by
  refine ⟨fun m σ H => ∃ F ds' μ', Ex F0 F ∧ Okb x F H μ' ∧ Rep x.K F σ ds' ∧ I m ds' μ', ⟨n, F0, ds, μ, Ex.rfl, ok, rp, h0⟩, ?_⟩
  rintro m σ H ⟨F, ds', μ', e0, ok, rp, i⟩
  refine hs m ds' μ' i F H σ ok rp _ fun F1 H1 μ1 b nx q => ?_
  cases b with
  | true =>
    refine ⟨fun σ' H' => ∃ m', m' < m ∧ ∃ F ds' μ', Ex F0 F ∧ Okb x F H' μ' ∧ Rep x.K F σ' ds' ∧ I m' ds' μ', fun σ' H' h => h, ?_⟩
    refine (show SD x tb ds' μ1 _ R N _ from q) F1 H1 σ nx.ok (rp.mono nx.ff) _ (fun F2 H2 σ2 ds2 μ2 e2 ok2 rp2 ⟨m', hm, i2⟩ => ⟨m', hm, F2, ds2, μ2, (e0.tr nx.ff).tr e2, ok2, rp2, i2⟩) c2 (fun F2 H2 σ2 ds2 μ2 e2 => c1 F2 H2 σ2 ds2 μ2 ((e0.tr nx.ff).tr e2)) (fun F2 H2 σ2 ds2 μ2 e2 ok2 rp2 ⟨m', hm, i2⟩ => ⟨m', hm, F2, ds2, μ2, (e0.tr nx.ff).tr e2, ok2, rp2, i2⟩)
  | false => exact c1 F1 H1 σ ds' μ1 (e0.tr nx.ff) nx.ok (rp.mono nx.ff) q
end
end DL
set_option Elab.async false
set_option linter.all false
set_option maxRecDepth 100000
set_option maxHeartbeats 1000000
namespace DL
open PySem L2 RZ
/-! ### what is walked -/
structure ItD (x : Fx) (J : It) (F1 : Hp) (items : List D) : Prop where
  go : ∀ i F H μ, Okb x F H μ → Ex F1 F → i < items.length → J.go i H
  stop : ∀ i F H μ, Okb x F H μ → Ex F1 F → items.length ≤ i → J.stop i H
  yld : ∀ i F H μ v H', Okb x F H μ → Ex F1 F → J.yld i H v H' → i < items.length → ∃ F' y, items[i]? = some y ∧ Nxt x F H μ F' H' μ ∧ Dat x.K F' v y
def ID (x : Fx) (wi : TI) (ds : DS) (μ : Mu) (Q : List D → Mu → Prop) : Prop := ∀ F H σ, Okb x F H μ → Rep x.K F σ ds → ∀ R : It → Hp → Prop, (∀ F' H' μ' J items, Nxt x F H μ F' H' μ' → ItD x J F' items → Q items μ' → R J H') → wi σ H R
section
variable {x : Fx} {te tl : TE} {tt : TT} {t u tb : TS} {g : TG} {ds : DS} {μ : Mu} {N : DS → Mu → Prop} {R : D → Mu → Prop} {B C : DS → Mu → Prop} {wi : TI} {QI : List D → Mu → Prop} {Q : D → Mu → Prop}
theorem itd_list {F1 : Hp} {a : Addr} {xs : List V} {items : List D} (hs : SqL x.K F1 a xs) (hl : DatL x.K F1 xs items) : ItD x (Itl x.K a) F1 items where
  go := fun i F H μ ok e hi => ⟨xs, xs[i]'(by rw [hl.length]; exact hi), ex_l (e.tr ok.ext) hs, by simp⟩
  stop := fun i F H μ ok e hi => ⟨xs, ex_l (e.tr ok.ext) hs, by rw [hl.length]; exact hi⟩
  yld := fun i F H μ v H' ok e ⟨e1, e2⟩ hi => by
    subst e1
    obtain ⟨y, h1, h2⟩ := hl.getV (e2 xs (ex_l (e.tr ok.ext) hs))
    exact ⟨F, y, h1, .rfl ok, h2.mono e⟩
theorem itd_tup {F1 : Hp} {a : Addr} {xs : List V} {items : List D} (hs : SqT x.K F1 a xs) (hl : DatL x.K F1 xs items) : ItD x (Itt x.K a) F1 items where
  go := fun i F H μ ok e hi => ⟨xs, xs[i]'(by rw [hl.length]; exact hi), ex_t (e.tr ok.ext) hs, by simp⟩
  stop := fun i F H μ ok e hi => ⟨xs, ex_t (e.tr ok.ext) hs, by rw [hl.length]; exact hi⟩
  yld := fun i F H μ v H' ok e ⟨e1, e2⟩ hi => by
    subst e1
    obtain ⟨y, h1, h2⟩ := hl.getV (e2 xs (ex_t (e.tr ok.ext) hs))
    exact ⟨F, y, h1, .rfl ok, h2.mono e⟩
/-- lo, lo + 1, .. -/
def rangeD (lo : Int) (n : Nat) : List D := (List.range n).map fun (i : Nat) => D.int (lo + (i : Int))
theorem rangeD_len (lo : Int) (n : Nat) : (rangeD lo n).length = n := by simp [rangeD]
theorem rangeD_get {lo : Int} {n i : Nat} (h : i < n) : (rangeD lo n)[i]? = some (.int (lo + (i : Int))) := by simp [rangeD, h]
theorem itd_range {F1 : Hp} (lo : Int) (n : Nat) : ItD x (Itr lo n) F1 (rangeD lo n) where
  go := fun i F H μ ok e hi => by rw [rangeD_len] at hi; exact hi
  stop := fun i F H μ ok e hi => by rw [rangeD_len] at hi; exact hi
  yld := fun i F H μ v H' ok e ⟨e1, e2⟩ hi => by
    subst e1 e2
    rw [rangeD_len] at hi
    exact ⟨F, _, rangeD_get hi, .rfl ok, .int _⟩
theorem id_list {K : PySem.W.Frag} (hK : K = x.K) (h : ED x tl ds μ fun d μ1 => asL d fun l => QI l μ1) : ID x (iList K tl) ds μ QI := fun F H σ ok rp R k =>
  h F H σ ok rp _ fun F1 H1 μ1 v d n dv q => by
    subst hK
    cases dv with
    | lst hs hl => exact ⟨_, rfl, ⟨_, ex_l n.ok.ext hs⟩, k F1 H1 μ1 _ _ n (itd_list hs hl) q⟩
    | _ => exact False.elim q
theorem id_tup {K : PySem.W.Frag} (hK : K = x.K) (h : ED x tl ds μ fun d μ1 => asU d fun l => QI l μ1) : ID x (iTup K tl) ds μ QI := fun F H σ ok rp R k =>
  h F H σ ok rp _ fun F1 H1 μ1 v d n dv q => by
    subst hK
    cases dv with
    | tup hs hl => exact ⟨_, rfl, ⟨_, ex_t n.ok.ext hs⟩, k F1 H1 μ1 _ _ n (itd_tup hs hl) q⟩
    | _ => exact False.elim q
theorem id_rng1 {ta : TA} (h : AD x ta ds μ fun es μ1 => ∃ j : Int, es = [.int j] ∧ -(2 ^ 62) ≤ j ∧ j < 2 ^ 62 ∧ QI (rangeD 0 j.toNat) μ1) : ID x (iRng1 ta) ds μ QI := fun F H σ ok rp R k =>
  h F H σ ok rp _ fun F1 H1 μ1 vs es n dl ⟨j, e, a, b, q⟩ => by
    subst e
    cases dl with
    | cons h1 r =>
      cases r
      cases h1
      exact ⟨j, rfl, a, b, k F1 H1 μ1 _ _ n (itd_range 0 j.toNat) q⟩
theorem id_rng2 {ta : TA} (h : AD x ta ds μ fun es μ1 => ∃ i j : Int, es = [.int i, .int j] ∧ (-(2 ^ 62) ≤ i ∧ i < 2 ^ 62 ∧ -(2 ^ 62) ≤ j ∧ j < 2 ^ 62) ∧ QI (rangeD i (j - i).toNat) μ1) : ID x (iRng2 ta) ds μ QI := fun F H σ ok rp R k =>
  h F H σ ok rp _ fun F1 H1 μ1 vs es n dl ⟨i, j, e, a, q⟩ => by
    subst e
    cases dl with
    | cons h1 r =>
      cases r with
      | cons h2 r =>
        cases r
        cases h1
        cases h2
        exact ⟨i, j, rfl, a, k F1 H1 μ1 _ _ n (itd_range i (j - i).toNat) q⟩
/-- zip of two lists, of two tuples -/
def zipD (a b : List D) : List D := List.zipWith (fun u v => D.tup [u, v]) a b
theorem zipD_get {a b : List D} {i : Nat} {y : D} (h : (zipD a b)[i]? = some y) : ∃ u v, a[i]? = some u ∧ b[i]? = some v ∧ y = .tup [u, v] := by
  unfold zipD at h
  rw [List.getElem?_zipWith] at h
  split at h
  · rename_i u v e1 e2
    cases h
    exact ⟨u, v, e1, e2, rfl⟩
  · cases h
theorem zip_lt {a b : List D} {i : Nat} (hi : i < (zipD a b).length) : i < a.length ∧ i < b.length := by
  unfold zipD at hi
  rw [List.length_zipWith] at hi
  omega
theorem zip_yld {F H : Hp} {μ : Mu} {p : Addr} {v1 v2 : V} {d1 d2 : D} (ok : Okb x F H μ) (hp : H p = none) (h1 : Dat x.K F v1 d1) (h2 : Dat x.K F v2 d2) : ∃ F', Nxt x F H μ F' (upd H p (.tup [v1, v2])) μ ∧ Dat x.K F' (.ref p) (.tup [d1, d2]) := by
  have n := ok.lay (.tup [v1, v2]) hp
  exact ⟨_, n, .tup (.of upd_same) (.cons (h1.mono n.ff) (.cons (h2.mono n.ff) .nil))⟩
theorem itd_zipL {F1 : Hp} {a b : Addr} {xs ys : List V} {l m : List D} (hs : SqL x.K F1 a xs) (hl : DatL x.K F1 xs l) (hs2 : SqL x.K F1 b ys) (hl2 : DatL x.K F1 ys m) : ItD x (Itz x.K a b) F1 (zipD l m) where
  go := fun i F H μ ok e hi => by
    obtain ⟨h1, h2⟩ := zip_lt hi
    rw [← hl.length] at h1
    rw [← hl2.length] at h2
    exact ⟨xs, ys, xs[i], ys[i], ex_l (e.tr ok.ext) hs, ex_l (e.tr ok.ext) hs2, by simp, by simp⟩
  stop := fun i F H μ ok e hi => ⟨xs, ys, ex_l (e.tr ok.ext) hs, ex_l (e.tr ok.ext) hs2, by
    unfold zipD at hi
    rw [List.length_zipWith, ← hl.length, ← hl2.length] at hi
    omega⟩
  yld := fun i F H μ v H' ok e ⟨T, u1, u2, e1, e2, e3, e4, e5⟩ hi => by
    subst e1 e3
    obtain ⟨y1, g1, g2⟩ := hl.getV (e4 xs (ex_l (e.tr ok.ext) hs))
    obtain ⟨y2, g3, g4⟩ := hl2.getV (e5 ys (ex_l (e.tr ok.ext) hs2))
    obtain ⟨F', n, dv⟩ := zip_yld ok e2 (g2.mono e) (g4.mono e)
    exact ⟨F', _, by unfold zipD; rw [List.getElem?_zipWith, g1, g3], n, dv⟩
theorem itd_zipT {F1 : Hp} {a b : Addr} {xs ys : List V} {l m : List D} (hs : SqT x.K F1 a xs) (hl : DatL x.K F1 xs l) (hs2 : SqT x.K F1 b ys) (hl2 : DatL x.K F1 ys m) : ItD x (ItzT x.K a b) F1 (zipD l m) where
  go := fun i F H μ ok e hi => by
    obtain ⟨h1, h2⟩ := zip_lt hi
    rw [← hl.length] at h1
    rw [← hl2.length] at h2
    exact ⟨xs, ys, xs[i], ys[i], ex_t (e.tr ok.ext) hs, ex_t (e.tr ok.ext) hs2, by simp, by simp⟩
  stop := fun i F H μ ok e hi => ⟨xs, ys, ex_t (e.tr ok.ext) hs, ex_t (e.tr ok.ext) hs2, by
    unfold zipD at hi
    rw [List.length_zipWith, ← hl.length, ← hl2.length] at hi
    omega⟩
  yld := fun i F H μ v H' ok e ⟨T, u1, u2, e1, e2, e3, e4, e5⟩ hi => by
    subst e1 e3
    obtain ⟨y1, g1, g2⟩ := hl.getV (e4 xs (ex_t (e.tr ok.ext) hs))
    obtain ⟨y2, g3, g4⟩ := hl2.getV (e5 ys (ex_t (e.tr ok.ext) hs2))
    obtain ⟨F', n, dv⟩ := zip_yld ok e2 (g2.mono e) (g4.mono e)
    exact ⟨F', _, by unfold zipD; rw [List.getElem?_zipWith, g1, g3], n, dv⟩
/-- both lists, or both tuples -/
def twoSeq : D → D → Option (List D × List D)
  | .lst a, .lst b => some (a, b)
  | .tup a, .tup b => some (a, b)
  | _, _ => none
theorem id_zip {K : PySem.W.Frag} {ta : TA} (hK : K = x.K) (h : AD x ta ds μ fun es μ1 => ∃ a b l m, es = [a, b] ∧ twoSeq a b = some (l, m) ∧ QI (zipD l m) μ1) : ID x (iZipA K ta) ds μ QI := fun F H σ ok rp R k =>
  h F H σ ok rp _ fun F1 H1 μ1 vs es n dl ⟨a, b, l, m, e, e2, q⟩ => by
    subst e hK
    cases dl with
    | cons h1 r =>
      cases r with
      | cons h2 r =>
        cases r
        cases h1 with
        | lst hs hl =>
          cases h2 with
          | lst hs2 hl2 =>
            cases e2
            exact ⟨_, _, _, _, rfl, .inl ⟨ex_l n.ok.ext hs, ex_l n.ok.ext hs2, k F1 H1 μ1 _ _ n (itd_zipL hs hl hs2 hl2) q⟩⟩
          | _ => cases e2
        | tup hs hl =>
          cases h2 with
          | tup hs2 hl2 =>
            cases e2
            exact ⟨_, _, _, _, rfl, .inr ⟨ex_t n.ok.ext hs, ex_t n.ok.ext hs2, k F1 H1 μ1 _ _ n (itd_zipT hs hl hs2 hl2) q⟩⟩
          | _ => cases e2
        | _ => cases e2
/-! ### for -/
theorem sd_for (I : Nat → DS → Mu → Prop) (h : ID x wi ds μ fun items μ1 => I 0 ds μ1 ∧ (∀ i y ds' μ', items[i]? = some y → I i ds' μ' → GD x g y ds' μ' fun ds2 μ2 => SD x tb ds2 μ2 (I (i + 1)) R N (I (i + 1))) ∧ ∀ ds' μ', I items.length ds' μ' → N ds' μ') :
    SD x (tFor wi g tb) ds μ N R B C := fun F H σ ok rp E c1 c2 _ _ =>
  h F H σ ok rp _ fun F1 H1 μ1 J items n it ⟨q0, qs, qd⟩ => by
    refine ⟨fun i m σ H => m = items.length - i ∧ i ≤ items.length ∧ ∃ F ds' μ', Ex F1 F ∧ Okb x F H μ' ∧ Rep x.K F σ ds' ∧ I i ds' μ', ⟨_, rfl, Nat.zero_le _, F1, ds, μ1, Ex.rfl, n.ok, rp.mono n.ff, q0⟩, ?_⟩
    rintro i m σ H ⟨rfl, hi, F, ds', μ', e, ok, rp, q⟩
    by_cases hlt : i < items.length
    · refine .inr ⟨it.go i F H μ' ok e hlt, fun σ' H' => ∃ F ds' μ', Ex F1 F ∧ Okb x F H' μ' ∧ Rep x.K F σ' ds' ∧ I (i + 1) ds' μ', fun σ' H' w => ⟨items.length - (i + 1), by omega, rfl, hlt, w⟩, fun v H' hy => ?_⟩
      obtain ⟨F2, y, hy1, n2, dy⟩ := it.yld i F H μ' v H' ok e hy hlt
      refine qs i y ds' μ' hy1 q F2 H' σ v n2.ok (rp.mono n2.ff) dy _ fun F3 H3 μ3 σ3 ds3 n3 r3 q3 => ?_
      refine q3 F3 H3 σ3 n3.ok r3 _ (fun F4 H4 σ4 ds4 μ4 e4 ok4 r4 q4 => ⟨F4, ds4, μ4, ((e.tr n2.ff).tr n3.ff).tr e4, ok4, r4, q4⟩) c2 (fun F4 H4 σ4 ds4 μ4 e4 => c1 F4 H4 σ4 ds4 μ4 ((((n.ff.tr e).tr n2.ff).tr n3.ff).tr e4)) (fun F4 H4 σ4 ds4 μ4 e4 ok4 r4 q4 => ⟨F4, ds4, μ4, ((e.tr n2.ff).tr n3.ff).tr e4, ok4, r4, q4⟩)
    · have e' : i = items.length := by omega
      subst e'
      exact .inl ⟨it.stop _ F H μ' ok e (Nat.le_refl _), c1 F H σ ds' μ' (n.ff.tr e) ok rp (qd ds' μ' q)⟩
/-! ### list comprehensions -/
def wipeD (ds : DS) : List Nat → DS
  | [] => ds
  | v :: vs => (wipeD ds vs).set v none
theorem Rep.wipe {K : PySem.W.Frag} {F : Hp} {σ : St} {ds : DS} (r : Rep K F σ ds) : ∀ vs : List Nat, Rep K F (L2.wipe σ vs) (wipeD ds vs)
  | [] => r
  | v :: vs => (r.wipe vs).unset
/-- what a target leaves alone: the slots vs are its own -/
def GOwn (g : TG) (vs : List Nat) : Prop := ∀ v σ H (Qs : St → Hp → Prop), g v (L2.wipe σ vs) H Qs → g v (L2.wipe σ vs) H fun σ2 H2 => L2.wipe σ2 vs = L2.wipe σ vs ∧ Qs σ2 H2
theorem gown_name (i : Nat) : GOwn (gName i) [i] := fun v σ H Qs h => by
  refine ⟨?_, h⟩
  show ((σ.set i none).set i (some v)).set i none = σ.set i none
  simp
theorem gown_two (K : PySem.W.Frag) (i j : Nat) (hij : i ≠ j) : GOwn (gTup K 2 (gCons (gName i) (gCons (gName j) gNil))) [i, j] := fun v σ H Qs h => by
  obtain ⟨a, xs, e1, e2, e3, v1, r1, e4, v2, r2, e5, e6, q⟩ := h
  refine ⟨a, xs, e1, e2, e3, v1, r1, e4, v2, r2, e5, e6, ?_, q⟩
  show ((((((σ.set j none).set i none).set i (some v1)).set j (some v2)).set j none).set i none) = (σ.set j none).set i none
  apply List.ext_getElem?
  intro m
  simp only [List.getElem?_set, List.length_set]
  split
  · rfl
  · split <;> rfl
theorem ed_lc {vs : List Nat} (hg : GOwn g vs)
    (h : ID x wi ds μ fun items μ1 => items.length ≤ 100000 ∧ ∃ I : Nat → List D → Mu → Prop, I 0 [] μ1 ∧ (∀ i y acc μ', items[i]? = some y → acc.length ≤ i → I i acc μ' → GD x g y (wipeD ds vs) μ' fun ds2 μ2 => TD x tt ds2 μ2 fun b μ3 => isT b (ED x te ds2 μ3 fun d μ4 => I (i + 1) (acc ++ [d]) μ4) (I (i + 1) acc μ3)) ∧ ∀ acc μ', acc.length ≤ items.length → I items.length acc μ' → Q (.lst acc) μ') :
    ED x (tLc wi g tt te vs) ds μ Q := fun F H σ ok rp Qv k =>
  h F H σ ok rp _ fun F1 H1 μ1 J items n it ⟨hz, I, q0, qs, qd⟩ Dd hD => by
    -- the new list stands at Dd, told beside the state
    have lay0 := n.ok.lay (.lst []) hD
    let W : Nat → Nat → Hp → Prop := fun i m H => m = items.length - i ∧ i ≤ items.length ∧ ∃ F μ' vs acc, Ex F1 F ∧ F Dd = none ∧ H Dd = some (.lst vs) ∧ DatL x.K F vs acc ∧ acc.length ≤ i ∧ Okb x F H μ' ∧ μ'.map (·.1) = μ1.map (·.1) ∧ (∀ b o, H1 b = some o → b ∉ μ1.map (·.1) → x.hand ≠ some b → H b = some o) ∧ ((∀ b w, F b = some w → F1 b = some w ∨ H1 b = none) ∧ ∀ b o, H1 b = some o → ∃ u, H b = some u) ∧ I i acc μ'
    have noD : x.H0 Dd = none := n.ok.h0 hD
    have nmu : Dd ∉ μ1.map (·.1) := fun z => by
      obtain ⟨q, hq, e⟩ := List.mem_map.mp z
      obtain ⟨u, hu⟩ := (n.ok.own q hq).2.2.2.some
      rw [e, hD] at hu
      cases hu
    have nhd : x.hand ≠ some Dd := fun z => by
      obtain ⟨_, _, _, _, _, _, _, e, _⟩ := n.ok.hd Dd z
      rw [hD] at e
      cases e
    -- the list may grow: it is in no one's sight
    have beside : ∀ {F H : Hp} {μ' : Mu} (o : HO), Okb x F H μ' → F Dd = none → Dd ∉ μ'.map (·.1) → Okb x F (upd H Dd o) μ' := fun {F H μ'} o ok hF hm => by
      have ne : ∀ b w, F b = some w → b ≠ Dd := fun b w e z => by
        subst z
        rw [hF] at e
        cases e
      refine ⟨fun b w e => by rw [upd_ne (ne b w e)]; exact ok.ext b w e, ok.ff, ok.new, fun b w e z => ?_, fun q e => ?_, ok.nd, fun q hq => ?_⟩
      · have z' : b ≠ Dd := fun z => by
          subst z
          rw [noD] at e
          cases e
        rw [upd_ne z']
        exact ok.fr b w e z
      · have hh := ok.hd q e
        have z : q ≠ Dd := fun z => nhd (by rw [e, z])
        exact hh.mono Ex.rfl (upd_ne z) hh.1
      · obtain ⟨b1, b2, b3, b4⟩ := ok.own q hq
        have z : q.1 ≠ Dd := fun z => hm (List.mem_map.mpr ⟨q, hq, z⟩)
        exact ⟨b1, b2, b3, b4.mono Ex.rfl (upd_ne z)⟩
    refine ⟨W, ⟨_, rfl, Nat.zero_le _, F1, μ1, [], [], Ex.rfl, n.ok.f0 hD, upd_same, .nil, Nat.zero_le _, beside _ n.ok (n.ok.f0 hD) nmu, rfl, fun b o e _ _ => ex_new hD b o e, ⟨fun _ _ h => .inl h, fun b o e => ⟨o, ex_new hD b o e⟩⟩, q0⟩, ?_⟩
    rintro i m H ⟨rfl, hi, F, μ', ws, acc, e, hF, hDD, dl, hacc, ok, ad, fr, ⟨nw, th⟩, q⟩
    by_cases hlt : i < items.length
    · refine .inr ⟨it.go i F H μ' ok e hlt, fun H' => W (i + 1) (items.length - (i + 1)) H', fun H' w => ⟨items.length - (i + 1), by omega, w⟩, fun v H' hy => ?_⟩
      obtain ⟨F2, y, hy1, n2, dy⟩ := it.yld i F H μ' v H' ok e hy hlt
      have rp2 : Rep x.K F2 (L2.wipe σ vs) (wipeD ds vs) := (((rp.mono n.ff).mono e).mono n2.ff).wipe vs
      refine hg v σ H' _ (qs i y acc μ' hy1 hacc q F2 H' (L2.wipe σ vs) v n2.ok rp2 dy _ fun F3 H3 μ3 σ3 ds3 n3 r3 q3 => ?_)
      refine q3 F3 H3 σ3 n3.ok r3 _ fun F4 H4 μ4 b n4 q4 => ?_
      have nn := (n2.tr n3).tr n4
      have dm : Dd ∉ μ'.map (·.1) := by rw [ad]; exact nmu
      have fD : ∀ {F' H' : Hp} {μ'' : Mu}, Nxt x F H μ' F' H' μ'' → H' Dd = some (.lst ws) ∧ F' Dd = none := fun {F' H' μ''} nx => by
        refine ⟨nx.fr Dd _ hDD dm nhd, ?_⟩
        cases z : F' Dd with
        | none => rfl
        | some o =>
          exfalso
          rcases nx.nw Dd o z with w | w
          · rw [hF] at w
            cases w
          · rw [hDD] at w
            cases w
      have frK : ∀ {F' H' : Hp} {μ'' : Mu}, Nxt x F H μ' F' H' μ'' → ∀ b o, H1 b = some o → b ∉ μ1.map (·.1) → x.hand ≠ some b → H' b = some o := fun nx b o h1 h2 h3 => nx.fr b o (fr b o h1 h2 h3) (by rw [ad]; exact h2) h3
      have nwK : ∀ {F' H' : Hp} {μ'' : Mu}, Nxt x F H μ' F' H' μ'' → (∀ b w, F' b = some w → F1 b = some w ∨ H1 b = none) ∧ ∀ b o, H1 b = some o → ∃ u, H' b = some u := fun nx => by
        refine ⟨fun b w h => ?_, fun b o h => ?_⟩
        · rcases nx.nw b w h with z | z
          · exact nw b w z
          · refine .inr ?_
            cases q : H1 b with
            | none => rfl
            | some u =>
              obtain ⟨w', hw⟩ := th b u q
              rw [z] at hw
              cases hw
        · obtain ⟨w', hw⟩ := th b o h
          exact nx.there hw
      cases b with
      | false =>
        obtain ⟨a1, a2⟩ := fD nn
        exact ⟨rfl, hlt, F4, μ4, ws, acc, e.tr nn.ff, a2, a1, dl.mono nn.ff, Nat.le_succ_of_le hacc, nn.ok, nn.ad.trans ad, frK nn, nwK nn, q4⟩
      | true =>
        refine (show ED x te ds3 μ4 _ from q4) F4 H4 σ3 n4.ok (r3.mono n4.ff) _ fun F5 H5 μ5 v5 d5 n5 dv5 q5 => ?_
        have nn5 := nn.tr n5
        obtain ⟨a1, a2⟩ := fD nn5
        refine ⟨ws, a1, by rw [dl.length, sizeLine_eq]; omega, ?_⟩
        have m5 : Dd ∉ μ5.map (·.1) := by rw [nn5.ad, ad]; exact nmu
        refine ⟨rfl, hlt, F5, μ5, ws ++ [v5], acc ++ [d5], e.tr nn5.ff, a2, upd_same, (dl.mono nn5.ff).append (.cons dv5 .nil), by rw [List.length_append]; simp; omega, beside _ nn5.ok a2 m5, nn5.ad.trans ad, fun b o h1 h2 h3 => ?_, ⟨(nwK nn5).1, fun b o h1 => ?_⟩, q5⟩
        rotate_left
        · by_cases z : b = Dd
          · subst z
            exact ⟨_, upd_same⟩
          · obtain ⟨u, hu⟩ := (nwK nn5).2 b o h1
            exact ⟨u, by rw [upd_ne z]; exact hu⟩
        have z : b ≠ Dd := fun z => by
          subst z
          rw [hD] at h1
          cases h1
        rw [upd_ne z]
        exact frK nn5 b o h1 h2 h3
    · have e' : i = items.length := by omega
      subst e'
      refine .inl ⟨it.stop _ F H μ' ok e (Nat.le_refl _), ?_⟩
      -- the list is frozen
      have dm : Dd ∉ μ'.map (·.1) := by rw [ad]; exact nmu
      have okF : Okb x (upd F Dd (.lst ws)) H μ' := by
        refine ⟨fun b w e => ?_, ok.ff.tr (ex_new hF), fun b w e => ?_, ok.fr, fun q e => ?_, ok.nd, fun q hq => ?_⟩
        · by_cases z : b = Dd
          · subst z
            rw [upd_same] at e
            exact hDD.trans e
          · rw [upd_ne z] at e
            exact ok.ext b w e
        · by_cases z : b = Dd
          · subst z
            exact .inr noD
          · rw [upd_ne z] at e
            exact ok.new b w e
        · have hh := ok.hd q e
          have z : q ≠ Dd := fun z => nhd (by rw [e, z])
          exact hh.mono (ex_new hF) rfl (by rw [upd_ne z]; exact hh.1)
        · obtain ⟨b1, b2, b3, b4⟩ := ok.own q hq
          have z : q.1 ≠ Dd := fun z => dm (List.mem_map.mpr ⟨q, hq, z⟩)
          exact ⟨by rw [upd_ne z]; exact b1, b2, b3, b4.mono (ex_new hF) rfl⟩
      have nx : Nxt x F1 H1 μ1 (upd F Dd (.lst ws)) H μ' := ⟨okF, e.tr (ex_new hF), fr, ad, fun b w h => by
        by_cases z : b = Dd
        · subst z
          exact .inr hD
        · rw [upd_ne z] at h
          exact nw b w h⟩
      exact k _ _ _ _ _ (n.tr nx) (.lst (.of upd_same) (dl.mono (ex_new hF))) (qd acc μ' hacc q)
theorem take_snoc {l : List D} {i : Nat} {y : D} (h : l[i]? = some y) : l.take (i + 1) = l.take i ++ [y] := by
  obtain ⟨hl, e⟩ := List.getElem?_eq_some_iff.mp h
  rw [List.take_add_one, h]
  rfl
/-- [f y for y in items if p y], nothing changed on the way -/
theorem ed_filtermap {vs : List Nat} (hg : GOwn g vs) (p : D → Bool) (f : D → D)
    (h : ID x wi ds μ fun items μ1 => items.length ≤ 100000 ∧ (∀ (i : Nat) (y : D), items[i]? = some y → GD x g y (wipeD ds vs) μ1 fun ds2 μ2 => TD x tt ds2 μ2 fun b μ3 => b = p y ∧ isT b (ED x te ds2 μ3 fun d μ4 => d = f y ∧ μ4 = μ1) (μ3 = μ1)) ∧ Q (.lst ((items.filter p).map f)) μ1) :
    ED x (tLc wi g tt te vs) ds μ Q := ed_lc hg fun F H σ ok rp R k => h F H σ ok rp R fun F' H' μ' J items n it ⟨hz, hs, hq⟩ =>
  k F' H' μ' J items n it ⟨hz, fun i acc m => acc = ((items.take i).filter p).map f ∧ m = μ', ⟨by simp, rfl⟩, fun i y acc m hy _ ⟨e1, e2⟩ => by
    subst e1 e2
    refine fun F H σ v ok rp dv Qs k => hs i y hy F H σ v ok rp dv Qs fun F1 H1 μ1 σ1 ds1 n1 r1 q1 => k F1 H1 μ1 σ1 ds1 n1 r1 fun F H σ ok rp Qb k => q1 F H σ ok rp Qb fun F2 H2 μ2 b n2 ⟨e, q2⟩ => k F2 H2 μ2 b n2 ?_
    subst e
    cases hp : p y with
    | true =>
      rw [hp] at q2
      refine isT_t (fun F H σ ok rp Qv k => (show ED x te ds1 μ2 _ from q2) F H σ ok rp Qv fun F3 H3 μ3 v d n3 dv ⟨e1, e2⟩ => k F3 H3 μ3 v d n3 dv ⟨?_, e2⟩)
      rw [e1, take_snoc hy, List.filter_append, List.map_append]
      simp [hp]
    | false =>
      rw [hp] at q2
      refine isT_f ⟨?_, q2⟩
      rw [take_snoc hy, List.filter_append, List.map_append]
      simp [hp], fun acc m _ ⟨e1, e2⟩ => by
    subst e1 e2
    rw [List.take_length]
    exact hq⟩
/-- [f y for y in items], nothing changed on the way -/
theorem ed_map {vs : List Nat} (hg : GOwn g vs) (f : D → D)
    (h : ID x wi ds μ fun items μ1 => items.length ≤ 100000 ∧ (∀ (i : Nat) (y : D), items[i]? = some y → GD x g y (wipeD ds vs) μ1 fun ds2 μ2 => ED x te ds2 μ2 fun d μ4 => d = f y ∧ μ4 = μ1) ∧ Q (.lst (items.map f)) μ1) :
    ED x (tLc wi g tYes te vs) ds μ Q := ed_filtermap hg (fun _ => true) f fun F H σ ok rp R k => h F H σ ok rp R fun F' H' μ' J items n it ⟨hz, hs, hq⟩ =>
  k F' H' μ' J items n it ⟨hz, fun i y hy => fun F H σ v ok rp dv Qs k => hs i y hy F H σ v ok rp dv Qs fun F1 H1 μ1 σ1 ds1 n1 r1 q1 => k F1 H1 μ1 σ1 ds1 n1 r1 (td_yes ⟨rfl, isT_t q1⟩), by
    have e : items.filter (fun _ => true) = items := List.filter_eq_self.mpr (fun _ _ => rfl)
    rw [e]
    exact hq⟩
end
end DL
set_option Elab.async false
set_option linter.all false
set_option maxRecDepth 100000
set_option maxHeartbeats 1000000
namespace DL
open PySem L2
/-! ### promises over data -/
def XAt (fo : Option (List (Str × V))) (od : Option Addr) (H : Hp) : Prop := match fo with
  | none => od = none
  | some fs => ∃ d, od = some d ∧ H d = some (.xd fs)
abbrev New (F H F' : Hp) : Prop := ∀ b o, F' b = some o → F b = some o ∨ H b = none
/-- a def that only reads -/
def SpP (K : PySem.W.Frag) {α : Type} (args : α → List D) (dom : α → Prop) (res : α → D → Prop) : Sp := fun vs H Q _ => ∃ (a : α) (F : Hp), Ex F H ∧ DatL K F vs (args a) ∧ dom a ∧
  ∀ F' H' v d, Ex F F' → Ex F' H' → Ex H H' → New F H F' → Dat K F' v d → res a d → Q v H'
/-- .. and may raise: exc tells the class and the fields -/
def SpX (K : PySem.W.Frag) {α : Type} (args : α → List D) (dom : α → Prop) (res : α → D → Prop) (exc : α → Value → Option (List (Str × V)) → Prop) : Sp := fun vs H Q E => ∃ (a : α) (F : Hp), Ex F H ∧ DatL K F vs (args a) ∧ dom a ∧
  (∀ F' H' v d, Ex F F' → Ex F' H' → Ex H H' → New F H F' → Dat K F' v d → res a d → Q v H') ∧ ∀ H' cls od fo, Ex H H' → exc a cls fo → XAt fo od H' → E cls od H'
/-- a def that draws: the hand is its first argument -/
def SpH (K : PySem.W.Frag) {α : Type} (args : α → List D) (dom : α → Prop) (res : α → D → Prop) : Sp := fun vs H Q _ => ∃ (a : α) (F : Hp) (h : Addr), Ex F H ∧ DatL K F vs (.adr h :: args a) ∧ HandAt K F H h ∧ dom a ∧
  ∀ F' H' v d, Ex F F' → Ex F' H' → (∀ b o, H b = some o → b ≠ h → H' b = some o) → HandAt K F' H' h → New F H F' → Dat K F' v d → res a d → Q v H'
/-- what the def's wish takes -/
def Rz (x : Fx) (E : XK) (X : Value → Option (List (Str × V)) → Prop) : Prop := x.hand = none ∧ ∀ H' cls od fo, Ex x.H0 H' → X cls fo → XAt fo od H' → E cls od H'
section
variable {x : Fx} {F F' H H' : Hp} {μ : Mu}
/-- behind a call that reads -/
theorem Okb.called (ok : Okb x F H μ) (h1 : Ex F F') (h2 : Ex F' H') (h3 : Ex H H') (h4 : New F H F') : Nxt x F H μ F' H' μ := by
  have keep : ∀ b, (∃ u, H b = some u) → H' b = H b := fun b ⟨u, e⟩ => by rw [e]; exact h3 b u e
  have noF : ∀ b, F b = none → (∃ u, H b = some u) → F' b = none := fun b e ⟨u, hu⟩ => by
    cases q : F' b with
    | none => rfl
    | some o =>
      rcases h4 b o q with z | z
      · rw [e] at z
        cases z
      · rw [hu] at z
        cases z
  refine ⟨⟨h2, ok.ff.tr h1, fun b o e => ?_, fun b o e n => h3 b o (ok.fr b o e n), fun q e => ?_, ok.nd, fun q hq => ?_⟩, h1, fun b o e _ _ => h3 b o e, rfl, h4⟩
  · rcases h4 b o e with z | z
    · exact ok.new b o z
    · exact .inr (ok.h0 z)
  · have hh := ok.hd q e
    have there : ∃ u, H q = some u := by obtain ⟨_, _, _, _, _, _, _, e, _⟩ := hh; exact ⟨_, e⟩
    exact hh.mono h1 (keep q there) (noF q hh.1 there)
  · obtain ⟨b1, b2, b3, b4⟩ := ok.own q hq
    exact ⟨noF q.1 b1 b4.some, b2, b3, b4.mono h1 (keep q.1 b4.some)⟩
/-- behind a call that draws -/
theorem Okb.drawn {h : Addr} (ok : Okb x F H μ) (hx : x.hand = some h) (h1 : Ex F F') (h2 : Ex F' H') (h3 : ∀ b o, H b = some o → b ≠ h → H' b = some o) (hh : HandAt x.K F' H' h) (h4 : New F H F') : Nxt x F H μ F' H' μ := by
  have keep : ∀ b, b ≠ h → (∃ u, H b = some u) → H' b = H b := fun b n ⟨u, e⟩ => by rw [e]; exact h3 b u e n
  have noF : ∀ b, F b = none → (∃ u, H b = some u) → F' b = none := fun b e ⟨u, hu⟩ => by
    cases q : F' b with
    | none => rfl
    | some o =>
      rcases h4 b o q with z | z
      · rw [e] at z
        cases z
      · rw [hu] at z
        cases z
  refine ⟨⟨h2, ok.ff.tr h1, fun b o e => ?_, fun b o e n => h3 b o (ok.fr b o e n) (fun z => n (by rw [hx, z])), fun q e => ?_, ok.nd, fun q hq => ?_⟩, h1, fun b o e _ n => h3 b o e (fun z => n (by rw [hx, z])), rfl, h4⟩
  · rcases h4 b o e with z | z
    · exact ok.new b o z
    · exact .inr (ok.h0 z)
  · rw [hx] at e
    cases e
    exact hh
  · obtain ⟨b1, b2, b3, b4⟩ := ok.own q hq
    have ne : q.1 ≠ h := fun z => b3 (by rw [hx, z])
    exact ⟨noF q.1 b1 b4.some, b2, b3, b4.mono h1 (keep q.1 ne b4.some)⟩
variable {ta : TA} {ds : DS} {Q : D → Mu → Prop} {α : Type} {args : α → List D} {dom : α → Prop} {res : α → D → Prop} {exc : α → Value → Option (List (Str × V)) → Prop} {E : XK} {K : PySem.W.Frag}
theorem ed_callP (hK : K = x.K) (h : AD x ta ds μ fun es μ1 => ∃ a, es = args a ∧ dom a ∧ ∀ d, res a d → Q d μ1) : ED x (tCall (SpP K args dom res) [] E ta) ds μ Q := fun F H σ ok rp Qv k =>
  h F H σ ok rp _ fun F1 H1 μ1 vs es n dl ⟨a, e, hd, q⟩ => by
    subst e hK
    show SpP x.K args dom res (vs ++ []) H1 Qv E
    rw [List.append_nil]
    refine ⟨a, F1, n.ok.ext, dl, hd, fun F' H' v d h1 h2 h3 h4 dv r => ?_⟩
    exact k F' H' μ1 v d (n.tr (n.ok.called h1 h2 h3 h4)) dv (q d r)
theorem ed_callX (hK : K = x.K) (h : AD x ta ds μ fun es μ1 => ∃ a, es = args a ∧ dom a ∧ (∀ cls fo, ¬ exc a cls fo) ∧ ∀ d, res a d → Q d μ1) : ED x (tCall (SpX K args dom res exc) [] E ta) ds μ Q := fun F H σ ok rp Qv k =>
  h F H σ ok rp _ fun F1 H1 μ1 vs es n dl ⟨a, e, hd, hx, q⟩ => by
    subst e hK
    show SpX x.K args dom res exc (vs ++ []) H1 Qv E
    rw [List.append_nil]
    refine ⟨a, F1, n.ok.ext, dl, hd, fun F' H' v d h1 h2 h3 h4 dv r => ?_, fun H' cls od fo _ z _ => (hx cls fo z).elim⟩
    exact k F' H' μ1 v d (n.tr (n.ok.called h1 h2 h3 h4)) dv (q d r)
theorem ed_callE {X : Value → Option (List (Str × V)) → Prop} (hE : Rz x E X) (hK : K = x.K) (h : AD x ta ds μ fun es μ1 => ∃ a, es = args a ∧ dom a ∧ (∀ cls fo, exc a cls fo → X cls fo) ∧ ∀ d, res a d → Q d μ1) : ED x (tCall (SpX K args dom res exc) [] E ta) ds μ Q := fun F H σ ok rp Qv k =>
  h F H σ ok rp _ fun F1 H1 μ1 vs es n dl ⟨a, e, hd, hx, q⟩ => by
    subst e hK
    show SpX x.K args dom res exc (vs ++ []) H1 Qv E
    rw [List.append_nil]
    refine ⟨a, F1, n.ok.ext, dl, hd, fun F' H' v d h1 h2 h3 h4 dv r => ?_, fun H' cls od fo e z xa => ?_⟩
    · exact k F' H' μ1 v d (n.tr (n.ok.called h1 h2 h3 h4)) dv (q d r)
    · exact hE.2 H' cls od fo (fun b o hb => e b o (n.ok.fr b o hb (by rw [hE.1]; intro z; cases z))) (hx cls fo z) xa
theorem ed_callH (hK : K = x.K) (h : AD x ta ds μ fun es μ1 => ∃ a p, x.hand = some p ∧ es = .adr p :: args a ∧ dom a ∧ ∀ d, res a d → Q d μ1) : ED x (tCall (SpH K args dom res) [] E ta) ds μ Q := fun F H σ ok rp Qv k =>
  h F H σ ok rp _ fun F1 H1 μ1 vs es n dl ⟨a, p, hp, e, hd, q⟩ => by
    subst e hK
    show SpH x.K args dom res (vs ++ []) H1 Qv E
    rw [List.append_nil]
    refine ⟨a, F1, p, n.ok.ext, dl, n.ok.hd p hp, hd, fun F' H' v d h1 h2 h3 hh h4 dv r => ?_⟩
    exact k F' H' μ1 v d (n.tr (n.ok.drawn hp h1 h2 h3 hh h4)) dv (q d r)
/-! ### from the body's reading to the promise -/
def startD (n : Nat) (ds : List D) : DS := ds.map some ++ List.replicate (n - ds.length) none
theorem rep_start {N : List Str} {vs : List V} {as : List D} (h : DatL K F vs as) (hl : as.length ≤ N.length) : Rep K F (L2.start N vs) (startD N.length as) := by
  have e := h.length
  refine ⟨by unfold L2.start startD; simp [e], fun i d hi => ?_⟩
  unfold startD at hi
  by_cases z : i < as.length
  · rw [List.getElem?_append_left (by simpa using z), List.getElem?_map] at hi
    cases q : as[i]? with
    | none => rw [q] at hi; cases hi
    | some d' =>
      rw [q] at hi
      have hd : d' = d := Option.some.inj (Option.some.inj hi)
      subst hd
      obtain ⟨v, h1, h2⟩ := h.get q
      refine ⟨v, ?_, h2⟩
      unfold L2.start
      rw [List.getElem?_append_left (by simp; omega), List.getElem?_map, h1]
      rfl
  · rw [List.getElem?_append_right (by simpa using z), List.getElem?_replicate] at hi
    split at hi <;> cases hi
theorem okb_start {hand : Option Addr} (e : Ex F H) (hh : ∀ h, hand = some h → HandAt K F H h) : Okb ⟨K, F, H, hand⟩ F H [] :=
  ⟨e, Ex.rfl, fun _ _ h => .inl h, fun _ _ h _ => h, hh, List.nodup_nil, fun p hp => by cases hp⟩
variable {N : List Str} {ts : TS} {vs : List V} {QV : VK}
abbrev noB : DS → Mu → Prop := fun _ _ => False
theorem fnP (h : SpP K args dom res vs H QV E) (hl : ∀ a, (args a).length ≤ N.length) (hb : ∀ a F0 H0, dom a → SD ⟨K, F0, H0, none⟩ ts (startD N.length (args a)) [] (fun _ _ => res a .non) (fun d _ => res a d) noB noB) : ts { nx := fun _ H' => QV .non H', rt := QV } (L2.start N vs) H := by
  obtain ⟨a, F, e, dl, hd, q⟩ := h
  refine hb a F H hd F H _ (okb_start e (fun _ z => by cases z)) (rep_start dl (hl a)) _ (fun F' H' σ' ds' μ' _ ok _ r => ?_) (fun F' H' μ' v d ok dv r => ?_) (fun _ _ _ _ _ _ _ _ z => z.elim) (fun _ _ _ _ _ _ _ _ z => z.elim)
  · exact q F' H' _ _ ok.ff ok.ext (fun b o z => ok.fr b o z (by intro z; cases z)) ok.new .non r
  · exact q F' H' _ _ ok.ff ok.ext (fun b o z => ok.fr b o z (by intro z; cases z)) ok.new dv r
theorem fnX (h : SpX K args dom res exc vs H QV E) (hl : ∀ a, (args a).length ≤ N.length) (hb : ∀ a F0 H0, dom a → Rz ⟨K, F0, H0, none⟩ E (exc a) → SD ⟨K, F0, H0, none⟩ ts (startD N.length (args a)) [] (fun _ _ => res a .non) (fun d _ => res a d) noB noB) : ts { nx := fun _ H' => QV .non H', rt := QV } (L2.start N vs) H := by
  obtain ⟨a, F, e, dl, hd, q, qe⟩ := h
  refine hb a F H hd ⟨rfl, qe⟩ F H _ (okb_start e (fun _ z => by cases z)) (rep_start dl (hl a)) _ (fun F' H' σ' ds' μ' _ ok _ r => ?_) (fun F' H' μ' v d ok dv r => ?_) (fun _ _ _ _ _ _ _ _ z => z.elim) (fun _ _ _ _ _ _ _ _ z => z.elim)
  · exact q F' H' _ _ ok.ff ok.ext (fun b o z => ok.fr b o z (by intro z; cases z)) ok.new .non r
  · exact q F' H' _ _ ok.ff ok.ext (fun b o z => ok.fr b o z (by intro z; cases z)) ok.new dv r
theorem fnH (h : SpH K args dom res vs H QV E) (hl : ∀ a, (args a).length + 1 ≤ N.length) (hb : ∀ a F0 H0 p, dom a → SD ⟨K, F0, H0, some p⟩ ts (startD N.length (.adr p :: args a)) [] (fun _ _ => res a .non) (fun d _ => res a d) noB noB) : ts { nx := fun _ H' => QV .non H', rt := QV } (L2.start N vs) H := by
  obtain ⟨a, F, p, e, dl, hh, hd, q⟩ := h
  refine hb a F H p hd F H _ (okb_start e (fun h z => by cases z; exact hh)) (rep_start dl (hl a)) _ (fun F' H' σ' ds' μ' _ ok _ r => ?_) (fun F' H' μ' v d ok dv r => ?_) (fun _ _ _ _ _ _ _ _ z => z.elim) (fun _ _ _ _ _ _ _ _ z => z.elim)
  · exact q F' H' _ _ ok.ff ok.ext (fun b o z n => ok.fr b o z (by intro z; cases z; exact n rfl)) (ok.hd p rfl) ok.new .non r
  · exact q F' H' _ _ ok.ff ok.ext (fun b o z n => ok.fr b o z (by intro z; cases z; exact n rfl)) (ok.hd p rfl) ok.new dv r
theorem lenP (h : SpP K args dom res vs H QV E) : ∃ a, vs.length = (args a).length := by
  obtain ⟨a, F, _, dl, _⟩ := h
  exact ⟨a, dl.length⟩
theorem lenX (h : SpX K args dom res exc vs H QV E) : ∃ a, vs.length = (args a).length := by
  obtain ⟨a, F, _, dl, _⟩ := h
  exact ⟨a, dl.length⟩
theorem lenH (h : SpH K args dom res vs H QV E) : ∃ a, vs.length = (args a).length + 1 := by
  obtain ⟨a, F, p, _, dl, _⟩ := h
  exact ⟨a, dl.length⟩
/-! ### raising -/
variable {B C : DS → Mu → Prop} {Nn : DS → Mu → Prop} {R : D → Mu → Prop}
/-- raise X(): no field -/
def tRz0 (C : Addr) (E : XK) : TS := fun _ _ H => E (.ref C) none H
theorem sd_raise0 {Cl : Addr} {X : Value → Option (List (Str × V)) → Prop} (hE : Rz x E X) (h : X (.ref Cl) none) : SD x (tRz0 Cl E) ds μ Nn R B C := fun F H σ ok rp D _ _ _ _ =>
  hE.2 H (.ref Cl) none none (fun b o hb => ok.fr b o hb (by rw [hE.1]; intro z; cases z)) h rfl
/-- X.__init__(self, f): self.f = f -/
def spIni (C : Addr) (f : Str) : Sp := fun vs H Q _ => ∃ (a : Addr) (v : V), vs = [.ref a, v] ∧ H a = some (exo a C none) ∧ ∀ d, H d = none → d ≠ a → Q .non (upd (upd H d (exd d [(f, v)])) a (exo a C (some d)))
/-- raise X(e) -/
def tRz1 (Cl : Addr) (f : Str) (E : XK) (ta : TA) : TS := fun _ σ H => tMkO Cl (spIni Cl f) [] ta σ H fun cls d H' => E cls d H'
theorem sd_raise1 {Cl : Addr} {f : Str} {X : Value → Option (List (Str × V)) → Prop} (hE : Rz x E X) (h : AD x ta ds μ fun es μ1 => ∃ y, es = [y] ∧ flatD y = true ∧ X (.ref Cl) (some [(f, toV y)])) : SD x (tRz1 Cl f E ta) ds μ Nn R B C := fun F H σ ok rp D _ _ _ _ =>
  h F H σ ok rp _ fun F1 H1 μ1 vs es n dl ⟨y, e, fl, hx⟩ => by
    subst e
    cases dl with
    | cons h1 r =>
      cases r
      rename_i v
      obtain ⟨ev, _⟩ := toV_of h1 fl
      refine ⟨by show 1 ≤ 1000; decide, fun a ha => ?_⟩
      refine ⟨a, v, rfl, upd_same, fun d hd hne => ⟨rfl, d, [(f, v)], upd_same, by rw [upd_ne hne, upd_same], ?_, ?_⟩⟩
      · rw [upd_ne hne] at hd
        exact hd
      · have hd' : H1 d = none := by rw [upd_ne hne] at hd; exact hd
        refine hE.2 _ _ _ (some [(f, v)]) (fun b o hb => ?_) (by rw [ev]; exact hx) ⟨d, rfl, upd_same⟩
        have hb1 : H1 b = some o := n.ok.fr b o hb (by rw [hE.1]; intro z; cases z)
        have nb : b ≠ d := ne_of_none hb1 hd'
        have na : b ≠ a := ne_of_none hb1 ha
        rw [upd_ne nb, del_ne na, upd_ne na, upd_ne nb, upd_ne na]
        exact hb1
end
end DL
set_option Elab.async false
set_option linter.all false
set_option maxRecDepth 100000
set_option maxHeartbeats 1000000
namespace DL
open PySem L2 RZ
/-! ### the text's defs, the built-ins' names -/
structure Def (K : PySem.W.Frag) (mg : Str → Option Value) (x : Str) (st : Stmt) (f : Addr) (fd : FuncData) (ps : List Str) : Prop where
  gl : mg x = some (.ref f)
  fn : Fun K x x st f fd
  bd : Binds K fd ps []
/-- no name of the text hides these -/
def bltNames : List Str := ["len", "range", "int", "tuple", "list", "bool", "str", "isinstance", "all", "any", "zip", "sorted", "abs", "max", "min", "sum", "set", "dict", "enumerate", "repr", "reversed", "ValueError"]
def Blt (mg : Str → Option Value) : Prop := ∀ n ∈ bltNames, mg n = none
section
variable {X : Cx} {e : Expr} {es : List Expr} {p pos : Pos} {ta : TA}
/-- f(..), f a def from which nothing is let out -/
theorem pc0 {x : Str} {st : Stmt} {k : Nat} {f : Addr} {fd : FuncData} {ps : List Str} {sp : Sp} (D : Def X.K X.mg x st f fd ps) (G : FnOk X.prog X.w X.K X.mg X.base CX0 k f fd ps sp) (hr : Room k X.A) (ha : PA X (e :: es) ta) (hg : Gl X x := by rfl)
    (hdb : (x == ("__debug__" : Str)) = false := by decide) (he : starEach (e :: es) X.env = (false, eval e X.env) :: starEach es X.env := by rfl) (hpl : (backTo pos (starEach es X.env)).any (·.1) = false := by rfl) :
    PE X (.Call (.Name x p) (e :: es) [] pos) (tCall sp [] E0 ta) := pe_call G hr hg D.gl D.fn.kp D.bd .nil pass0 ha hdb he hpl
/-- .. that may raise elsewhere, here it does not -/
theorem pcN {x : Str} {st : Stmt} {k : Nat} {f : Addr} {fd : FuncData} {ps : List Str} {sp : Sp} (D : Def X.K X.mg x st f fd ps) (G : FnOk X.prog X.w X.K X.mg X.base (L2.CX X.prog X.w) k f fd ps sp) (hr : Room k X.A) (ha : PA X (e :: es) ta) (hg : Gl X x := by rfl)
    (hdb : (x == ("__debug__" : Str)) = false := by decide) (he : starEach (e :: es) X.env = (false, eval e X.env) :: starEach es X.env := by rfl) (hpl : (backTo pos (starEach es X.env)).any (·.1) = false := by rfl) :
    PE X (.Call (.Name x p) (e :: es) [] pos) (tCall sp [] E0 ta) := pe_call G hr hg D.gl D.fn.kp D.bd .nil passL ha hdb he hpl
/-- .. whose errors leave this def too -/
theorem pcE {x : Str} {st : Stmt} {k : Nat} {f : Addr} {fd : FuncData} {ps : List Str} {sp : Sp} {E : XK} (tk : Takes X (fun cls d _ H => E cls d H)) (D : Def X.K X.mg x st f fd ps) (G : FnOk X.prog X.w X.K X.mg X.base (L2.CX X.prog X.w) k f fd ps sp) (hr : Room k X.A) (ha : PA X (e :: es) ta) (hg : Gl X x := by rfl)
    (hdb : (x == ("__debug__" : Str)) = false := by decide) (he : starEach (e :: es) X.env = (false, eval e X.env) :: starEach es X.env := by rfl) (hpl : (backTo pos (starEach es X.env)).any (·.1) = false := by rfl) :
    PE X (.Call (.Name x p) (e :: es) [] pos) (tCall sp [] E ta) := pe_call G hr hg D.gl D.fn.kp D.bd .nil (passes_call tk fun _ _ _ _ h => h) ha hdb he hpl
/-- a built-in by its name -/
theorem pb {x : Str} {id : String} {r : List V → Hp → VK → Prop} (B : Blt X.mg) (hc : CallR X (.builtin id) r) (hv : bootBuiltins x = some (.builtin id)) (ha : PA X (e :: es) ta) (hb : x ∈ bltNames := by decide) (hg : Gl X x := by rfl) (hn : x ≠ "__name__" := by decide) (hdb : (x == ("__debug__" : Str)) = false := by decide)
    (he : starEach (e :: es) X.env = (false, eval e X.env) :: starEach es X.env := by rfl) (hpl : (backTo pos (starEach es X.env)).any (·.1) = false := by rfl) : PE X (.Call (.Name x p) (e :: es) [] pos) (tCB r ta) := pe_callB hc hg (B x hb) hv ha hn hdb he hpl
theorem pbt {x : Str} {T : String} {r : List V → Hp → VK → Prop} (B : Blt X.mg) (hc : CallR X (.type T) r) (hv : bootBuiltins x = some (.type T)) (ha : PA X (e :: es) ta) (hb : x ∈ bltNames := by decide) (hg : Gl X x := by rfl) (hn : x ≠ "__name__" := by decide) (hdb : (x == ("__debug__" : Str)) = false := by decide)
    (he : starEach (e :: es) X.env = (false, eval e X.env) :: starEach es X.env := by rfl) (hpl : (backTo pos (starEach es X.env)).any (·.1) = false := by rfl) : PE X (.Call (.Name x p) (e :: es) [] pos) (tCB r ta) := pe_callTy hc hg (B x hb) hv ha hn hdb he hpl
/-- a built-in class as a value -/
theorem pty {x : Str} {T : String} (B : Blt X.mg) (hv : bootBuiltins x = some (.type T)) (hb : x ∈ bltNames := by decide) (hg : Gl X x := by rfl) (hn : x ≠ "__name__" := by decide) (hd : (x == ("__debug__" : Str)) = false := by decide) : PE X (.Name x pos) (tC (.ty T)) := pe_bltn hg (B x hb) hv rfl hn hd
/-- name = [..], the list to be owned -/
theorem ps_ownL {i : Nat} {x : Str} {es : List Expr} {ta : TA} {p1 p2 p3 : Pos} (hN : X.N.Nodup) (hi : X.N[i]? = some x) (hx : Loc X.env.scope x) (ha : PA X es ta) (hs : swapsWith (.List es p1) (some (.Name x p2)) p3.line X.env = pure false := by rfl)
    (hf : X.fn x = true ∨ X.env.scope.names.lookup x = some .local := by first | exact .inl rfl | exact .inr rfl | assumption) : PS X (.Assign [.Name x p2] (.List es p1) p3) (tOwnL ta i) := ps_set hN hi hx (pe_lst ha) hs hf
theorem ps_ownD {i : Nat} {x : Str} {p1 p2 p3 : Pos} (hN : X.N.Nodup) (hi : X.N[i]? = some x) (hx : Loc X.env.scope x) (hs : swapsWith (.Dict [] [] p1) (some (.Name x p2)) p3.line X.env = pure false := by rfl)
    (hf : X.fn x = true ∨ X.env.scope.names.lookup x = some .local := by first | exact .inl rfl | exact .inr rfl | assumption) : PS X (.Assign [.Name x p2] (.Dict [] [] p1) p3) (tOwnD i) := ps_set hN hi hx pe_dnewK hs hf
/-- xs.append(e) -/
theorem ps_app {i : Nat} {x : Str} {te : TE} {p1 p2 p3 p4 : Pos} (hv : PE X (.Name x p1) (tVar i)) (he : PE X e te) (h : PE X (.Call (.Attribute (.Name x p1) "append" p2) [e] [] p3) (tBM X.K "list" rAppend (tVar i) (tCons te tNil)) := by exact pe_bm PySem.F.plainAttrs_list PySem.F.slot_list_append PySem.F.type_list_append mt_append (by assumption) (pa_cons (by assumption) pa_nil))
    (hs : swapsWith (.Call (.Attribute (.Name x p1) "append" p2) [e] [] p3) none p4.line X.env = pure false := by rfl) : PS X (.Expr (.Call (.Attribute (.Name x p1) "append" p2) [e] [] p3) p4) (tDrop (tBM X.K "list" rAppend (tVar i) (tCons te tNil))) := ps_expr h hs
end
end DL
set_option Elab.async false
set_option linter.all false
set_option maxRecDepth 100000
set_option maxHeartbeats 1000000
namespace DL
open PySem L2 RZ
/-! ### own errors -/
abbrev veBases : List Value := [.type "ValueError", .type "Exception", .type "BaseException", .type "object"]
/-- an error class without __init__ -/
structure Exc0 (K : PySem.W.Frag) (mg : Str → Option Value) (x : Str) (C : Addr) : Prop where
  gC : mg x = some (.ref C)
  ex : PySem.W.excIn K C veBases "ValueError.__new__" = true
  kC : PySem.W.keepIn K (.ref C) = true
  sB : PySem.W.subIn K (.ref C) (.type "BaseException") = some true
  ty : PySem.W.typeIn K (.ref C) = some (.type "type")
/-- an error class with __init__(self, f): self.f = f -/
structure Exc1 (K : PySem.W.Frag) (mg : Str → Option Value) (x f q : Str) (st : Stmt) (C fI : Addr) (fd : FuncData) : Prop where
  gC : mg x = some (.ref C)
  oex : OexC K C
  iC : PySem.W.findIn K (.ref C) "__init__" = some (some (.ref fI))
  tI : PySem.W.typeIn K (.ref fI) = some (.type "function")
  no : PySem.W.findIn K (.ref C) f = some none
  fn : Fun K "__init__" q st fI fd
  bd : Binds K fd ["self", f] []
section
variable {X : Cx} {p pos pos2 : Pos} {x : Str} {C : Addr}
theorem pmk_own0 (F : Exc0 X.K X.mg x C) (hg : Gl X x := by rfl) (hdb : (x == ("__debug__" : Str)) = false := by decide) : PMk X (.Call (.Name x p) [] [] pos) (fun _ H Q => Q (.ref C) none H) := by
  intro pins s σ H Q I h
  refine wpAny_Call_Name_kw (ld_glob I hg F.gC ?_ hdb)
  refine PySem.W.callWith_K0 I.kIn F.kC ?_
  obtain ⟨bm, N, nm, qn, bs, hdct, sn, sub, ab, col, dd, k0, k1, k2, k3, k5, mN, hC, hN, hni, T⟩ := exc_obj I.kIn F.ex
  refine wpAny_call_exc_subT PySem.F.excBase_ValueError T hC hN hni (fun h' e hm => ?_) (Nat.zero_le _)
  exact mk_of I hm (raises_own F.sB F.ty) h (I.hok.gone hm.new)
theorem ps_rz0 {E : XK} (F : Exc0 X.K X.mg x C) (tk : Takes X (fun cls d _ H => E cls d H)) (hc : X.calm = true := by rfl) (hg : Gl X x := by rfl) (hdb : (x == ("__debug__" : Str)) = false := by decide) :
    PS X (.Raise (some (.Call (.Name x p) [] [] pos)) none pos2) (tRz0 C E) := ps_raise (W := fun cls d _ H => E cls d H) hc tk (pmk_own0 F hg hdb)
theorem ps_rz1 {E : XK} {e : Expr} {ta : TA} {f q : Str} {st : Stmt} {fI : Addr} {fd : FuncData} (F : Exc1 X.K X.mg x f q st C fI fd) (G : FnOk X.prog X.w X.K X.mg X.base CX0 1 fI fd ["self", f] (spIni C f)) (hr : Room 2 X.A) (tk : Takes X (fun cls d _ H => E cls d H)) (ha : PA X [e] ta) (hc : X.calm = true := by rfl) (hg : Gl X x := by rfl) (hdb : (x == ("__debug__" : Str)) = false := by decide)
    (he : starEach (e :: []) X.env = (false, eval e X.env) :: starEach [] X.env := by rfl) (hpl : (backTo pos (starEach [] X.env)).any (·.1) = false := by rfl) :
    PS X (.Raise (some (.Call (.Name x p) [e] [] pos)) none pos2) (tRz1 C f E ta) := ps_raise (W := fun cls d _ H => E cls d H) hc tk (pmk_oex F.oex F.iC F.tI G hr F.bd .nil pass0 hg F.gC ha hdb he hpl)
end
end DL
namespace DL
open PySem L2 RZ
section
variable {X : Cx} {pos : Pos}
/-- a module's whole number -/
theorem pgc {x : Str} {i : Int} (h : ∃ t, X.mg x = some (.int i t)) (hg : Gl X x := by rfl) (hd : (x == ("__debug__" : Str)) = false := by decide) : PE X (.Name x pos) (tC (.int i)) := by
  obtain ⟨t, h⟩ := h
  exact pe_glob hg h ⟨t, rfl⟩ hd
end
section
variable {P : Program} {w : World} {K : PySem.W.Frag} {mg : Str → Option Value} {base : Heap} {x : Str} {st : Stmt} {f : Addr} {fd : FuncData} {N ps : List Str} {k : Nat} {α : Type} {args : α → List D} {dom : α → Prop} {res : α → D → Prop} {exc : α → Value → Option (List (Str × V)) → Prop}
theorem FnScope.le (S : FnScope N ps (defScope st)) : ps.length ≤ N.length := by
  have := congrArg List.length S.pre
  rw [List.length_take] at this
  omega
theorem okP (D : Def K mg x st f fd ps) (S : FnScope N ps (defScope st)) (hl : ∀ a, (args a).length = ps.length)
    (hb : ∀ (cdv : Value) (A : Around) (outer : List Env) (s : Shared) (H : Hp) (E : XK), Room k (A.deeper (PyProof.Rows.envOfC x (defScope st) s.heap.objs.size f cdv)) →
      ∃ t, PSs (cxOf CX0 P w K mg base N x (defScope st) f cdv A outer s H E).nox (defBody st) t ∧ ∀ a F0 H0, dom a → SD ⟨K, F0, H0, none⟩ t (startD N.length (args a)) [] (fun _ _ => res a .non) (fun d _ => res a d) noB noB) :
    FnOk P w K mg base CX0 (k + 1) f fd ps (SpP K args dom res) := by
  refine D.fn.ok S (fun vs H Q E h => ?_) (fun cdv A outer s H vs Q E hr h => ?_)
  · obtain ⟨a, e⟩ := lenP h
    rw [e, hl a]
  · obtain ⟨t, h1, h2⟩ := hb cdv A outer s H E hr
    exact ⟨t, h1, fnP h (fun a => by rw [hl a]; exact FnScope.le S) h2⟩
theorem okX (D : Def K mg x st f fd ps) (S : FnScope N ps (defScope st)) (hl : ∀ a, (args a).length = ps.length)
    (hb : ∀ (cdv : Value) (A : Around) (outer : List Env) (s : Shared) (H : Hp) (E : XK), Room k (A.deeper (PyProof.Rows.envOfC x (defScope st) s.heap.objs.size f cdv)) →
      ∃ t, PSs (cxOf (L2.CX P w) P w K mg base N x (defScope st) f cdv A outer s H E) (defBody st) t ∧ ∀ a F0 H0, dom a → Rz ⟨K, F0, H0, none⟩ E (exc a) → SD ⟨K, F0, H0, none⟩ t (startD N.length (args a)) [] (fun _ _ => res a .non) (fun d _ => res a d) noB noB) :
    FnOk P w K mg base (L2.CX P w) (k + 1) f fd ps (SpX K args dom res exc) := by
  refine D.fn.okX S (fun vs H Q E h => ?_) (fun cdv A outer s H vs Q E hr h => ?_)
  · obtain ⟨a, e⟩ := lenX h
    rw [e, hl a]
  · obtain ⟨t, h1, h2⟩ := hb cdv A outer s H E hr
    exact ⟨t, h1, fnX h (fun a => by rw [hl a]; exact FnScope.le S) h2⟩
theorem okH (D : Def K mg x st f fd ps) (S : FnScope N ps (defScope st)) (hl : ∀ a, (args a).length + 1 = ps.length)
    (hb : ∀ (cdv : Value) (A : Around) (outer : List Env) (s : Shared) (H : Hp) (E : XK), Room k (A.deeper (PyProof.Rows.envOfC x (defScope st) s.heap.objs.size f cdv)) →
      ∃ t, PSs (cxOf CX0 P w K mg base N x (defScope st) f cdv A outer s H E).nox (defBody st) t ∧ ∀ a F0 H0 p, dom a → SD ⟨K, F0, H0, some p⟩ t (startD N.length (.adr p :: args a)) [] (fun _ _ => res a .non) (fun d _ => res a d) noB noB) :
    FnOk P w K mg base CX0 (k + 1) f fd ps (SpH K args dom res) := by
  refine D.fn.ok S (fun vs H Q E h => ?_) (fun cdv A outer s H vs Q E hr h => ?_)
  · obtain ⟨a, e⟩ := lenH h
    rw [e, hl a]
  · obtain ⟨t, h1, h2⟩ := hb cdv A outer s H E hr
    exact ⟨t, h1, fnH h (fun a => by rw [hl a]; exact FnScope.le S) h2⟩
/-- X.__init__(self, f): self.f = f -/
theorem okIni {q g : Str} {C : Addr} (F : Fun K "__init__" q st f fd) (S : FnScope ["self", g] ["self", g] (defScope st)) (o : OexC K C) (no : PySem.W.findIn K (.ref C) g = some none)
    (hb : ∀ (cdv : Value) (A : Around) (outer : List Env) (s : Shared) (H : Hp) (E : XK), PSs (cxOf CX0 P w K mg base ["self", g] q (defScope st) f cdv A outer s H E).nox (defBody st) (tOst K g (tVar 0) (tVar 1))) : FnOk P w K mg base CX0 1 f fd ["self", g] (spIni C g) := by
  refine F.ok S (fun vs H Q E h => ?_) (fun cdv A outer s H vs Q E hr h => ⟨_, hb cdv A outer s H E, ?_⟩)
  · obtain ⟨a, v, rfl, _⟩ := h
    rfl
  · obtain ⟨a, v, rfl, h1, k⟩ := h
    exact ⟨v, rfl, _, rfl, a, C, rfl, o, no, .inl ⟨h1, fun dx hd hne => k dx hd hne⟩⟩
end
end DL
namespace DL
open PySem L2 RZ
/-! ### isinstance by name -/
def dIsInt : D → Bool
  | .int _ => true | .bl _ => true
  | _ => false
def dIsBool : D → Bool
  | .bl _ => true
  | _ => false
def dIsStr : D → Bool
  | .str _ => true
  | _ => false
def dIsTup : D → Bool
  | .tup _ => true
  | _ => false
def dIsLst : D → Bool
  | .lst _ => true
  | _ => false
def okD (d : D) : Prop := (tyD d).isSome = true
section
variable {x : Fx} {μ : Mu} {Q : D → Mu → Prop} {d : D} {K : PySem.W.Frag} {te : TE} {ds : DS}
theorem cd_isInt (hK : K = x.K) (hd : okD d) (q : Q (.bl (dIsInt d)) μ) : CD x (rIsi K) [d, .ty "int"] μ Q := by
  cases d <;> first | (exact absurd hd Bool.false_ne_true) | exact cd_isi (b := true) hK rfl (by decide +kernel) q | exact cd_isi (b := false) hK rfl (by decide +kernel) q
theorem cd_isBool (hK : K = x.K) (hd : okD d) (q : Q (.bl (dIsBool d)) μ) : CD x (rIsi K) [d, .ty "bool"] μ Q := by
  cases d <;> first | (exact absurd hd Bool.false_ne_true) | exact cd_isi (b := true) hK rfl (by decide +kernel) q | exact cd_isi (b := false) hK rfl (by decide +kernel) q
theorem cd_isStr (hK : K = x.K) (hd : okD d) (q : Q (.bl (dIsStr d)) μ) : CD x (rIsi K) [d, .ty "str"] μ Q := by
  cases d <;> first | (exact absurd hd Bool.false_ne_true) | exact cd_isi (b := true) hK rfl (by decide +kernel) q | exact cd_isi (b := false) hK rfl (by decide +kernel) q
theorem cd_isTup (hK : K = x.K) (hd : okD d) (q : Q (.bl (dIsTup d)) μ) : CD x (rIsi K) [d, .ty "tuple"] μ Q := by
  cases d <;> first | (exact absurd hd Bool.false_ne_true) | exact cd_isi (b := true) hK rfl (by decide +kernel) q | exact cd_isi (b := false) hK rfl (by decide +kernel) q
theorem cd_isLst (hK : K = x.K) (hd : okD d) (q : Q (.bl (dIsLst d)) μ) : CD x (rIsi K) [d, .ty "list"] μ Q := by
  cases d <;> first | (exact absurd hd Bool.false_ne_true) | exact cd_isi (b := true) hK rfl (by decide +kernel) q | exact cd_isi (b := false) hK rfl (by decide +kernel) q
theorem kitBs_two (n : String) (a b : String) (r s : Bool) (h1 : kitB n a = some r) (h2 : kitB n b = some s) : kitBs n [a, b] = some (r || s) := by
  unfold kitBs
  rw [h1]
  cases r with
  | true => rfl
  | false =>
    show kitBs n [b] = _
    unfold kitBs
    rw [h2]
    cases s <;> rfl
theorem ed_isTL (hK : K = x.K) (h : ED x te ds μ fun d μ1 => okD d ∧ Q (.bl (dIsTup d || dIsLst d)) μ1) :
    ED x (tCB (rIsiT K) (tCons te (tCons (tTup (tCons (tC (.ty "tuple")) (tCons (tC (.ty "list")) tNil))) tNil))) ds μ Q :=
  ed_isi2 hK (h.imp fun d μ' ⟨hd, q⟩ => by
    cases d <;> first | (exact absurd hd Bool.false_ne_true) | exact ⟨_, _, rfl, kitBs_two _ _ _ true false (by decide +kernel) (by decide +kernel), q⟩ | exact ⟨_, _, rfl, kitBs_two _ _ _ false true (by decide +kernel) (by decide +kernel), q⟩ | exact ⟨_, _, rfl, kitBs_two _ _ _ false false (by decide +kernel) (by decide +kernel), q⟩)
end
end DL
set_option Elab.async false
set_option linter.all false
set_option maxRecDepth 100000
set_option maxHeartbeats 1000000
namespace DL
open PySem L2 RZ
/-! ### masks: whole numbers from 0 on -/
abbrev nI (n : Nat) : D := .int (n : Int)
section
variable {x : Fx} {μ : Mu} {Q : D → Mu → Prop}
theorem rd_shlN {a b n : Nat} (h : a < 2 ^ n) (hn : n + b ≤ 134217728) (q : Q (nI (a <<< b)) μ) : RD x (rI CShl fun i j => .int (i * 2 ^ j.toNat)) (nI a) (nI b) μ Q := by
  refine rd_intC (shl_ok (i := (a : Int)) (by rw [Int.natAbs_natCast]; exact h) hn) ?_
  rw [Int.toNat_natCast]
  have e : (a : Int) * 2 ^ b = ((a <<< b : Nat) : Int) := by
    rw [Nat.shiftLeft_eq, Int.natCast_mul, Int.natCast_pow]
    rfl
  rw [e]
  exact q
theorem rd_shrN {a b : Nat} (q : Q (nI (a >>> b)) μ) : RD x (rI (fun _ j => 0 ≤ j) fun i j => .int (i / 2 ^ j.toNat)) (nI a) (nI b) μ Q := by
  refine rd_intC (Int.natCast_nonneg b) ?_
  rw [Int.toNat_natCast]
  have e : (a : Int) / 2 ^ b = ((a >>> b : Nat) : Int) := by
    rw [Nat.shiftRight_eq_div_pow, Int.natCast_ediv, Int.natCast_pow]
    rfl
  rw [e]
  exact q
theorem rd_orN {a b : Nat} (q : Q (nI (a ||| b)) μ) : RD x (rI0 fun i j => .int (Builtin.bitOr i j)) (nI a) (nI b) μ Q := by
  refine rd_int ?_
  rw [bitOr_nn (Int.natCast_nonneg a) (Int.natCast_nonneg b), Int.toNat_natCast, Int.toNat_natCast]
  exact q
theorem rd_andN {a b : Nat} (q : Q (nI (a &&& b)) μ) : RD x (rI0 fun i j => .int (Builtin.bitAnd i j)) (nI a) (nI b) μ Q := by
  refine rd_int ?_
  rw [PyProof.Rows.bitAnd_pp (Int.natCast_nonneg a) (Int.natCast_nonneg b), Int.toNat_natCast, Int.toNat_natCast]
  exact q
theorem rd_and1 {a : Nat} (q : Q (nI (a &&& 1)) μ) : RD x (rI0 fun i j => .int (Builtin.bitAnd i j)) (nI a) (.int 1) μ Q := rd_andN (b := 1) q
theorem rd_shr1 {a : Nat} (q : Q (nI (a >>> 1)) μ) : RD x (rI (fun _ j => 0 ≤ j) fun i j => .int (i / 2 ^ j.toNat)) (nI a) (.int 1) μ Q := rd_shrN (b := 1) q
theorem pos_of {n : Nat} (h : decide ((0 : Int) < (n : Int)) = true) : 0 < n := Int.natCast_pos.mp (of_decide_eq_true h)
theorem not_pos_of {n : Nat} (h : decide ((0 : Int) < (n : Int)) = false) : n = 0 := by
  have := of_decide_eq_false h
  exact Nat.eq_zero_of_not_pos fun z => this (Int.natCast_pos.mpr z)
theorem atI_neg1 {α : Type} {l : List α} {v : α} (h : l.getLast? = some v) : atI l (-1) = some v := by
  cases l with
  | nil => cases h
  | cons a r =>
    have e : (a :: r) = (a :: r).dropLast ++ [v] := by
      have h2 : (a :: r).getLast (by simp) = v := by
        rw [List.getLast?_eq_some_getLast (by simp)] at h
        exact Option.some.inj h
      rw [← h2]
      exact (List.dropLast_concat_getLast (by simp)).symm
    rw [e]
    exact atI_last _ _
theorem atI_head {α : Type} {l : List α} {v : α} (h : l.head? = some v) : atI l 0 = some v := by
  refine atI_nat (j := 0) ?_
  rw [← h]
  cases l <;> rfl
end
/-! ### the rules with the written part by its name (within a comprehension's block, too) -/
section
variable {X : Cx} (K : PySem.W.Frag)
theorem ix_seqK (h : X.K = K := by rfl) : IxR X (rIx K) := h ▸ ix_seq
theorem ix_listK (h : X.K = K := by rfl) : IxR X (rIxL K) := h ▸ ix_list
theorem ix_tupK (h : X.K = K := by rfl) : IxR X (rIxT K) := h ▸ ix_tup
theorem call_lenK (h : X.K = K := by rfl) : CallR X (.builtin "len") (rLenS K) := h ▸ call_lenS
theorem call_tupK (h : X.K = K := by rfl) : CallR X (.type "tuple") (rTupS K) := h ▸ call_tupS
theorem cr_allK (h : X.K = K := by rfl) (hc : X.calm = true := by rfl) : CallR X (.builtin "all") (rAll K) := h ▸ cr_all hc
theorem cr_anyK (h : X.K = K := by rfl) (hc : X.calm = true := by rfl) : CallR X (.builtin "any") (rAny K) := h ▸ cr_any hc
theorem cr_sumK (h : X.K = K := by rfl) (hc : X.calm = true := by rfl) : CallR X (.builtin "sum") (rSum K) := h ▸ cr_sum hc
theorem cr_maxK (h : X.K = K := by rfl) (hc : X.calm = true := by rfl) : CallR X (.builtin "max") (rMax K) := h ▸ cr_max hc
theorem cr_minK (h : X.K = K := by rfl) (hc : X.calm = true := by rfl) : CallR X (.builtin "min") (rMin K) := h ▸ cr_min hc
theorem cr_sortedK (h : X.K = K := by rfl) : CallR X (.builtin "sorted") (rSortedI K) := h ▸ cr_sortedI
theorem call_isiK1 (h : X.K = K := by rfl) : CallR X (.builtin "isinstance") (rIsi K) := h ▸ call_isi
theorem call_isiTK (h : X.K = K := by rfl) : CallR X (.builtin "isinstance") (rIsiT K) := h ▸ call_isiT
theorem op_inK (h : X.K = K := by rfl) : OpR X (compareOp .In) (rIn K false) := h ▸ op_in_seq
theorem op_notInK (h : X.K = K := by rfl) : OpR X (compareOp .NotIn) (rIn K true) := h ▸ op_notIn_seq
theorem sl_tupK (h : X.K = K := by rfl) : SlR X (rSlA K) := h ▸ sl_tupA
theorem sl_listK (h : X.K = K := by rfl) : SlR X (rSlL K) := h ▸ sl_list
theorem pi_listK {tg l : Expr} {tl : TE} (hl : PE X l tl) (h : X.K = K := by rfl) : PI X tg l (iList K tl) := h ▸ pi_list hl
theorem pi_tupK {tg l : Expr} {tl : TE} (hl : PE X l tl) (h : X.K = K := by rfl) : PI X tg l (iTup K tl) := h ▸ pi_tup hl
theorem op_catK (h : X.K = K := by rfl) : OpR X (binaryOp .Add) (rCatA K) := h ▸ op_catA
theorem op_eqDK (hu : X.A.units + 64 < cLine) (h : X.K = K := by rfl) : OpR X (compareOp .Eq) (rEqD K) := h ▸ op_eqD hu
theorem op_neDK (hu : X.A.units + 64 < cLine) (h : X.K = K := by rfl) : OpR X (compareOp .NotEq) (rNeD K) := h ▸ op_neD hu
theorem pe_appK {o e : Expr} {to te : TE} {p1 p2 : Pos} (ho : PE X o to) (he : PE X e te) (h : X.K = K := by rfl) (hb : attributeBase o "append" X.env (eval o X.env) = eval o X.env := by rfl) (hl : (p1.endLine == p2.line) = true := by rfl)
    (hr : PE X (.Call (.Attribute o "append" p1) [e] [] p2) (tBM X.K "list" rAppend to (tCons te tNil)) := by exact pe_bm PySem.F.plainAttrs_list PySem.F.slot_list_append PySem.F.type_list_append mt_append (by assumption) (pa_cons (by assumption) pa_nil)) : PE X (.Call (.Attribute o "append" p1) [e] [] p2) (tBM K "list" rAppend to (tCons te tNil)) := h ▸ hr
end
section
variable {x : Fx} {μ : Mu} {ds : DS} {N : DS → Mu → Prop} {R : D → Mu → Prop} {B C : DS → Mu → Prop} {sp : Sp} {dvs : List V} {E : XK} {ta : TA}
theorem sd_dropC (h : ED x (tCall sp dvs E ta) ds μ fun _ μ1 => N ds μ1) : SD x (tDrop (tCall sp dvs E ta)) ds μ N R B C := sd_drop h
end
end DL
set_option Elab.async false
set_option linter.all false
set_option maxRecDepth 100000
set_option maxHeartbeats 1000000
namespace DL
open PySem L2 RZ
section
variable {x : Fx} {μ : Mu} {Q : D → Mu → Prop}
/-- an item of an owned list, by the rule of three -/
theorem rd_ixOs {K : PySem.W.Frag} {p : Addr} {j : Nat} {l : List D} {i : Int} {d : D} (hK : K = x.K) (hm : μ[j]? = some (p, .lst l)) (h : atI l i = some d) (q : Q d μ) : RD x (rIx K) (.adr p) (.int i) μ Q := fun F H ok u v du dv Qv k =>
  .inl (rd_ixO hK hm h q F H ok u v du dv Qv k)
theorem rd_mulL {i j : Int} (h : -(2 ^ 64) < i ∧ i < 2 ^ 64) (q : Q (.int (i * j)) μ) : RD x (rI CMul fun i j => .int (i * j)) (.int i) (.int j) μ Q := rd_intC (.inl h) q
theorem rd_mulR {i j : Int} (h : -(2 ^ 64) < j ∧ j < 2 ^ 64) (q : Q (.int (i * j)) μ) : RD x (rI CMul fun i j => .int (i * j)) (.int i) (.int j) μ Q := rd_intC (.inr h) q
theorem rd_mod {i j : Int} (h : 0 < j) (q : Q (.int (i % j)) μ) : RD x (rI (fun _ j => 0 < j) fun i j => .int (i % j)) (.int i) (.int j) μ Q := rd_intC h q
theorem rd_fdiv {i j : Int} (h : 0 < j ∧ j < 1073741824) (q : Q (.int (i / j)) μ) : RD x (rI CDiv fun i j => .int (i / j)) (.int i) (.int j) μ Q := rd_intC h q
end
/-! ### the hand, opened -/
structure HandOk (cells : List Int) (left mix cnt : Int) : Prop where
  len : cells.length ≤ 63
  pos : ∀ z ∈ cells, 0 ≤ z
  left : 0 ≤ left
  mix : 0 ≤ mix
  cnt : 0 ≤ cnt
abbrev handL (cells : List Int) (pl : Nat) (left mix cnt : Int) : List D := [.lst (cells.map D.int), nI pl, .int left, .int mix, .int cnt]
def HandMu (p : Addr) (μ : Mu) : Prop := ∃ cells pl left mix cnt, μ = [(p, OO.lst (handL cells pl left mix cnt))] ∧ HandOk cells left mix cnt
section
variable {P : Program} {w : World} {K : PySem.W.Frag} {mg : Str → Option Value} {base : Heap} {x : Str} {st : Stmt} {f : Addr} {fd : FuncData} {N ps : List Str} {k : Nat} {α : Type} {args : α → List D} {dom : α → Prop} {res : α → D → Prop}
theorem fnDraw {ts : TS} {vs : List V} {H : Hp} {QV : VK} {E : XK} (h : SpH K args dom res vs H QV E) (hl : ∀ a, (args a).length + 1 ≤ N.length)
    (hb : ∀ a F0 H0 p cells pl left mix cnt, dom a → HandOk cells left mix cnt → SD ⟨K, F0, H0, none⟩ ts (startD N.length (.adr p :: args a)) [(p, .lst (handL cells pl left mix cnt))] (fun _ _ => False) (fun d μ' => res a d ∧ HandMu p μ') noB noB) :
    ts { nx := fun _ H' => QV .non H', rt := QV } (L2.start N vs) H := by
  obtain ⟨a, F, p, e, dl, ⟨hF, c, cells, pl, left, mix, cnt, h1, h2, h3, h4, h5, h6, h7⟩, hd, q⟩ := h
  let H0 : Hp := fun b => if b = p then none else H b
  have H0p : H0 p = none := if_pos rfl
  have H0n : ∀ b, b ≠ p → H0 b = H b := fun b n => if_neg n
  have nF : ∀ b o, F b = some o → b ≠ p := fun b o e z => by
    subst z
    rw [hF] at e
    cases e
  have ok : Okb ⟨K, F, H0, none⟩ F H [(p, .lst (handL cells pl left mix cnt))] := by
    refine ⟨e, Ex.rfl, fun b o z => .inl z, fun b o z _ => ?_, fun _ z => (by cases z), by simp, fun q hq => ?_⟩
    · have n : b ≠ p := fun y => by
        have z' : H0 b = some o := z
        rw [y, H0p] at z'
        cases z'
      have z' : H0 b = some o := z
      rw [H0n b n] at z'
      exact z'
    · rw [List.mem_singleton] at hq
      subst hq
      refine ⟨hF, H0p, fun z => (by cases z), ⟨_, h1, ?_⟩⟩
      exact .cons (.lst h2 (.ints cells)) (.cons (.int _) (.cons (.int _) (.cons (.int _) (.cons (.int _) .nil))))
  refine hb a F H0 p cells pl left mix cnt hd ⟨h3, h4, h5, h6, h7⟩ F H _ ok (rep_start dl (hl a)) _ (fun _ _ _ _ _ _ _ _ r => r.elim) (fun F' H' μ' v d ok' dv ⟨r, hm⟩ => ?_) (fun _ _ _ _ _ _ _ _ z => z.elim) (fun _ _ _ _ _ _ _ _ z => z.elim)
  obtain ⟨cells', pl', left', mix', cnt', e', o⟩ := hm
  subst e'
  obtain ⟨b1, b2, b3, ws, b4, b5⟩ := ok'.own _ List.mem_cons_self
  refine q F' H' v d ok'.ff ok'.ext (fun b u hb n => ok'.fr b u (by show H0 b = some u; rw [H0n b n]; exact hb) (by intro z; cases z)) ?_ (fun b u z => ?_) dv r
  · cases b5 with
    | cons d1 r1 =>
      cases r1 with
      | cons d2 r2 =>
        cases r2 with
        | cons d3 r3 =>
          cases r3 with
          | cons d4 r4 =>
            cases r4 with
            | cons d5 r5 =>
              cases r5
              cases d2
              cases d3
              cases d4
              cases d5
              cases d1 with
              | lst hs hl' =>
                have ei := hl'.of_ints cells'
                subst ei
                exact ⟨b1, _, cells', pl', left', mix', cnt', b4, hs, o.len, o.pos, o.left, o.mix, o.cnt⟩
  · by_cases n : b = p
    · subst n
      rw [b1] at z
      cases z
    · rcases ok'.new b u z with y | y
      · exact .inl y
      · refine .inr ?_
        have y' : H0 b = none := y
        rw [H0n b n] at y'
        exact y'
theorem okDraw (D : Def K mg x st f fd ps) (S : FnScope N ps (defScope st)) (hl : ∀ a, (args a).length + 1 = ps.length)
    (hb : ∀ (cdv : Value) (A : Around) (outer : List Env) (s : Shared) (H : Hp) (E : XK), Room k (A.deeper (PyProof.Rows.envOfC x (defScope st) s.heap.objs.size f cdv)) →
      ∃ t, PSs (cxOf CX0 P w K mg base N x (defScope st) f cdv A outer s H E).nox (defBody st) t ∧ ∀ a F0 H0 p cells pl left mix cnt, dom a → HandOk cells left mix cnt → SD ⟨K, F0, H0, none⟩ t (startD N.length (.adr p :: args a)) [(p, .lst (handL cells pl left mix cnt))] (fun _ _ => False) (fun d μ' => res a d ∧ HandMu p μ') noB noB) :
    FnOk P w K mg base CX0 (k + 1) f fd ps (SpH K args dom res) := by
  refine D.fn.ok S (fun vs H Q E h => ?_) (fun cdv A outer s H vs Q E hr h => ?_)
  · obtain ⟨a, e⟩ := lenH h
    rw [e, hl a]
  · obtain ⟨t, h1, h2⟩ := hb cdv A outer s H E hr
    exact ⟨t, h1, fnDraw h (fun a => by rw [hl a]; exact FnScope.le S) h2⟩
end
section
variable {x : Fx} {t u : TS} {ds : DS} {μ : Mu} {N : DS → Mu → Prop} {R : D → Mu → Prop} {B C : DS → Mu → Prop}
/-- a word between two statements -/
theorem sd_seqM (M : DS → Mu → Prop) (h : SD x t ds μ M R B C) (k : ∀ ds1 μ1, M ds1 μ1 → SD x u ds1 μ1 N R B C) : SD x (tSeq t u) ds μ N R B C := sd_seq (h.imp k)
theorem isT_val {b c : Bool} {p q : Prop} (e : b = c) (h : isT c p q) : isT b p q := e ▸ h
end
end DL
set_option Elab.async false
set_option linter.all false
set_option maxRecDepth 100000
set_option maxHeartbeats 2000000
namespace DL
open PySem PySem.Spec PyProof.Rows L2 RZ
/-! ### list + list of any lists, count in a list of flat items -/
section
variable {X : Cx}
def rCatL (K : PySem.W.Frag) : R2 := fun x y H Q => ∃ l b xs zs, x = .ref l ∧ y = .ref b ∧ SqL K H l xs ∧ SqL K H b zs ∧ xs.length + zs.length ≤ sizeLine ∧ ∀ p, H p = none → Q (.ref p) (upd H p (.lst (xs ++ zs)))
theorem op_catL : OpR X (binaryOp .Add) (rCatL X.K) := by
  intro pins s σ H x y v u Q I rx ry h
  obtain ⟨l, b, xs, zs, rfl, rfl, hH, hB, hz, q⟩ := h
  cases rx
  cases ry
  obtain ⟨its, r, ⟨⟨cls, dd, data, sl⟩, n, ho, hc, hdn, hd⟩, _⟩ := I.list hH
  obtain ⟨its2, r2, ⟨⟨cls2, dd2, data2, sl2⟩, n2, ho2, hc2, hdn2, hd2⟩, _⟩ := I.list hB
  simp only at hc hd hc2 hd2
  subst hc hd hc2 hd2
  have e1 := r.length
  have e2 := r2.length
  have e : its.toArray ++ its2.toArray = (its ++ its2).toArray := by simp
  refine concat_meets ⟨_, ho, rfl⟩ ⟨_, ho2, rfl⟩ noFill_list_add seq_list_add PySem.F.slot_list_add PySem.F.entry_list_add (PySem.F.args_list_add_2 _ _) (PyProof.Rows.list_addW l b its.toArray its2.toArray n n2 dd dd2 sl sl2 (by rw [List.size_toArray, List.size_toArray]; omega)) ⟨ho, ho2, ?_⟩
  rw [e]
  exact ⟨.ref _, _, I.lnew (t' := s.toks) (r.append r2) (by rw [List.length_append]; omega), rfl, q _ I.fresh⟩
def rCount (K : PySem.W.Frag) : V → List V → Hp → VK → Prop := fun x xs H Q => ∃ (a : Addr) (ys : List V) (y : V), x = V.ref a ∧ xs = [y] ∧ SqL K H a ys ∧ flatV y = true ∧ ys.all flatV = true ∧ Q (.int (ys.countP (fun z => eqV z y) : Nat)) H
theorem count_eqU {x : V} : ∀ {xs : List V} {us : List Value}, Vals xs us → xs.all flatV = true → us.countP (eqU x) = xs.countP fun y => eqV y x
  | _, _, .nil, _ => rfl
  | _, _, .cons r t, f => by
    simp only [List.all_cons, Bool.and_eq_true] at f
    rw [List.countP_cons, List.countP_cons, count_eqU t f.2, eqU_of r f.1]
theorem mt_count : MtR X "list.count" (rCount X.K) := by
  intro pins s σ H x xs v us Q I rx rxs h
  obtain ⟨a, ys, y, rfl, rfl, hs, fy, fys, q⟩ := h
  cases rx
  cases rxs with
  | cons ry rt =>
    rename_i uy ut
    cases rt
    obtain ⟨its, rv, ⟨⟨cls, dd, data, sl⟩, n, ho, hc, hdn, hd⟩, hlen⟩ := I.list hs
    simp only at hc hd
    subst hc hd
    refine call_meets PySem.F.slot_list_count ⟨_, ho, rfl⟩ PySem.F.entry_list_count (PySem.F.args_list_count_2 _ _)
      (SeqAt.list_countAt a its.toArray n dd sl uy (eqU y)) ⟨ho, fun u' hu' => mem_eqAt ry fy rv fys u' (by simpa using hu'), ?_⟩
    refine ⟨.int (ys.countP (fun z => eqV z y) : Nat), H, I.tok _, ⟨s.toks, ?_⟩, q⟩
    have ec : its.toArray.toList.countP (eqU y) = ys.countP fun z => eqV z y := by
      rw [show its.toArray.toList = its from rfl]
      exact count_eqU rv fys
    show Value.int ((its.toArray.toList.countP (eqU y) : Nat) : Int) s.toks = Value.int ((ys.countP (fun z => eqV z y) : Nat) : Int) s.toks
    rw [ec]
end
/-! ### isinstance of the caught error -/
/-- what the class D must say, so that isinstance asks its instances rightly -/
structure ExcD (K : PySem.W.Frag) (D : Addr) : Prop where
  cl : (PySem.W.clsIn K D).isSome = true
  hg : PySem.W.findIn K (.ref D) "__getattribute__" = some (some (.builtin "BaseException.__getattribute__"))
  hk : PySem.W.findIn K (.ref D) "__getattr__" = some none
  hs : PySem.W.subIn K (.ref D) (.type "BaseException") = some true
  ha : PySem.W.findIn K (.ref D) "__class__" = some (some (.builtin "object.__class__"))
  hn : PySem.W.specialIn K (.builtin "object.__class__") "__get__" = some (some (.builtin "getset_descriptor.__get__"))
  ht : PySem.W.takesIn K (.builtin "object.__class__") = some true
  hm : PySem.W.mroIn K D (.type "object") = some true
def rIsD (K : PySem.W.Frag) (cls : Value) (d : Option Addr) (a : Addr) : List V → Hp → VK → Prop := fun xs H Q => ∃ (D : Addr) (c : V) (cv : Value) (b : Bool), cls = .ref D ∧ ExcD K D ∧ xs = [.ref a, c] ∧ (∀ u, RelV c u → u = cv) ∧ PySem.W.kitOne K (.ref D) cv = some b ∧ (∀ dd, d = some dd → ∃ fs, H dd = some (.xd fs)) ∧ Q (.bl b) H
theorem call_isD {X : Cx} {a : Addr} {oe : Obj} {cls : Value} {d : Option Addr} {pn : List (Addr × Obj)} (hz : Zc cls d oe) (hf : ∃ vs, oe.data = .fields vs) : CallR (X.suite a ((a, oe) :: pn)) (.builtin "isinstance") (rIsD X.K cls d a) := by
  intro pins s σ H xs us Q I r h
  obtain ⟨D, c, cv, b, rfl, C, rfl, hcv, e, hd, q⟩ := h
  cases r with
  | cons rx rr =>
    cases rr with
    | cons rt rr =>
      cases rr
      cases rx
      have ec := hcv _ rt
      subst ec
      obtain ⟨hget, _⟩ := I.pin (a, oe) (List.mem_append.mpr (.inl List.mem_cons_self))
      obtain ⟨vs, hv⟩ := hf
      have J : ∃ od, PySem.W.InstAt s.heap a oe D od := by
        cases d with
        | none =>
          obtain ⟨oc, od, oda, osl⟩ := oe
          obtain ⟨h1, h2⟩ := hz
          dsimp only at h1 h2 hv
          subst h1 h2 hv
          exact ⟨none, hget, rfl, rfl, trivial⟩
        | some dd =>
          obtain ⟨fs, hH⟩ := hd dd rfl
          have hx : ObjOk X.prog X.w H s.heap dd (.xd fs) := I.hok dd _ hH
          obtain ⟨mA, hns, hr⟩ := hx
          obtain ⟨od, ho, hl⟩ := lookIn_ns hns
          exact ⟨some od, hget, hz.1, by unfold PySem.W.notCls; rw [hv] <;> rfl, by rw [hz.2]; exact ho⟩
      obtain ⟨od, J⟩ := J
      exact PySem.W.kia_one (PySem.W.kitx_exc C.cl C.hg C.hk C.hs C.ha C.hn C.ht C.hm) I.kIn J e (fun z => nomatch z) fun tk => ⟨.bl b, H, I.kept (t' := tk) fun _ _ z => z, rfl, q⟩
theorem takes_len {X : Cx} {W : WX} (t : Takes X W) : Takes X (fun cls d σ H => σ.length = X.N.length → W cls d σ H) := fun u s' ⟨a, B, sI, pins, σ, H, cls, d, e, I, nb, up, sky, na, os, ag, w⟩ =>
  t u s' ⟨a, B, sI, pins, σ, H, cls, d, e, I, nb, up, sky, na, os, ag, w I.len⟩
end DL
set_option Elab.async false
set_option linter.all false
set_option maxRecDepth 100000
set_option maxHeartbeats 2000000
namespace DL
open PySem PySem.Spec PyProof.Rows L2 RZ
/-! ### a lambda handed to a def, the table's change told exactly -/
abbrev AmongC (H : Hp) (q : Str) (ps : Array Value) : Prop := TriplesOk ps.toList ∧ ∀ (pos : Pos) (cv : Value), codeAmong pos ps.toList = some cv → ∃ c, cv = .ref c ∧ H c = some (LamX.CodeO c q)
/-- from H to H1 the table at P may have got the code object at a new place -/
def LamTo (P : Addr) (q : Str) (H H1 : Hp) : Prop := H1 = H ∨ ∃ (ps ps' : Array Value) (c' : Addr), H P = some (.tbl ps) ∧ H c' = none ∧ TriplesOk ps'.toList ∧ (∀ (pos : Pos) (cv : Value), codeAmong pos ps'.toList = some cv → codeAmong pos ps.toList = some cv ∨ cv = .ref c') ∧ H1 = upd (upd H P (.tbl ps')) c' (LamX.CodeO c' q)
section
variable {X : Cx} {pins : List (Addr × Obj)} {σ : L2.St} {H : Hp} {s : Shared}
theorem lam_make3 {c P : Addr} {ps : Array Value} {params : Arguments} {body : Expr} {scope : Scope} {pos : Pos} {E : Value → Shared → Prop} {Q : Value → Shared → Prop} (I : Inv X pins σ H s) (TB : LamX.TabB X.base X.mg c P) (hcode : X.env.code = .ref c)
    (hP : H P = some (.tbl ps)) (hps : AmongC H (X.env.qual ++ "<lambda>") ps) (hdef : defaultsOf params X.env = ([], [])) (hfree : ∀ y ∈ scope.names, y.2 = .free → ∃ c, X.env.cells.lookup y.1 = some c)
    (h : ∀ (f c' : Addr) (pm ctv : Value) (H1 : Hp) (s' : Shared), Inv X pins σ H1 s' → LamTo P (X.env.qual ++ "<lambda>") H H1 →
      s'.heap.get? f = some (PySem.W.kla_obj "<lambda>" (X.env.qual ++ "<lambda>") params body scope (cloFrom X.env.cells scope.names []) pm c' ctv) → H1 f = none → f ∉ frs X.stack → H1 c' = some (LamX.CodeO c' (X.env.qual ++ "<lambda>")) → Q (.ref f) s') :
    wpAny (model X.prog X.w) X.A (eval (.Lambda params body scope pos) X.env) Q E s := by
  obtain ⟨ht, ha⟩ := hps
  refine PySem.W.kla_eval hdef ?_
  have bP : s.heap.BuiltinsAt X.mg P := TB.bm.keeps I.bk
  have hP' : s.heap.get? P = some { cls := .none, data := .fields ps } := I.hok P _ hP
  have nofr : ∀ f, s.heap.objs.size ≤ f → f ∉ frs X.stack := fun f hf z => by
    rcases List.mem_cons.mp (I.stkSub _ z) with e | e
    · have h1 := I.lt
      rw [← e] at h1
      exact Nat.lt_irrefl _ (Nat.lt_of_lt_of_le h1 hf)
    · exact I.nofs hf e
  cases hc : codeAmong pos ps.toList with
  | none =>
    refine PySem.W.kla_makeFunction (mg := X.mg) (c := c) (P := P) (ps := ps) (closure_ok hfree) I.ok.glob (I.mod.glob.keeps I.bk) hcode (TB.code.keeps I.bk) hP' ht hc TB.gP bP fun c' ctv h' tk hx hge hlt hrec htb => ?_
    obtain ⟨c2, oc, vs, t, e2, hoc, hd, hv⟩ := hrec
    cases e2
    have hsz : s.heap.objs.size ≤ h'.objs.size := Nat.le_trans hge (Nat.le_of_lt hlt)
    have I1 := LamX.inv_table (t' := tk) (more := #[rawInt pos.line, rawInt pos.col, .ref c']) (h' := h'.push (PySem.W.kla_obj "<lambda>" (X.env.qual ++ "<lambda>") params body scope (cloFrom X.env.cells scope.names []) ((X.mg "__name__").getD .none) c' ctv)) I hP
      (fun b o hb e => Heap.get?_push_of_some _ (hx b o hb e)) (Heap.get?_push_of_some _ htb) hge ⟨oc, vs, t, Heap.get?_push_of_some _ hoc, hd, hv⟩
    have eL : (ps ++ #[rawInt pos.line, rawInt pos.col, .ref c']).toList = ps.toList ++ [rawInt pos.line, rawInt pos.col, .ref c'] := by simp
    refine h h'.objs.size c' ((X.mg "__name__").getD .none) ctv _ _ I1 (.inr ⟨ps, _, c', hP, I.hok.fresh hge, by rw [eL]; exact PySem.TriplesOk_snoc _ _ _ _ ht, fun p' cv hcv => ?_, rfl⟩) (Heap.get?_push_size _ rfl) ?_ (nofr _ hsz) upd_same
    · rw [eL] at hcv
      exact LamX.among_app _ ht hcv
    · rw [upd_ne (Nat.ne_of_gt hlt), upd_ne (Nat.ne_of_gt (Nat.lt_of_lt_of_le (Heap.lt_size hP') hsz))]
      exact I.hok.fresh hsz
  | some cv =>
    obtain ⟨c', e, hco⟩ := ha pos cv hc
    subst e
    refine PySem.W.kla_makeFunctionHit (mg := X.mg) (c := c) (P := P) (ps := ps) (closure_ok hfree) I.ok.glob (I.mod.glob.keeps I.bk) hcode (TB.code.keeps I.bk) hP' ht hc bP fun ctv h' tk hx hsz => ?_
    exact h h'.objs.size c' ((X.mg "__name__").getD .none) ctv H _ (I.kept fun b o e => Heap.get?_push_of_some _ (hx b o e)) (.inl rfl) (Heap.get?_push_size _ rfl) (I.hok.fresh hsz) (nofr _ hsz) hco
end
/-- the reading of x(lambda: body) -/
def tLam3 (P : Addr) (q : Str) (TT : (XK → Hp → VK → Prop) → Hp → VK → Prop) (t : XK → TE) : TE := fun σ H Q => ∃ ps, H P = some (.tbl ps) ∧ AmongC H q ps ∧ ∀ H1, LamTo P q H H1 → TT (fun E H' Q' => t E σ H' Q') H1 Q
/-- the def that calls what it got -/
def Gives (X : Cx) (Ng : List Str) (x : Str) (sg : Scope) (g : Addr) (cdg : Value) (bg : List Stmt) (a : Str) (q : Str) (TT : (XK → Hp → VK → Prop) → Hp → VK → Prop) : Prop :=
  ∀ (f c' : Addr) (s : Shared) (H : Hp) (Q : VK) (tl : XK → Hp → VK → Prop),
    (∀ (W : WX) (pn : List (Addr × Obj)) (xe : Value → Shared → Prop) (E : XK) (p1 p2 : Pos), Takes ((cxOf C8.CX0 X.prog X.w X.K X.mg X.base Ng x sg g cdg X.A X.stack s H C8.E0).tr pn xe) W → (∀ cls d σ' H', E cls d H' → W cls d σ' H') →
      PE ((cxOf C8.CX0 X.prog X.w X.K X.mg X.base Ng x sg g cdg X.A X.stack s H C8.E0).tr pn xe) (.Call (.Name a p1) [] [] p2) (fun σZ HZ Q => σZ[0]? = some (some (.ref f)) ∧ HZ c' = some (LamX.CodeO c' q) ∧ tl E HZ Q)) →
    H c' = some (LamX.CodeO c' q) → TT tl H Q →
    ∃ t, PSs (cxOf C8.CX0 X.prog X.w X.K X.mg X.base Ng x sg g cdg X.A X.stack s H C8.E0).nox bg t ∧ t { nx := fun _ H' => Q .non H', rt := Q } (L2.start Ng [.ref f]) H
section
variable {X : Cx}
theorem pe_lam3 {TT : (XK → Hp → VK → Prop) → Hp → VK → Prop} {x a : Str} {g c P : Addr} {k : Nat} {pg : Arguments} {bg : List Stmt} {sg : Scope} {dV kV doc pm cdv ct oc : Value} {an od : Option Addr} {osl : Array (Option Value)} {Ng : List Str}
    {params : Arguments} {body : Expr} {scope : Scope} {t : XK → TE} {p lpos pos : Pos} (hg : Gl X x) (hm : X.mg x = some (.ref g)) (hk : PySem.W.keepIn X.K (.ref g) = true)
    (lk : X.K.lookup g = some ⟨oc, od, .func (PySem.W.fnOf x x pg bg sg dV kV doc pm an cdv ct), osl⟩) (hcg : PySem.W.codeIn X.K cdv x = true) (hb : L2.Binds X.K (PySem.W.fnOf x x pg bg sg dV kV doc pm an cdv ct) [a] []) (Sg : FnScope Ng [a] sg) (hNg : Ng[0]? = some a) (hva : Vis sg a)
    (hG : Gives X Ng x sg g cdv bg a (X.env.qual ++ "<lambda>") TT)
    (TB : LamX.TabB X.base X.mg c P) (hcode : X.env.code = .ref c) (hr : Room (k + 2) X.A) (L : LamX.LamS X.env.scope scope) (hdef : defaultsOf params X.env = ([], []))
    (hbind : ∀ (q : Str) (cl : List (Str × Addr)) (pm cv ctv : Value), bindArgs (PySem.W.kla_fn "<lambda>" q params body scope cl pm cv ctv) ⟨[], []⟩ = pure [])
    (hbody : ∀ (A : Around) (outer : List Env) (s : Shared) (H : Hp) (E : XK) (f c' : Addr), Room k (A.deeper (LamX.lamEnv X scope s.heap.objs.size f c')) → PE (LamX.lamCx X A outer s H E scope f c') body (t E))
    (hdb : (x == ("__debug__" : Str)) = false := by decide) (hd : (a == ("__debug__" : Str)) = false := by decide) (hcd : (a == ("__classdict__" : Str)) = false := by decide) :
    PE X (.Call (.Name x p) [.Lambda params body scope lpos] [] pos) (tLam3 P (X.env.qual ++ "<lambda>") TT t) := by
  refine ⟨fun pins s σ H Q I h => ?_⟩
  obtain ⟨ps, hP, hps, h⟩ := h
  refine wpAny_Call_Name_kw (ld_glob I hg hm ?_ hdb)
  refine PySem.W.callWith_K (h₀ := X.base) I.ok.mod.kin hk ?_ (by rfl) (by rfl)
  show wpAny _ _ (spliced ((false, eval (.Lambda params body scope lpos) X.env) :: backTo pos (starEach [] X.env))) _ _ s
  refine Calls.spliced_cons (lam_make3 I TB hcode hP hps hdef (L.has I.ok) fun f c' pm' ctv H1 s' I1 T1 hf hfn hfr hco => ?_)
  refine Calls.spliced_nil ⟨I1.kIn, ?_⟩
  have rc : codeAny (model X.prog X.w) X.A (.call (.ref g) ⟨[.ref f], []⟩) (CR C8.CX0 X.stack X.prog X.w H1 s' Q C8.E0) s' := by
    refine LamX.run_ofS (N := Ng) (ps := [a]) (us := [.ref f]) (vs := [.ref f]) lk hcg Sg hr I1.env0 (hb s' [.ref f] I1.kIn rfl) (.cons rfl .nil) rfl fun hr' => ?_
    obtain ⟨t', ht', hq'⟩ := hG f c' s' H1 Q (fun E H' Q' => t E σ H' Q') (fun W pn xe E p1 p2 tk hW => LamX.pe_act (i := 0) I1 L hf hfn hfr (hbind _ _ _ _ _) tk hW hr' (fun A outer s H hr2 => hbody A outer s H E f c' hr2) hNg hva hd hcd) hco (h H1 T1)
    exact ⟨t', ht'.nox, hq'⟩
  refine wpAny_call (codeAny_mono rc fun r s2 hq => ?_)
  cases r with
  | error e => exact (show False from hq).elim
  | ok fl =>
    cases fl with
    | ret u => exact I1.after hq
    | next => exact False.elim hq
    | brk => exact False.elim hq
    | cont => exact False.elim hq
end
/-! ### the word of what a lambda lets out -/
/-- W: what word stands for which error -/
def TTw (K : PySem.W.Frag) (W : Value → Option (List (Str × V)) → D → Prop) : (XK → Hp → VK → Prop) → Hp → VK → Prop := fun tl H Q =>
  ∃ (F : Hp) (r : D → Prop), Ex F H ∧ (∀ F' H' v d, Ex F F' → Ex F' H' → Ex H H' → New F H F' → Dat K F' v d → r d → Q v H') ∧
    ∀ (Ech : XK) (Qn : VK), (∀ cls od H' fo d, Ex H H' → W cls fo d → XAt fo od H' → r d → Ech cls od H') → (∀ v H', Ex H H' → r (.str "told") → Qn v H') → tl Ech H Qn
section
variable {x : Fx} {ds : DS} {μ : Mu} {Q : D → Mu → Prop} {α : Type} {args : α → List D} {dom : α → Prop} {res : α → D → Prop} {exc : α → Value → Option (List (Str × V)) → Prop} {K : PySem.W.Frag} {W : Value → Option (List (Str × V)) → D → Prop} {P : Addr} {q : Str} {ta : TA}
theorem set_same {α : Type} {l : List α} {j : Nat} {a : α} (h : l[j]? = some a) : l.set j a = l := by
  apply List.ext_getElem?
  intro i
  rw [List.getElem?_set]
  split
  · rename_i e
    subst e
    obtain ⟨hl, _⟩ := List.getElem?_eq_some_iff.mp h
    rw [if_pos hl, h]
  · rfl
theorem ed_lamX {j : Nat} (hK : K = x.K) (hm : μ[j]? = some (P, .tab q)) (h : ∀ F0 H0, AD ⟨K, F0, H0, none⟩ ta ds [] fun es _ => ∃ a, es = args a ∧ dom a ∧ (∀ cls fo, exc a cls fo → ∃ d, W cls fo d ∧ Q d μ) ∧ ∀ d, res a d → Q (.str "told") μ) :
    ED x (tLam3 P q (TTw K W) fun E => tCall (SpX K args dom res exc) [] E ta) ds μ Q := fun F H σ ok rp Qv k => by
  subst hK
  obtain ⟨ps, e1, e2, e3⟩ := (ok.own _ (List.mem_of_getElem? hm)).2.2.2
  refine ⟨ps, e1, ⟨e2, fun pos cv hc => ?_⟩, fun H1 hL => ?_⟩
  · obtain ⟨c, h1, h2⟩ := e3 pos cv hc
    exact ⟨c, h1, ok.ext _ _ h2⟩
  have key : ∃ F1, Nxt x F H μ F1 H1 μ := by
    rcases hL with rfl | ⟨ps0, ps', c', g1, g2, g3, g4, rfl⟩
    · exact ⟨F, .rfl ok⟩
    · rw [e1] at g1
      cases g1
      have n1 := ok.lay (LamX.CodeO c' q) g2
      have nPc : P ≠ c' := ne_of_none e1 g2
      have n2 := n1.ok.write (v := .tab q) (o := .tbl ps') hm ⟨ps', upd_same, g3, fun pos cv hc => by
        rcases g4 pos cv hc with z | z
        · obtain ⟨c, h1, h2⟩ := e3 pos cv z
          exact ⟨c, h1, n1.ff _ _ h2⟩
        · exact ⟨c', z, upd_same⟩⟩
      rw [set_same hm] at n2
      have ec : upd (upd H c' (LamX.CodeO c' q)) P (.tbl ps') = upd (upd H P (.tbl ps')) c' (LamX.CodeO c' q) := by
        funext b
        by_cases z : b = c'
        · subst z
          rw [upd_ne (fun y => nPc y.symm), upd_same, upd_same]
        · by_cases y : b = P
          · subst y
            rw [upd_same, upd_ne z, upd_same]
          · rw [upd_ne y, upd_ne z, upd_ne z, upd_ne y]
      rw [ec] at n2
      exact ⟨_, n1.tr n2⟩
  obtain ⟨F1, n⟩ := key
  refine ⟨F1, fun d => Q d μ, n.ok.ext, fun F' H' v d h1 h2 h3 h4 dv r => k F' H' μ v d (n.tr (n.ok.called h1 h2 h3 h4)) dv r, fun Ech Qn hE hQ => ?_⟩
  refine h F1 H1 F1 H1 σ (okb_start n.ok.ext fun _ z => by cases z) (rp.mono n.ff) _ fun F2 H2 μ2 vs es n2 dl ⟨a, e, hd, hx, q⟩ => ?_
  subst e
  show SpX x.K args dom res exc (vs ++ []) H2 _ _
  rw [List.append_nil]
  have ext : Ex H1 H2 := fun b o z => n2.ok.fr b o z (by intro z; cases z)
  refine ⟨a, F2, n2.ok.ext, dl, hd, fun F' H' v d h1 h2 h3 h4 dv r => hQ v H' (ext.tr h3) (q d r), fun H' cls od fo z zx xa => ?_⟩
  obtain ⟨d, w, qd⟩ := hx cls fo zx
  exact hE cls od H' fo d (ext.tr z) w xa qd
end
end DL
set_option Elab.async false
set_option linter.all false
set_option maxRecDepth 100000
set_option maxHeartbeats 2000000
namespace DL
open PySem PySem.Spec PyProof.Rows L2 RZ HT
/-! ### t[::-1] of a tuple -/
section
variable {prog : Program} {w : World} {A : Around} {E : Value → Shared → Prop} {s : Shared}
theorem adjust_rev (n : Nat) : Builtin.Slice.sliceAdjust none none (-1) (n : Int) = ((n : Int) - 1, -1) := by
  unfold Builtin.Slice.sliceAdjust
  simp
theorem places_rev (n : Nat) : Builtin.Slice.slicePlaces ((n : Int) - 1) (-1) (-1) = n := by
  unfold Builtin.Slice.slicePlaces
  simp
  split <;> omega
theorem fm_congr {α β : Type} {f g : α → Option β} : ∀ {l : List α}, (∀ a ∈ l, f a = g a) → l.filterMap f = l.filterMap g
  | [], _ => rfl
  | a :: r, h => by
    rw [List.filterMap_cons, List.filterMap_cons, h a List.mem_cons_self, fm_congr fun b hb => h b (List.mem_cons_of_mem _ hb)]
theorem pick_rev (xs : Array Value) : ((List.range xs.size).filterMap fun (m : Nat) => xs[(((xs.size : Int) - 1) + (m : Int) * (-1)).toNat]?).toArray = xs.toList.reverse.toArray := by
  have e1 : ∀ m ∈ List.range xs.size, xs[(((xs.size : Int) - 1) + (m : Int) * (-1)).toNat]? = xs[xs.size - 1 - m]? := fun m hm => by
    have hm' := List.mem_range.mp hm
    have : (((xs.size : Int) - 1) + (m : Int) * (-1)).toNat = xs.size - 1 - m := by omega
    rw [this]
  rw [fm_congr e1]
  have e2 : (List.range xs.size).filterMap (fun m => xs[xs.size - 1 - m]?) = ((List.range xs.size).map fun k => xs.size - 1 - k).filterMap (xs[·]?) := by
    rw [List.filterMap_map]
    rfl
  rw [e2, PySem.W.krv_range, List.filterMap_reverse, PySem.W.krv_all]
theorem sliceApplied_rev {sl : Addr} {vl vu vs : Value} {n : Nat} {Q : Int × Int × Nat → Shared → Prop} (hs : s.heap.IsSliceOf sl vl vu vs) (pl : IsPart vl none) (pu : IsPart vu none) (ps : IsPart vs (some (-1)))
    (h : Q ((n : Int) - 1, -1, n) s) : wpAny (model prog w) A (Builtin.Slice.sliceApplied (.ref sl) (pure (n : Int))) Q E s := by
  obtain ⟨os, hos, hcs, hds⟩ := id hs
  unfold Builtin.Slice.sliceApplied Builtin.Slice.sliceFields
  refine wpAny_bind (wpAny_bind (wpAny_field hos hds (x := vl) rfl (wpAny_bind (wpAny_field hos hds (x := vu) rfl (wpAny_bind (wpAny_field hos hds (x := vs) rfl (wpAny_pure ?_)))))))
  refine wpAny_bind (slicePart_ ps ?_)
  show wpAny _ _ (if ((-1 : Int) == 0) = true then _ else _) _ _ s
  rw [if_neg (by decide)]
  refine wpAny_bind (slicePart_ pl (wpAny_bind (slicePart_ pu (wpAny_bind (wpAny_pure ?_)))))
  show wpAny _ _ (match Builtin.Slice.sliceAdjust none none (-1) (n : Int) with | (lo, hi) => pure (lo, (-1 : Int), Builtin.Slice.slicePlaces lo hi (-1))) _ _ s
  rw [adjust_rev n]
  show wpAny _ _ (pure ((n : Int) - 1, (-1 : Int), Builtin.Slice.slicePlaces ((n : Int) - 1) (-1) (-1))) _ _ s
  rw [places_rev]
  exact wpAny_pure h
theorem getItem_tuple_rev {t sl : Addr} {items : Array Value} {vl vu vs : Value} {Q : Value → Shared → Prop} (ht : IsTup s.heap t items) (hs : s.heap.IsSliceOf sl vl vu vs) (pl : IsPart vl none) (pu : IsPart vu none) (ps : IsPart vs (some (-1)))
    (h : Q (.ref s.heap.objs.size) { s with heap := s.heap.push { cls := .type "tuple", data := .seq items.toList.reverse.toArray } })
    (hsz : items.size ≤ sizeLine) : wpAny (model prog w) A (getItem (.ref t) (.ref sl)) Q E s := by
  have htake : sizeOk (.seq items.toList.reverse.toArray) := by
    show items.toList.reverse.toArray.size ≤ sizeLine
    rw [List.size_toArray, List.length_reverse, Array.length_toList]
    omega
  obtain ⟨os, hos, hcs, hds⟩ := id hs
  have hTs : s.TypeIs (.ref sl) "slice" := ⟨os, hos, hcs⟩
  unfold getItem
  try with_reducible refine wpAny_holding ?_
  first | refine wpAny_bind (wpAny_pure ?_) | skip
  refine wpAny_bind (wpAny_sequenceKey ht.typeIs (by decide) ?_)
  refine wpAny_bind (wpAny_callSpecial?_slot (name := Str.ofString "__getitem__") ht.typeIs PyProof.Rows.slot_tuple_getitem
    (wpAny_call_entry PyProof.Rows.slot_tuple_getitem ht.typeIs entry_tuple_getitem ?_ (args_tuple_getitem _ _)))
  show wpAny _ _ (Builtin.Tuple.tupleItemsOf (.ref t) >>= _) _ _ s
  refine wpAny_bind (tupleItemsOf_ ht ?_)
  refine wpAny_bind (wpAny_typeOf hTs ?_)
  rw [if_pos (by decide)]
  refine wpAny_bind (sliceApplied_rev hs pl pu ps ?_)
  have hno : ¬ ((((items.size : Int) - 1) == 0 && (-1 : Int) == 1 && items.size == items.size) = true) := by
    intro q
    rw [Bool.and_eq_true, Bool.and_eq_true] at q
    exact absurd q.1.2 (by decide)
  show wpAny _ _ (if (((items.size : Int) - 1) == 0 && (-1 : Int) == 1 && items.size == items.size) = true then _ else _) _ _ s
  rw [if_neg hno, pick_rev]
  first
    | exact wpAny_bind (m := Builtin.Tuple.tupleExact _) (wpAny_newObj_type (wpAny_pure ⟨_, rfl, wpAny_pure h⟩) htake)
    | exact wpAny_bind (m := Builtin.Tuple.tupleExact _) (wpAny_newObj_type (wpAny_bind (wpAny_pure (wpAny_pure ⟨_, rfl, wpAny_pure h⟩))) htake)
    | exact wpAny_bind (wpAny_bind (m := Builtin.Tuple.tupleExact _) (wpAny_newObj_type (wpAny_pure (wpAny_pure ⟨_, rfl, wpAny_pure h⟩)) htake))
    | exact wpAny_bind (wpAny_bind (m := Builtin.Tuple.tupleExact _) (wpAny_newObj_type (wpAny_pure ⟨_, rfl, wpAny_pure h⟩) htake))
end
section
variable {X : Cx}
def tRevT (K : PySem.W.Frag) (te : TE) : TE := fun σ H Q => te σ H fun x H1 => ∃ a xs, x = .ref a ∧ SqT K H1 a xs ∧ ∀ p, H1 p = none → Q (.ref p) (upd H1 p (.tup xs.reverse))
theorem pe_revT {e : Expr} {te : TE} {k : Nat} {p1 p2 p3 pos : Pos} (he : PE X e te) : PE X (.Subscript e (.Slice none none (some (.UnaryOp .USub (.Constant (.int 1) k p1) p2)) p3) pos) (tRevT X.K te) := by
  refine ⟨fun pins s σ H Q I h => ?_⟩
  refine Subscript_ (thn (he.run pins s σ H _ I h) fun v s1 ⟨x, H1, I1, r1, q1⟩ => ?_)
  obtain ⟨a, xs, ex, hx, q⟩ := q1
  subst ex
  cases r1
  have hst : PO X (some (.UnaryOp .USub (.Constant (.int 1) k p1) p2)) (tPart (tUn (rU fun i => .int (-i)) (tC (.int 1)))) := po_some (pe_un un_neg pe_int)
  refine wpAny_Slice (thn (po_none.run pins s1 σ H1 (fun o H2 => o = none ∧ H2 = H1) I1 ⟨rfl, rfl⟩) fun vl s2 ⟨l, H2, I2, pl, el, e2⟩ => ?_)
  subst el e2
  refine thn (po_none.run pins s2 σ H2 (fun o H3 => o = none ∧ H3 = H2) I2 ⟨rfl, rfl⟩) fun vu s3 ⟨u, H3, I3, pu, eu, e3⟩ => ?_
  subst eu e3
  refine thn (hst.run pins s3 σ H3 (fun o H4 => o = some (-1) ∧ H4 = H3) I3 ⟨1, rfl, -1, rfl, rfl, rfl⟩) fun vs s4 ⟨o, H4, I4, ps, eo, e4⟩ => ?_
  subst eo e4
  have I5 : Inv X pins σ H4 { s4 with heap := s4.heap.push { cls := .type "slice", data := .fields #[vl, vu, vs] } } := I4.kept (t' := s4.toks) fun b ob q => Heap.get?_push_of_some _ q
  obtain ⟨its, r, ht, hz⟩ := I5.tuple hx
  have hlen := r.length
  show wpAny (model X.prog X.w) X.A (subscriptTail e (.Slice none none (some (.UnaryOp .USub (.Constant (.int 1) k p1) p2)) p3) (.ref a) (.ref s4.heap.objs.size)) (EP X pins σ Q) X.xe { s4 with heap := s4.heap.push { cls := .type "slice", data := .fields #[vl, vu, vs] } }
  refine tail_any (ops := [.ref a, .ref s4.heap.objs.size]) ht.typeIs (PyProof.Rows.slot_tuple_getitem.lookup) ?_ (by with_unfolding_all rfl)
  refine getItem_tuple_rev ht (Heap.IsSliceOf.new _ vl vu vs) pl pu ps ?_ (by rw [List.size_toArray]; omega)
  refine ⟨.ref _, _, I5.laid (t' := s4.toks) (o := .tup xs.reverse) (fun b ob q => Heap.get?_push_of_some _ q) (Nat.le_refl _) ?_, rfl, q _ (I5.hok.fresh (Nat.le_refl _))⟩
  exact ⟨by rw [List.length_reverse]; exact hz, _, r.reverse, IsTup.new _ _⟩
/-! ### sorted of a dict's keys, whole numbers, any length -/
def rSortedDk : List V → Hp → VK → Prop := fun xs H Q => ∃ (a : Addr) (kvs : List (Key × V)) (ks : List Int), xs = [.ref a] ∧ Rd H a (.dK kvs) ∧ kvs.map (·.1) = ks.map Sum.inl ∧ ks.length ≤ 100000 ∧
    ∀ (ys : List Int) (p : Addr), ys.Perm ks → ys.Pairwise (· ≤ ·) → H p = none → Q (.ref p) (upd H p (.lst (ys.map V.int)))
theorem call_sortedDk (hcalm : X.calm = true) : CallR X (.builtin "sorted") rSortedDk := by
  intro pins s σ H xs us Q I r q
  obtain ⟨a, kvs, ks, ex, hd, hks, hn, q⟩ := q
  subst ex
  obtain ⟨u, eu, rx⟩ := vals1 r
  subst eu
  cases rx
  obtain ⟨z, lo, vs, rel, dd⟩ := dk_rd I.hok hd
  obtain ⟨ep, hat⟩ := dd.dictAt
  have hkeys : vs.map (·.1) = ks.map Sum.inl := rel.keys.symm.trans hks
  have hl : vs.length = ks.length := by
    have e := congrArg List.length hkeys
    rw [List.length_map, List.length_map] at e
    exact e
  have h16 : vs.length ≤ sizeLine := by rw [hl, sizeLine_eq]; omega
  refine Calls.call_function_entry PyProof.Rows.kind_sorted PyProof.Rows.plain_sorted PyProof.Rows.entry_sorted (PyProof.Rows.args_sorted1 _) ?_
  unfold Builtin.«sorted»
  refine wpAny_bind (m := checkCount "sorted" 1 1 _) (wpAny_pure ?_)
  refine wpAny_bind (PySem.W.kdu_collect (A := X.A.in1) (PySem.W.kdl_dict (knd := mixKind X.prog X.w) (kvs := vs) (ep := ep) lo) (I.ok.hd hcalm) hat h16 fun h' tk acc hk hacc => ?_)
  have hal : acc.toList.length = ks.length := by rw [Array.length_toList, hacc.1, hl]
  have hS : IntsAre acc.toList ks := ints_each hal fun j v e => by
    obtain ⟨k, x, e1, e2⟩ := hacc.2 j v (by rw [← Array.getElem?_toList]; exact e)
    have e3 : (vs.map (·.1))[j]? = some k := by rw [List.getElem?_map, e1]; rfl
    rw [hkeys, List.getElem?_map] at e3
    cases e4 : ks[j]? with
    | none => rw [e4] at e3; cases e3
    | some y =>
      rw [e4] at e3
      have e5 : Sum.inl y = k := Option.some.inj e3
      subst e5
      rcases keyIs_shape (show keyIs (Sum.inl y) v = true from e2) with ⟨i, t, ek, ev⟩ | ⟨z, t, ek, ev⟩
      · cases ek
        exact ⟨y, t, rfl, ev⟩
      · cases ek
  have I1 : Inv X pins σ H { s with heap := h', toks := tk } := I.kept hk
  refine wpAny_bind (wpAny_newList ?_ (by rw [hal, sizeLine_eq]; omega))
  have hoL : (h'.push (seqObj "list" acc.toList.toArray 0)).get? h'.objs.size = some (seqObj "list" acc.toList.toArray 0) := Heap.get?_push_size _ rfl
  show wpAny _ _ _ _ _ { s with heap := h'.push (seqObj "list" acc.toList.toArray 0), toks := tk }
  refine wpAny_bind (wpAny_holding (wpAny_call_entry PyProof.Rows.slot_list_sort ⟨_, hoL, rfl⟩ PyProof.Rows.entry_list_sort
    (SrtO.list_sort_ord (s := { s with heap := h'.push (seqObj "list" acc.toList.toArray 0), toks := tk }) SrtO.swo_int hoL (by rw [hal, sizeLine_eq]; omega) (fun h2 => SrtO.ints_sortable hS h2) fun out h1 h2 => ⟨.none, rfl, ?_⟩) (PyProof.Rows.args_list_sort _)))
  obtain ⟨k1, k2, k3⟩ := SrtO.ints_out hS h1 h2
  obtain ⟨e', he'⟩ := PyProof.Rows.sortedHeap_at (vs := acc.toList) (out := out.toArray) hoL
  have hlen : ((out.map SrtO.iv).map V.int).length ≤ sizeLine := by
    rw [List.length_map, k2.length_eq, sizeLine_eq]
    omega
  refine wpAny_pure ⟨_, rfl, .ref h'.objs.size, upd H h'.objs.size (.lst ((out.map SrtO.iv).map V.int)), I1.laid (t' := tk) (fun b u e => ?_) (Nat.le_refl _)
    (show ObjOk X.prog X.w _ _ _ (.lst ((out.map SrtO.iv).map V.int)) from ⟨hlen, out, e', vals_of_ints k1, he'⟩), rfl, q _ _ k2 k3 (I1.hok.fresh (Nat.le_refl _))⟩
  have hb : b < h'.objs.size := Heap.lt_size e
  rw [PyProof.Rows.sortedHeap_old (Nat.ne_of_lt hb) (by rw [size_push']; exact Nat.lt_succ_of_lt hb)]
  exact Heap.get?_push_of_some _ e
end
end DL
set_option Elab.async false
set_option linter.all false
set_option maxRecDepth 100000
set_option maxHeartbeats 2000000
namespace DL
open PySem L2 RZ
/-! ### rules by K's name -/
section
variable {X : Cx} (K : PySem.W.Frag)
theorem op_catLK (h : X.K = K := by rfl) : OpR X (binaryOp .Add) (rCatL K) := h ▸ op_catL
theorem call_isDK {a : Addr} {oe : Obj} {cls : Value} {d : Option Addr} {pn : List (Addr × Obj)} (hz : Zc cls d oe) (hf : ∃ vs, oe.data = .fields vs) (h : X.K = K := by rfl) : CallR (X.suite a ((a, oe) :: pn)) (.builtin "isinstance") (rIsD K cls d a) := h ▸ call_isD hz hf
theorem pe_idxK {o e : Expr} {to : TE} {ta : TA} {p1 p2 : Pos} (ho : PE X o to) (ha : PA X [e] ta) (h : X.K = K := by rfl) (hb : attributeBase o "index" X.env (eval o X.env) = eval o X.env := by rfl)
    (hfew : ((backTo p2 (starEach [e] X.env)).all (fun x => !x.1) && (backToKw p2 (keywordEach [] X.env)).all (fun x => x.1.isSome)
      && decide ([e].length + ([] : List Keyword).length + (if ([] : List Keyword).isEmpty then 0 else 1) < 30)) = true := by rfl)
    (hl : (p1.endLine == p2.line) = true := by rfl) (hs : starEach [e] X.env = (false, eval e X.env) :: starEach [] X.env := by rfl) (hp : (backTo p2 (starEach [] X.env)).any (·.1) = false := by rfl) :
    PE X (.Call (.Attribute o "index" p1) [e] [] p2) (tBM K "list" (rIndex K) to ta) := by
  subst h
  exact pe_bm PySem.F.plainAttrs_list PySem.F.slot_list_index PySem.F.type_list_index mt_index ho ha hb hfew hl hs hp
theorem pe_cntK {o e : Expr} {to : TE} {ta : TA} {p1 p2 : Pos} (ho : PE X o to) (ha : PA X [e] ta) (h : X.K = K := by rfl) (hb : attributeBase o "count" X.env (eval o X.env) = eval o X.env := by rfl)
    (hfew : ((backTo p2 (starEach [e] X.env)).all (fun x => !x.1) && (backToKw p2 (keywordEach [] X.env)).all (fun x => x.1.isSome)
      && decide ([e].length + ([] : List Keyword).length + (if ([] : List Keyword).isEmpty then 0 else 1) < 30)) = true := by rfl)
    (hl : (p1.endLine == p2.line) = true := by rfl) (hs : starEach [e] X.env = (false, eval e X.env) :: starEach [] X.env := by rfl) (hp : (backTo p2 (starEach [] X.env)).any (·.1) = false := by rfl) :
    PE X (.Call (.Attribute o "count" p1) [e] [] p2) (tBM K "list" (rCount K) to ta) := by
  subst h
  exact pe_bm PySem.F.plainAttrs_list PySem.F.slot_list_count PySem.F.type_list_count mt_count ho ha hb hfew hl hs hp
theorem pe_revTK {e : Expr} {te : TE} {k : Nat} {p1 p2 p3 pos : Pos} (he : PE X e te) (h : X.K = K := by rfl) : PE X (.Subscript e (.Slice none none (some (.UnaryOp .USub (.Constant (.int 1) k p1) p2)) p3) pos) (tRevT K te) := h ▸ pe_revT he
end
section
variable {x : Fx} {te tl : TE} {ta : TA} {t : TS} {ds : DS} {μ : Mu} {Q : D → Mu → Prop} {N : DS → Mu → Prop} {R : D → Mu → Prop} {B C : DS → Mu → Prop} {K : PySem.W.Frag}
theorem ed_ref {a : Addr} (q : Q (.adr a) μ) : ED x (tC (.ref a)) ds μ Q := fun F H σ ok rp Qv k => k F H μ _ _ (.rfl ok) (.adr a) q
/-! ### the caught error -/
theorem cd_isD {cls : Value} {d : Option Addr} {a Dc C : Addr} {b : Bool} (hK : K = x.K) (hh : x.hand = none) (hc : cls = .ref Dc) (hD : ExcD K Dc) (hk : PySem.W.kitOne K (.ref Dc) (.ref C) = some b) (hd : ∀ dd, d = some dd → ∃ fs, x.H0 dd = some (.xd fs)) (q : Q (.bl b) μ) : CD x (rIsD K cls d a) [.adr a, .adr C] μ Q := fun F H ok us du Qv k => by
  cases du with
  | cons h1 r =>
    cases r with
    | cons h2 r =>
      cases r
      cases h1
      cases h2
      exact ⟨Dc, .ref C, .ref C, b, hc, hD, rfl, fun u h => (by cases h; rfl), hk, fun dd e => by
        obtain ⟨fs, z⟩ := hd dd e
        exact ⟨fs, ok.fr dd _ z (by rw [hh]; intro y; cases y)⟩, k F H μ _ _ (.rfl ok) (.bl b) q⟩
theorem cd_isDT {cls : Value} {d : Option Addr} {a Dc : Addr} {T : String} {b : Bool} (hK : K = x.K) (hh : x.hand = none) (hc : cls = .ref Dc) (hD : ExcD K Dc) (hk : PySem.W.kitOne K (.ref Dc) (.type T) = some b) (hd : ∀ dd, d = some dd → ∃ fs, x.H0 dd = some (.xd fs)) (q : Q (.bl b) μ) : CD x (rIsD K cls d a) [.adr a, .ty T] μ Q := fun F H ok us du Qv k => by
  cases du with
  | cons h1 r =>
    cases r with
    | cons h2 r =>
      cases r
      cases h1
      cases h2
      exact ⟨Dc, .ty T, .type T, b, hc, hD, rfl, fun u h => (by cases h; rfl), hk, fun dd e => by
        obtain ⟨fs, z⟩ := hd dd e
        exact ⟨fs, ok.fr dd _ z (by rw [hh]; intro y; cases y)⟩, k F H μ _ _ (.rfl ok) (.bl b) q⟩
theorem dat_toV {F : Hp} {d : D} (h : flatD d = true) : Dat K F (toV d) d := by
  cases d with
  | non => exact .non
  | bl b => exact .bl b
  | int i => exact .int i
  | str s => exact .str s
  | _ => cases h
theorem ed_xf {a C dd : Addr} {cls : Value} {f : Str} {y : D} {fs : List (Str × V)} (hh : x.hand = none) (hc : cls = .ref C) (hd : x.H0 dd = some (.xd fs)) (hf : fs.lookup f = some (toV y)) (fl : flatD y = true) (h : ED x te ds μ fun d μ1 => d = .adr a ∧ Q y μ1) : ED x (tXf a cls (some dd) C f te) ds μ Q := fun F H σ ok rp Qv k =>
  h F H σ ok rp _ fun F1 H1 μ1 v d n dv ⟨e, q⟩ => by
    subst e
    cases dv
    exact ⟨rfl, hc, dd, fs, toV y, rfl, n.ok.fr dd _ hd (by rw [hh]; intro y; cases y), hf, k F1 H1 μ1 _ _ n (dat_toV fl) q⟩
/-! ### lists -/
theorem rd_catL {l m : List D} (hK : K = x.K) (hl : l.length + m.length ≤ 100000) (q : Q (.lst (l ++ m)) μ) : RD x (rCatL K) (.lst l) (.lst m) μ Q := fun F H ok u v du dv Qv k => by
  subst hK
  cases du with
  | lst hs hl1 =>
    cases dv with
    | lst hs2 hl2 =>
      refine ⟨_, _, _, _, rfl, rfl, ex_l ok.ext hs, ex_l ok.ext hs2, by rw [hl1.length, hl2.length, sizeLine_eq]; omega, fun p hp => ?_⟩
      rename_i a xs a2 xs2
      have n := ok.lay (.lst (xs ++ xs2)) hp
      exact k _ _ μ _ _ n (.lst (.of upd_same) ((hl1.append hl2).mono n.ff)) q
theorem ed_index {bs : List Bool} {j : Nat} (hK : K = x.K) (h : ED x te ds μ fun d μ1 => d = .lst (bs.map D.bl) ∧ AD x ta ds μ1 fun es μ2 => es = [.bl true] ∧ bs[j]? = some true ∧ (∀ m, m < j → bs[m]? ≠ some true) ∧ Q (nI j) μ2) : ED x (tBM K "list" (rIndex K) te ta) ds μ Q := fun F H σ ok rp Qv k =>
  h F H σ ok rp _ fun F1 H1 μ1 v d n dv ⟨e, q⟩ => by
    subst e hK
    cases dv with
    | lst hs hl =>
      have e := hl.of_bls bs
      subst e
      refine ⟨.inl ⟨rfl, _, ex_l n.ok.ext hs⟩, q F1 H1 σ n.ok (rp.mono n.ff) _ fun F2 H2 μ2 vs es n2 dl ⟨e, hj, hno, q2⟩ => ?_⟩
      subst e
      cases dl with
      | cons h1 r =>
        cases r
        cases h1
        refine ⟨_, bs.map V.bl, .bl true, j, .bl true, rfl, rfl, ex_l (n2.ff.tr n2.ok.ext) hs, rfl, ?_, by rw [List.getElem?_map, hj]; rfl, rfl, fun m z' hm hz => ?_, k F2 H2 μ2 _ _ (n.tr n2) (.int _) q2⟩
        · rw [List.all_map]
          exact List.all_eq_true.mpr fun b _ => rfl
        · rw [List.getElem?_map] at hz
          cases q : bs[m]? with
          | none => rw [q] at hz; cases hz
          | some b =>
            rw [q] at hz
            cases hz
            cases b with
            | true => exact (hno m hm q).elim
            | false => rfl
theorem ed_count {bs : List Bool} (hK : K = x.K) (h : ED x te ds μ fun d μ1 => d = .lst (bs.map D.bl) ∧ AD x ta ds μ1 fun es μ2 => es = [.bl true] ∧ Q (nI (bs.count true)) μ2) : ED x (tBM K "list" (rCount K) te ta) ds μ Q := fun F H σ ok rp Qv k =>
  h F H σ ok rp _ fun F1 H1 μ1 v d n dv ⟨e, q⟩ => by
    subst e hK
    cases dv with
    | lst hs hl =>
      have e := hl.of_bls bs
      subst e
      refine ⟨.inl ⟨rfl, _, ex_l n.ok.ext hs⟩, q F1 H1 σ n.ok (rp.mono n.ff) _ fun F2 H2 μ2 vs es n2 dl ⟨e, q2⟩ => ?_⟩
      subst e
      cases dl with
      | cons h1 r =>
        cases r
        cases h1
        refine ⟨_, bs.map V.bl, .bl true, rfl, rfl, ex_l (n2.ff.tr n2.ok.ext) hs, rfl, ?_, ?_⟩
        · rw [List.all_map]
          exact List.all_eq_true.mpr fun b _ => rfl
        · have e : (bs.map V.bl).countP (fun z => eqV z (.bl true)) = bs.count true := by
            rw [List.countP_map]
            unfold List.count
            refine List.countP_congr fun b _ => ?_
            cases b <;> simp [eqV]
          rw [e]
          exact k F2 H2 μ2 _ _ (n.tr n2) (.int _) q2
/-- [..] * k -/
theorem ed_rep {i : Int} (h : AD x ta ds μ fun es μ1 => es.length * i.toNat ≤ 100000 ∧ es.length ≤ 100000 ∧ -(2 ^ 63) ≤ i ∧ i < 2 ^ 63 ∧ Q (.lst (List.replicate i.toNat es).flatten) μ1) : ED x (tOp rRep (tLst ta) (tC (.int i))) ds μ Q := fun F H σ ok rp Qv k =>
  h F H σ ok rp _ fun F1 H1 μ1 vs es n dl ⟨q1, q2, q3, q4, q⟩ => by
    refine ⟨by rw [dl.length, sizeLine_eq]; omega, fun p hp => ?_⟩
    have n2 := n.ok.lay (.lst vs) hp
    refine ⟨p, i, vs, rfl, rfl, upd_same, q3, q4, by rw [dl.length, sizeLine_eq]; omega, fun p2 hp2 => ?_⟩
    have n3 := n2.ok.lay (.lst (List.replicate i.toNat vs).flatten) hp2
    exact k _ _ μ1 _ _ ((n.tr n2).tr n3) (.lst (.of upd_same) ((dl.rep i.toNat).mono (n2.ff.tr n3.ff))) q
theorem ed_revT (hK : K = x.K) (h : ED x te ds μ fun d μ1 => asU d fun l => Q (.tup l.reverse) μ1) : ED x (tRevT K te) ds μ Q := fun F H σ ok rp Qv k =>
  h F H σ ok rp _ fun F1 H1 μ1 v d n dv q => by
    subst hK
    cases dv with
    | tup hs hl =>
      rename_i a xs es
      refine ⟨a, xs, rfl, ex_t n.ok.ext hs, fun p hp => ?_⟩
      have n2 := n.ok.lay (.tup xs.reverse) hp
      exact k _ _ μ1 _ _ (n.tr n2) (.tup (.of upd_same) ((hl.reverse).mono n2.ff)) q
    | _ => exact False.elim q
/-- tuple(range(n)) -/
theorem ed_tupRg1 (h : ED x te ds μ fun d μ1 => asI d fun i => i ≤ 100000 ∧ 0 ≤ i ∧ Q (.tup (rangeD 0 i.toNat)) μ1) : ED x (tTupRg (tRg1 te)) ds μ Q := fun F H σ ok rp Qv k =>
  h F H σ ok rp _ fun F1 H1 μ1 v d n dv q => by
    cases dv with
    | int i =>
      obtain ⟨q1, q2, q3⟩ := (show i ≤ 100000 ∧ 0 ≤ i ∧ Q (.tup (rangeD 0 i.toNat)) μ1 from q)
      refine ⟨i, rfl, RgOk.of_le (by omega) (by omega) (by omega) q2, fun p hp => ?_⟩
      have n2 := n.ok.lay (.tup (rgV 0 i)) hp
      have e : DatL x.K F1 (rgV 0 i) (rangeD 0 i.toNat) := by
        have e1 : rgV 0 i = ((List.range i.toNat).map fun (j : Nat) => (0 : Int) + (j : Int)).map V.int := by
          unfold rgV
          rw [List.map_map, Int.sub_zero]
          rfl
        have e2 : rangeD 0 i.toNat = ((List.range i.toNat).map fun (j : Nat) => (0 : Int) + (j : Int)).map D.int := by
          unfold rangeD
          rw [List.map_map]
          rfl
        rw [e1, e2]
        exact .ints _
      exact k _ _ μ1 _ _ (n.tr n2) (.tup (.of upd_same) (e.mono n2.ff)) q3
    | _ => exact False.elim q
/-! ### equality through and through -/
mutual
inductive PyOf : D → PyData → Prop
  | non : PyOf .non .none
  | bl (b : Bool) : PyOf (.bl b) (.bool b)
  | int (i : Int) : PyOf (.int i) (.int i)
  | str (s : Str) : PyOf (.str s) (.str s)
  | tup {l : List D} {ps : List PyData} : PyOfL l ps → PyOf (.tup l) (.tuple ps)
  | lst {l : List D} {ps : List PyData} : PyOfL l ps → PyOf (.lst l) (.list ps)
inductive PyOfL : List D → List PyData → Prop
  | nil : PyOfL [] []
  | cons {d : D} {ds : List D} {p : PyData} {ps : List PyData} : PyOf d p → PyOfL ds ps → PyOfL (d :: ds) (p :: ps)
end
mutual
theorem dp_of {F H : Hp} (e : Ex F H) {v : V} {d : D} {p : PyData} (h : Dat K F v d) (q : PyOf d p) : Dp K H v p := by
  cases q with
  | non => cases h; exact .non
  | bl b => cases h; exact .bl b
  | int i => cases h; exact .int i
  | str s => cases h; exact .str s
  | tup ql =>
    cases h with
    | tup hs hl => exact .tup (ex_t e hs) (dps_of e hl ql)
  | lst ql =>
    cases h with
    | lst hs hl => exact .lst (ex_l e hs) (dps_of e hl ql)
theorem dps_of {F H : Hp} (e : Ex F H) {vs : List V} {ds : List D} {ps : List PyData} (h : DatL K F vs ds) (q : PyOfL ds ps) : DpAll K H vs ps := by
  cases q with
  | nil => cases h; exact .nil
  | cons q1 q2 =>
    cases h with
    | cons h1 h2 => exact .cons (dp_of e h1 q1) (dps_of e h2 q2)
end
theorem rd_eqD {a b : D} {pa pb : PyData} (hK : K = x.K) (qa : PyOf a pa) (qb : PyOf b pb) (sa : SeqAt.shaped pa = true) (sb : SeqAt.shaped pb = true) (q : Q (.bl (PyData.eqv pa pb)) μ) : RD x (rEqD K) a b μ Q := fun F H ok u v du dv Qv k => by
  subst hK
  exact ⟨_, _, dp_of ok.ext du qa, dp_of ok.ext dv qb, sa, sb, k F H μ _ _ (.rfl ok) (.bl _) q⟩
/-! ### a dict walked, its keys sorted -/
def keyOf : L2.Key → D
  | .inl i => .int i
  | .inr s => .str s
theorem dat_key {F : Hp} (k : L2.Key) : Dat K F (kV k) (keyOf k) := by
  cases k with
  | inl i => exact .int i
  | inr s => exact .str s
theorem sd_lock {i j : Nat} {p : Addr} {kvs : List (L2.Key × D)} (hs : ds[i]? = some (some (.adr p))) (hm : μ[j]? = some (p, .dct kvs))
    (h : ∀ F0' H0', (∃ o kv', H0' p = some (.frz o (.dK kv')) ∧ kvs.map (·.1) = kv'.map (·.1)) → SD ⟨x.K, F0', H0', x.hand⟩ t ds (μ.eraseIdx j) N R B C) : SD x (tLock t) ds μ N R B C := fun F H σ ok rp E c1 c2 c3 c4 => by
  obtain ⟨b1, b2, b3, kv', e, ek, el⟩ := ok.own _ (List.mem_of_getElem? hm)
  refine ⟨p, .dK kv', e, True.intro, fun od => ?_⟩
  have hne : ∀ b u, H b = some u → (∀ ob w, u ≠ .frz ob w) → True := fun _ _ _ _ => True.intro
  have mem : ∀ q ∈ μ.eraseIdx j, q.1 ≠ p := fun q hq z => by
    have nd := ok.nd
    obtain ⟨m, hne', hq'⟩ := List.mem_eraseIdx_iff_getElem?.mp hq
    have h1 : (μ.map (·.1))[j]? = some p := by rw [List.getElem?_map, hm]; rfl
    have h2 : (μ.map (·.1))[m]? = some p := by rw [List.getElem?_map, hq', ← z]; rfl
    obtain ⟨l1, g1⟩ := List.getElem?_eq_some_iff.mp h1
    obtain ⟨l2, g2⟩ := List.getElem?_eq_some_iff.mp h2
    exact hne' ((List.getElem_inj nd).mp (g2.trans g1.symm))
  have pF : ∀ b o, F b = some o → b ≠ p := fun b o z y => by
    subst y
    rw [b1] at z
    cases z
  let H0' : Hp := fun b => if b ∈ (μ.eraseIdx j).map (·.1) then none else upd H p (.frz od (.dK kv')) b
  have at_ : ∀ b, b ∉ (μ.eraseIdx j).map (·.1) → H0' b = upd H p (.frz od (.dK kv')) b := fun b hb => if_neg hb
  have no_ : ∀ b, b ∈ (μ.eraseIdx j).map (·.1) → H0' b = none := fun b hb => if_pos hb
  have pN : p ∉ (μ.eraseIdx j).map (·.1) := fun z => by
    obtain ⟨q, hq, e⟩ := List.mem_map.mp z
    exact mem q hq e
  have hp0 : H0' p = some (.frz od (.dK kv')) := by rw [at_ p pN, upd_same]
  have ok0 : Okb ⟨x.K, F, H0', x.hand⟩ F (upd H p (.frz od (.dK kv'))) (μ.eraseIdx j) := by
    refine ⟨fun b o z => ?_, Ex.rfl, fun b o z => .inl z, fun b o z n => ?_, fun q z => ?_, List.Nodup.sublist ((List.eraseIdx_sublist μ j).map _) ok.nd, fun q hq => ?_⟩
    · rw [upd_ne (pF b o z)]
      exact ok.ext b o z
    · by_cases hb : b ∈ (μ.eraseIdx j).map (·.1)
      · have z' : H0' b = some o := z
        rw [no_ b hb] at z'
        cases z'
      · have z' : H0' b = some o := z
        rw [at_ b hb] at z'
        exact z'
    · have hh := ok.hd q z
      have n : q ≠ p := fun y => b3 (by rw [z, y])
      exact hh.mono Ex.rfl (upd_ne n) hh.1
    · obtain ⟨a1, a2, a3, a4⟩ := ok.own q (List.mem_of_mem_eraseIdx hq)
      exact ⟨a1, no_ _ (List.mem_map.mpr ⟨q, hq, rfl⟩), a3, a4.mono Ex.rfl (upd_ne (mem q hq))⟩
  -- back
  have back : ∀ {F2 H2 : Hp} {μ2 : Mu}, Okb ⟨x.K, F, H0', x.hand⟩ F2 H2 μ2 → H2 p = some (.frz od (.dK kv')) ∧ Okb x F2 (upd H2 p (.dK kv')) μ2 := fun {F2 H2 μ2} ok2 => by
    have ep : H2 p = some (.frz od (.dK kv')) := ok2.fr p _ hp0 b3
    have F2p : F2 p = none := by
      cases q : F2 p with
      | none => rfl
      | some o =>
        rcases ok2.new p o q with z | z
        · have z' : F p = some o := z
          rw [b1] at z'
          cases z'
        · have z' : H0' p = none := z
          rw [hp0] at z'
          cases z'
    have pF2 : ∀ b o, F2 b = some o → b ≠ p := fun b o z y => by
      subst y
      rw [F2p] at z
      cases z
    have h0 : ∀ b, H0' b = none → x.H0 b = none := fun b z => by
      by_cases hb : b ∈ (μ.eraseIdx j).map (·.1)
      · obtain ⟨q, hq, e⟩ := List.mem_map.mp hb
        rw [← e]
        exact (ok.own q (List.mem_of_mem_eraseIdx hq)).2.1
      · rw [at_ b hb] at z
        by_cases y : b = p
        · subst y
          exact b2
        · rw [upd_ne y] at z
          exact ok.h0 z
    have mp : ∀ q ∈ μ2, q.1 ≠ p := fun q hq y => by
      obtain ⟨_, a2, _, a4⟩ := ok2.own q hq
      have a2' : H0' q.1 = none := a2
      rw [y, hp0] at a2'
      cases a2'
    refine ⟨ep, fun b o z => ?_, ok.ff.tr ok2.ff, fun b o z => ?_, fun b o z n => ?_, fun q z => ?_, ok2.nd, fun q hq => ?_⟩
    · rw [upd_ne (pF2 b o z)]
      exact ok2.ext b o z
    · rcases ok2.new b o z with y | y
      · exact ok.new b o y
      · exact .inr (h0 b y)
    · have hb : b ≠ p := fun y => by
        subst y
        rw [b2] at z
        cases z
      rw [upd_ne hb]
      refine ok2.fr b o ?_ n
      have hbm : b ∉ (μ.eraseIdx j).map (·.1) := fun y => by
        obtain ⟨q, hq, e⟩ := List.mem_map.mp y
        have := (ok.own q (List.mem_of_mem_eraseIdx hq)).2.1
        rw [e, z] at this
        cases this
      show H0' b = some o
      rw [at_ b hbm, upd_ne hb]
      exact ok.fr b o z n
    · have hh := ok2.hd q z
      have n : q ≠ p := fun y => b3 (by rw [z, y])
      exact hh.mono Ex.rfl (upd_ne n) hh.1
    · obtain ⟨a1, a2, a3, a4⟩ := ok2.own q hq
      exact ⟨a1, h0 _ a2, a3, a4.mono Ex.rfl (upd_ne (mp q hq))⟩
  refine h F H0' ⟨od, kv', hp0, ek⟩ F _ σ ok0 rp _ (fun F2 H2 σ2 ds2 μ2 e2 ok2 r2 q2 => ?_) (fun F2 H2 μ2 v d ok2 dv q2 => ?_) (fun F2 H2 σ2 ds2 μ2 e2 ok2 r2 q2 => ?_) (fun F2 H2 σ2 ds2 μ2 e2 ok2 r2 q2 => ?_)
  · exact ⟨(back ok2).1, c1 F2 _ σ2 ds2 μ2 e2 (back ok2).2 r2 q2⟩
  · exact ⟨(back ok2).1, c2 F2 _ μ2 v d (back ok2).2 dv q2⟩
  · exact ⟨(back ok2).1, c3 F2 _ σ2 ds2 μ2 e2 (back ok2).2 r2 q2⟩
  · exact ⟨(back ok2).1, c4 F2 _ σ2 ds2 μ2 e2 (back ok2).2 r2 q2⟩
theorem id_keys {i : Nat} {p : Addr} {o : Obj} {kvs : List (L2.Key × V)} {QI : List D → Mu → Prop} (hs : ds[i]? = some (some (.adr p))) (h0 : x.H0 p = some (.frz o (.dK kvs))) (hh : x.hand ≠ some p) (q : QI ((kvs.map (·.1)).map keyOf) μ) : ID x (iKeys (tVar i)) ds μ QI := fun F H σ ok rp R k => by
  obtain ⟨v, h1, h2⟩ := rp.2 i _ hs
  cases h2
  refine ⟨_, h1, p, o, rfl, .inl ⟨kvs, ok.fr p _ h0 hh, ?_⟩⟩
  refine k F H μ _ _ (.rfl ok) ⟨fun m F2 H2 μ2 ok2 e hi => ?_, fun m F2 H2 μ2 ok2 e hi => ?_, fun m F2 H2 μ2 v H' ok2 e hy hi => ?_⟩ q
  · rw [List.length_map, List.length_map] at hi
    exact ⟨ok2.fr p _ h0 hh, hi⟩
  · rw [List.length_map, List.length_map] at hi
    exact ⟨ok2.fr p _ h0 hh, hi⟩
  · obtain ⟨e1, kk, vv, e2, e3⟩ := hy
    subst e1 e3
    exact ⟨F2, keyOf kk, by rw [List.getElem?_map, List.getElem?_map, e2]; rfl, .rfl ok2, dat_key kk⟩
theorem cd_sortedDk {p : Addr} {j : Nat} {kvs : List (L2.Key × D)} {ks : List Int} (hm : μ[j]? = some (p, .dct kvs)) (hk : kvs.map (·.1) = ks.map Sum.inl) (hl : ks.length ≤ 100000) (q : ∀ ns' : List Int, ns'.Perm ks → ns'.Pairwise (· ≤ ·) → Q (.lst (ns'.map D.int)) μ) : CD x rSortedDk [.adr p] μ Q := fun F H ok us du Qv k => by
  cases du with
  | cons h hn =>
    cases hn
    cases h
    obtain ⟨kv', h1, ek, el⟩ := (ok.own _ (List.mem_of_getElem? hm)).2.2.2
    refine ⟨p, kv', ks, rfl, .of h1, ek.symm.trans hk, hl, fun ns' p2 g1 g2 hp => ?_⟩
    have n2 := ok.lay (.lst (ns'.map V.int)) hp
    exact k _ _ μ _ _ n2 (.lst (.of upd_same) (.ints ns')) (q ns' g1 g2)
end
end DL
set_option Elab.async false
set_option linter.all false
set_option maxRecDepth 100000
set_option maxHeartbeats 2000000
namespace DL
open PySem L2 RZ
/-! ### defs that make lambdas: their code object and its table -/
structure DefC (K : PySem.W.Frag) (mg : Str → Option Value) (x : Str) (st : Stmt) (f : Addr) (fd : FuncData) (ps : List Str) (c : Addr) : Prop where
  gl : mg x = some (.ref f)
  ex : ∃ (oc : Value) (od : Option Addr) (kV doc pm : Value) (an : Option Addr) (ct : Value) (osl : Array (Option Value)),
    fd = PySem.W.fnOf x x (defArgs st) (defBody st) (defScope st) .none kV doc pm an (.ref c) ct ∧ K.lookup f = some ⟨oc, od, .func fd, osl⟩ ∧ PySem.W.codeIn K (.ref c) x = true
  kp : PySem.W.keepIn K (.ref f) = true
  bd : Binds K fd ps []
theorem DefC.toDef {K : PySem.W.Frag} {mg : Str → Option Value} {x : Str} {st : Stmt} {f : Addr} {fd : FuncData} {ps : List Str} {c : Addr} (D : DefC K mg x st f fd ps c) : Def K mg x st f fd ps := by
  obtain ⟨oc, od, kV, doc, pm, an, ct, osl, h1, h2, h3⟩ := D.ex
  exact ⟨D.gl, ⟨⟨oc, od, kV, doc, pm, an, _, ct, osl, h1, h2, h3⟩, D.kp⟩, D.bd⟩
section
variable {P : Program} {w : World} {K : PySem.W.Frag} {mg : Str → Option Value} {base : Heap}
/-- x(lambda: body), x the def that calls it -/
theorem pe_word {X : Cx} {TT : (XK → Hp → VK → Prop) → Hp → VK → Prop} {x a : Str} {st : Stmt} {g c Pt : Addr} {fd : FuncData} {k : Nat} {Ng : List Str} {params : Arguments} {body : Expr} {scope : Scope} {t : XK → TE} {p lpos pos : Pos}
    (D : Def X.K X.mg x st g fd [a]) (Sg : FnScope Ng [a] (defScope st)) (hG : ∀ cdv, Gives X Ng x (defScope st) g cdv (defBody st) a (X.env.qual ++ "<lambda>") TT) (TB : LamX.TabB X.base X.mg c Pt) (hcode : X.env.code = .ref c) (hr : Room (k + 2) X.A) (L : LamX.LamS X.env.scope scope)
    (hbody : ∀ (A : Around) (outer : List Env) (s : Shared) (H : Hp) (E : XK) (f c' : Addr), Room k (A.deeper (LamX.lamEnv X scope s.heap.objs.size f c')) → PE (LamX.lamCx X A outer s H E scope f c') body (t E))
    (hg : Gl X x := by rfl) (hNg : Ng[0]? = some a := by rfl) (hva : Vis (defScope st) a := by exact Or.inl rfl) (hdef : defaultsOf params X.env = ([], []) := by rfl)
    (hbind : ∀ (q : Str) (cl : List (Str × Addr)) (pm cv ctv : Value), bindArgs (PySem.W.kla_fn "<lambda>" q params body scope cl pm cv ctv) ⟨[], []⟩ = pure [] := by (intros; rfl))
    (hdb : (x == ("__debug__" : Str)) = false := by decide) (hd : (a == ("__debug__" : Str)) = false := by decide) (hcd : (a == ("__classdict__" : Str)) = false := by decide) :
    PE X (.Call (.Name x p) [.Lambda params body scope lpos] [] pos) (tLam3 Pt (X.env.qual ++ "<lambda>") TT t) := by
  obtain ⟨oc, od, kV, doc, pm, an, cdv, ct, osl, rfl, lk, hcd'⟩ := D.fn.ex
  exact pe_lam3 hg D.gl D.fn.kp lk hcd' D.bd Sg hNg hva (hG cdv) TB hcode hr L hdef hbind hbody hdb hd hcd
/-! ### a def with a hand and tables, whose answer is True -/
structure TabsO (K : PySem.W.Frag) (F H : Hp) (T : List (Addr × Str)) (h : Addr) : Prop where
  nd : (T.map (·.1)).Nodup
  own : ∀ p ∈ T, F p.1 = none ∧ p.1 ≠ h ∧ OwnAt K F H p.1 (.tab p.2)
def SpHT (K : PySem.W.Frag) (T : List (Addr × Str)) : Sp := fun vs H Q _ => ∃ (F : Hp) (h : Addr), Ex F H ∧ vs = [.ref h] ∧ HandAt K F H h ∧ TabsO K F H T h ∧
  ∀ F' H', Ex F F' → Ex F' H' → (∀ b o, H b = some o → b ≠ h → b ∉ T.map (·.1) → H' b = some o) → HandAt K F' H' h → New F H F' → TabsO K F' H' T h → Q (.bl true) H'
abbrev tabMu (T : List (Addr × Str)) : Mu := T.map fun p => (p.1, .tab p.2)
theorem tabMu_fst (T : List (Addr × Str)) : (tabMu T).map (·.1) = T.map (·.1) := by rw [List.map_map]; rfl
theorem mu_uniq {μ : Mu} (nd : (μ.map (·.1)).Nodup) {q r : Addr × OO} (hq : q ∈ μ) (hr : r ∈ μ) (e : q.1 = r.1) : q = r := by
  obtain ⟨i, hi⟩ := List.mem_iff_getElem?.mp hq
  obtain ⟨j, hj⟩ := List.mem_iff_getElem?.mp hr
  have h1 : (μ.map (·.1))[i]? = some q.1 := by rw [List.getElem?_map, hi]; rfl
  have h2 : (μ.map (·.1))[j]? = some q.1 := by rw [List.getElem?_map, hj, e]; rfl
  obtain ⟨l1, g1⟩ := List.getElem?_eq_some_iff.mp h1
  obtain ⟨l2, g2⟩ := List.getElem?_eq_some_iff.mp h2
  have ij := (List.getElem_inj nd).mp (g1.trans g2.symm)
  subst ij
  exact Option.some.inj (hi.symm.trans hj)
/-- entering: the tables are owned -/
theorem okb_tabs {F H : Hp} {h : Addr} {T : List (Addr × Str)} (e : Ex F H) (hh : HandAt K F H h) (t : TabsO K F H T h) : ∃ H0 : Hp, Okb ⟨K, F, H0, some h⟩ F H (tabMu T) ∧ (∀ b, b ∉ T.map (·.1) → H0 b = H b) := by
  refine ⟨fun b => if b ∈ T.map (·.1) then none else H b, ⟨e, Ex.rfl, fun b o z => .inl z, fun b o z _ => ?_, fun q z => ?_, by rw [tabMu_fst]; exact t.nd, fun q hq => ?_⟩, fun b hb => if_neg hb⟩
  · have z' : (if b ∈ T.map (·.1) then none else H b) = some o := z
    split at z'
    · cases z'
    · exact z'
  · cases z
    exact hh
  · obtain ⟨p, hp, rfl⟩ := List.mem_map.mp hq
    obtain ⟨a1, a2, a3⟩ := t.own p hp
    exact ⟨a1, if_pos (List.mem_map.mpr ⟨p, hp, rfl⟩), fun z => a2 (Option.some.inj z).symm, a3⟩
theorem tabs_of {x : Fx} {F H : Hp} {μ : Mu} {h : Addr} {T : List (Addr × Str)} (ok : Okb x F H μ) (hx : x.hand = some h) (nd : (T.map (·.1)).Nodup) (m : ∀ p ∈ T, (p.1, OO.tab p.2) ∈ μ) : TabsO x.K F H T h :=
  ⟨nd, fun p hp => by
    obtain ⟨a1, a2, a3, a4⟩ := ok.own _ (m p hp)
    exact ⟨a1, fun z => a3 (by rw [hx]; exact congrArg some z.symm), a4⟩⟩
theorem fnHT {ts : TS} {N : List Str} {T : List (Addr × Str)} {vs : List V} {H : Hp} {QV : VK} {E : XK} (h : SpHT K T vs H QV E) (hl : 1 ≤ N.length)
    (hb : ∀ F0 H0 p, SD ⟨K, F0, H0, some p⟩ ts (startD N.length [.adr p]) (tabMu T) (fun _ _ => False) (fun d μ' => d = .bl true ∧ ∀ q ∈ T, (q.1, OO.tab q.2) ∈ μ') noB noB) : ts { nx := fun _ H' => QV .non H', rt := QV } (L2.start N vs) H := by
  obtain ⟨F, p, e, rfl, hh, t, q⟩ := h
  obtain ⟨H0, ok, h0⟩ := okb_tabs e hh t
  refine hb F H0 p F H _ ok (rep_start (as := [.adr p]) (.cons (.adr p) .nil) hl) _ (fun _ _ _ _ _ _ _ _ r => r.elim) (fun F' H' μ' v d ok' dv ⟨r, hm⟩ => ?_) (fun _ _ _ _ _ _ _ _ z => z.elim) (fun _ _ _ _ _ _ _ _ z => z.elim)
  subst r
  cases dv
  refine q F' H' ok'.ff ok'.ext (fun b o hb n1 n2 => ok'.fr b o (by show H0 b = _; rw [h0 b n2]; exact hb) (by intro z; cases z; exact n1 rfl)) (ok'.hd p rfl) (fun b o z => ?_) (tabs_of ok' rfl t.nd hm)
  rcases ok'.new b o z with y | y
  · exact .inl y
  · refine .inr ?_
    have y' : H0 b = none := y
    by_cases hb : b ∈ T.map (·.1)
    · obtain ⟨r, hr, rfl⟩ := List.mem_map.mp hb
      have := (ok'.own _ (hm r hr)).1
      rw [z] at this
      cases this
    · rw [h0 b hb] at y'
      exact y'
theorem ed_callT {x : Fx} {ta : TA} {ds : DS} {μ : Mu} {Q : D → Mu → Prop} {T : List (Addr × Str)} {E : XK} (hK : K = x.K) (nd : (T.map (·.1)).Nodup) (h : AD x ta ds μ fun es μ1 => ∃ p, x.hand = some p ∧ es = [.adr p] ∧ (∀ q ∈ T, (q.1, OO.tab q.2) ∈ μ1) ∧ Q (.bl true) μ1) : ED x (tCall (SpHT K T) [] E ta) ds μ Q := fun F H σ ok rp Qv k =>
  h F H σ ok rp _ fun F1 H1 μ1 vs es n dl ⟨p, hp, e, hm, q⟩ => by
    subst e hK
    show SpHT x.K T (vs ++ []) H1 Qv E
    rw [List.append_nil]
    cases dl with
    | cons h1 r =>
      cases r
      cases h1
      have ok := n.ok
      refine ⟨F1, p, ok.ext, rfl, ok.hd p hp, tabs_of ok hp nd hm, fun F' H' h1 h2 h3 hh h4 ht => ?_⟩
      have inT : ∀ q ∈ μ1, q.1 ∈ T.map (·.1) → ∃ r ∈ T, q = (r.1, .tab r.2) := fun q hq hb => by
        obtain ⟨r, hr, e⟩ := List.mem_map.mp hb
        exact ⟨r, hr, mu_uniq ok.nd hq (hm r hr) e.symm⟩
      have notMu : ∀ b, b ∈ T.map (·.1) → b ∈ μ1.map (·.1) := fun b hb => by
        obtain ⟨r, hr, e⟩ := List.mem_map.mp hb
        exact List.mem_map.mpr ⟨_, hm r hr, e⟩
      have n2 : Nxt x F1 H1 μ1 F' H' μ1 := by
        refine ⟨⟨h2, ok.ff.tr h1, fun b o z => ?_, fun b o z y => ?_, fun q z => ?_, ok.nd, fun q hq => ?_⟩, h1, fun b o z y y2 => h3 b o z (fun e => y2 (by rw [hp, e])) (fun e => y (notMu b e)), rfl, h4⟩
        · rcases h4 b o z with y | y
          · exact ok.new b o y
          · exact .inr (ok.h0 y)
        · refine h3 b o (ok.fr b o z y) (fun e => y (by rw [hp, e])) fun e => ?_
          obtain ⟨r, hr, e2⟩ := List.mem_map.mp e
          have := (ok.own _ (hm r hr)).2.1
          rw [e2, z] at this
          cases this
        · rw [hp] at z
          cases z
          exact hh
        · obtain ⟨a1, a2, a3, a4⟩ := ok.own q hq
          by_cases hb : q.1 ∈ T.map (·.1)
          · obtain ⟨r, hr, rfl⟩ := inT q hq hb
            obtain ⟨g1, g2, g3⟩ := ht.own r hr
            exact ⟨g1, a2, a3, g3⟩
          · obtain ⟨u, hu⟩ := a4.some
            have e' : H' q.1 = H1 q.1 := by
              rw [hu]
              exact h3 q.1 u hu (fun e => a3 (by rw [hp, e])) hb
            refine ⟨?_, a2, a3, a4.mono h1 e'⟩
            cases z : F' q.1 with
            | none => rfl
            | some o =>
              rcases h4 q.1 o z with y | y
              · rw [a1] at y
                cases y
              · rw [hu] at y
                cases y
      exact k F' H' μ1 _ _ (n.tr n2) (.bl true) q
theorem okHT {x : Str} {st : Stmt} {f c : Addr} {fd : FuncData} {N : List Str} {h : Str} {k : Nat} {T : List (Addr × Str)} (D : DefC K mg x st f fd [h] c) (S : FnScope N [h] (defScope st))
    (hb : ∀ (A : Around) (outer : List Env) (s : Shared) (H : Hp) (E : XK), Room k (A.deeper (PyProof.Rows.envOfC x (defScope st) s.heap.objs.size f (.ref c))) →
      ∃ t, PSs (cxOf CX0 P w K mg base N x (defScope st) f (.ref c) A outer s H E).nox (defBody st) t ∧ ∀ F0 H0 p, SD ⟨K, F0, H0, some p⟩ t (startD N.length [.adr p]) (tabMu T) (fun _ _ => False) (fun d μ' => d = .bl true ∧ ∀ q ∈ T, (q.1, OO.tab q.2) ∈ μ') noB noB) :
    FnOk P w K mg base CX0 (k + 1) f fd [h] (SpHT K T) := by
  obtain ⟨oc, od, kV, doc, pm, an, ct, osl, rfl, lk, hcd⟩ := D.ex
  refine fn_of lk hcd S (fun vs H Q E h => ?_) fun A outer s H vs Q E hr h => ?_
  · obtain ⟨F, p, _, rfl, _⟩ := h
    rfl
  · obtain ⟨t, h1, h2⟩ := hb A outer s H E hr
    exact ⟨t, h1.nox, fnHT h (FnScope.le S) h2⟩
/-! ### the hand is made -/
def spHand (K : PySem.W.Frag) : Sp := fun vs H Q _ => ∃ (a : Addr) (ns : List Int) (F : Hp), vs = [.ref a] ∧ Ex F H ∧ SqL K F a (ns.map V.int) ∧ ns.length ≤ 63 ∧
  ∀ F' H' h, Ex F F' → Ex F' H' → Ex H H' → New F H F' → H h = none → HandAt K F' H' h → Q (.ref h) H'
theorem sd_retL {x : Fx} {ta : TA} {ds : DS} {μ : Mu} {N : DS → Mu → Prop} {R : D → Mu → Prop} {B C : DS → Mu → Prop} (h : AD x ta ds μ fun es μ1 => es.length ≤ 100000 ∧ ∀ p, R (.adr p) ((p, .lst es) :: μ1)) : SD x (tRet (tLst ta)) ds μ N R B C := fun F H σ ok rp E _ c2 _ _ =>
  h F H σ ok rp _ fun F1 H1 μ1 vs es n dl q => by
    refine ⟨by rw [dl.length, sizeLine_eq]; have := q.1; omega, fun p hp => ?_⟩
    have ok2 := n.ok.take (u := .lst es) (o := .lst vs) hp ⟨vs, upd_same, dl⟩
    exact c2 F1 _ _ _ _ ok2 (.adr p) (q.2 p)
theorem hand_at {x : Fx} {F H : Hp} {p : Addr} {cells : List Int} {pl : Nat} {left mix cnt : Int} {μ : Mu} (ok : Okb x F H ((p, .lst (handL cells pl left mix cnt)) :: μ)) (o : HandOk cells left mix cnt) : HandAt x.K F H p := by
  obtain ⟨b1, b2, b3, ws, b4, b5⟩ := ok.own _ List.mem_cons_self
  cases b5 with
  | cons d1 r1 =>
    cases r1 with
    | cons d2 r2 =>
      cases r2 with
      | cons d3 r3 =>
        cases r3 with
        | cons d4 r4 =>
          cases r4 with
          | cons d5 r5 =>
            cases r5
            cases d2
            cases d3
            cases d4
            cases d5
            cases d1 with
            | lst hs hl' =>
              have ei := hl'.of_ints cells
              subst ei
              exact ⟨b1, _, cells, pl, left, mix, cnt, b4, hs, o.len, o.pos, o.left, o.mix, o.cnt⟩
theorem okHand {x h : Str} {st : Stmt} {f : Addr} {fd : FuncData} {N : List Str} {k : Nat} (D : Def K mg x st f fd [h]) (S : FnScope N [h] (defScope st))
    (hb : ∀ (cdv : Value) (A : Around) (outer : List Env) (s : Shared) (H : Hp) (E : XK), Room k (A.deeper (PyProof.Rows.envOfC x (defScope st) s.heap.objs.size f cdv)) →
      ∃ t, PSs (cxOf CX0 P w K mg base N x (defScope st) f cdv A outer s H E).nox (defBody st) t ∧ ∀ F0 H0 (ns : List Int), ns.length ≤ 63 → SD ⟨K, F0, H0, none⟩ t (startD N.length [.lst (ns.map DL.D.int)]) [] (fun _ _ => False) (fun d μ' => ∃ p cells mix, d = .adr p ∧ μ' = [(p, .lst (handL cells 0 0 mix 0))] ∧ HandOk cells 0 mix 0) noB noB) :
    FnOk P w K mg base CX0 (k + 1) f fd [h] (spHand K) := by
  refine D.fn.ok S (fun vs H Q E h => ?_) (fun cdv A outer s H vs Q E hr h => ?_)
  · obtain ⟨a, ns, F, rfl, _⟩ := h
    rfl
  · obtain ⟨t, h1, h2⟩ := hb cdv A outer s H E hr
    refine ⟨t, h1, ?_⟩
    obtain ⟨a, ns, F, rfl, e, hs, hl, q⟩ := h
    refine h2 F H ns hl F H _ (okb_start e (fun _ z => by cases z)) (rep_start (as := [.lst (ns.map DL.D.int)]) (.cons (.lst hs (.ints ns)) .nil) (FnScope.le S)) _ (fun _ _ _ _ _ _ _ _ r => r.elim) (fun F' H' μ' v d ok' dv r => ?_) (fun _ _ _ _ _ _ _ _ z => z.elim) (fun _ _ _ _ _ _ _ _ z => z.elim)
    obtain ⟨p, cells, mix, rfl, rfl, o⟩ := r
    cases dv
    exact q F' H' p ok'.ff ok'.ext (fun b o z => ok'.fr b o z (by intro z; cases z)) ok'.new (ok'.own _ List.mem_cons_self).2.1 (hand_at ok' o)
/-! ### the law itself -/
def spLaw (K : PySem.W.Frag) (T : List (Addr × Str)) : Sp := fun vs H Q _ => ∃ (a : Addr) (ns : List Int), vs = [.ref a] ∧ SqL K H a (ns.map V.int) ∧ ns.length ≤ 63 ∧ (T.map (·.1)).Nodup ∧ (∀ p ∈ T, H p.1 = some (.tbl #[])) ∧ ∀ H', Q (.bl true) H'
theorem fnLaw {rest : TS} {N : List Str} {T : List (Addr × Str)} {vs : List V} {H : Hp} {QV : VK} {E : XK} {i : Nat} (h : spLaw K T vs H QV E) (hl : 1 ≤ N.length) (hi : i ≠ 0)
    (hb : ∀ F0 H0 p, SD ⟨K, F0, H0, some p⟩ rest ((startD N.length [.adr 0]).set i (some (.adr p)) |>.set 0 none) (tabMu T) (fun _ _ => False) (fun d _ => d = .bl true) noB noB) :
    tSeq (tAsg (tCall (spHand K) [] E0 (tCons (tVar 0) tNil)) (gName i)) rest { nx := fun _ H' => QV .non H', rt := QV } (L2.start N vs) H := by
  obtain ⟨a, ns, rfl, hs, hn, nd, hT, q⟩ := h
  have h0 : (L2.start N [V.ref a])[0]? = some (some (V.ref a)) := rfl
  refine ⟨.ref a, h0, ?_⟩
  -- the frozen heap: all but the tables
  let F : Hp := fun b => if b ∈ T.map (·.1) then none else H b
  have nT : ∀ b, b ∉ T.map (·.1) → F b = H b := fun b hb => if_neg hb
  have yT : ∀ b, b ∈ T.map (·.1) → F b = none := fun b hb => if_pos hb
  have eF : Ex F H := fun b o z => by
    by_cases hb : b ∈ T.map (·.1)
    · rw [yT b hb] at z
      cases z
    · rw [nT b hb] at z
      exact z
  have tabH : ∀ b, b ∈ T.map (·.1) → H b = some (.tbl #[]) := fun b hb => by
    obtain ⟨p, hp, rfl⟩ := List.mem_map.mp hb
    exact hT p hp
  have hsF : SqL K F a (ns.map V.int) := by
    rcases hs with z | z
    · refine .inl ?_
      have na : a ∉ T.map (·.1) := fun hb => by
        have := tabH a hb
        rcases z with z | ⟨o, z⟩
        · rw [this] at z; cases z
        · rw [this] at z; cases z
      rcases z with z | ⟨o, z⟩
      · exact .inl (by rw [nT a na]; exact z)
      · exact .inr ⟨o, by rw [nT a na]; exact z⟩
    · exact .inr z
  show spHand K [.ref a] H (fun x H1 => rest { nx := fun _ H' => QV .non H', rt := QV } ((L2.start N [.ref a]).set i (some x)) H1) E0
  refine ⟨a, ns, F, rfl, eF, hsF, hn, fun F' H' h e1 e2 e3 e4 hh ha => ?_⟩
  have tab' : ∀ p ∈ T, H' p.1 = some (.tbl #[]) := fun p hp => e3 _ _ (hT p hp)
  have tO : TabsO K F' H' T h := ⟨nd, fun p hp => by
    have hb : p.1 ∈ T.map (·.1) := List.mem_map.mpr ⟨p, hp, rfl⟩
    refine ⟨?_, fun z => ?_, #[], tab' p hp, True.intro, fun pos cv hc => ?_⟩
    · cases y : F' p.1 with
      | none => rfl
      | some o =>
        rcases e4 _ o y with u | u
        · rw [yT _ hb] at u
          cases u
        · rw [hT p hp] at u
          cases u
    · rw [← z, hT p hp] at hh
      cases hh
    · have z : codeAmong pos [] = some cv := hc
      simp [codeAmong] at z⟩
  obtain ⟨H0, ok, _⟩ := okb_tabs e2 ha tO
  have rp : Rep K F' ((L2.start N [V.ref a]).set i (some (.ref h))) ((startD N.length [.adr 0]).set i (some (.adr h)) |>.set 0 none) := by
    have r0 : Rep K F' (L2.start N [V.ref a]) ((startD N.length [.adr a])) := rep_start (as := [.adr a]) (.cons (.adr a) .nil) hl
    have r1 := (r0.set (i := i) (.adr h)).unset (i := 0) (o := some (.ref a))
    have e1 : ((L2.start N [V.ref a]).set i (some (.ref h))).set 0 (some (.ref a)) = (L2.start N [V.ref a]).set i (some (.ref h)) := by
      apply set_same
      rw [List.getElem?_set_ne hi]
      exact h0
    rw [e1] at r1
    have e2 : ((startD N.length [.adr a]).set i (some (.adr h))).set 0 none = ((startD N.length [.adr 0]).set i (some (.adr h))).set 0 none := by
      rw [List.set_comm _ _ hi, List.set_comm _ _ hi]
      rfl
    rw [e2] at r1
    exact r1
  refine hb F' H0 h F' H' _ ok rp _ (fun _ _ _ _ _ _ _ _ r => r.elim) (fun F2 H2 μ2 v d ok2 dv r => ?_) (fun _ _ _ _ _ _ _ _ z => z.elim) (fun _ _ _ _ _ _ _ _ z => z.elim)
  subst r
  cases dv
  exact q H2
end
end DL
set_option Elab.async false
set_option linter.all false
set_option maxRecDepth 100000
set_option maxHeartbeats 2000000
namespace DL
open PySem L2 RZ
section
variable {x : Fx} {te tl : TE} {ta : TA} {t : TS} {ds : DS} {μ : Mu} {Q : D → Mu → Prop} {N : DS → Mu → Prop} {R : D → Mu → Prop} {B C : DS → Mu → Prop} {K : PySem.W.Frag}
theorem upd_upd (H : Hp) (p : Addr) (a b : HO) : upd (upd H p a) p b = upd H p b := by
  funext c
  by_cases e : c = p
  · subst e
    rw [upd_same, upd_same]
  · rw [upd_ne e, upd_ne e, upd_ne e]
/-- name = {k: b}, the dict owned -/
theorem sd_ownDisp1 {i : Nat} {k : Int} {b : Bool} (h : ∀ p, N (ds.set i (some (.adr p))) ((p, .dct [(.inl k, .bl b)]) :: μ)) : SD x (tAsg (tDisp [(tC (.int k), tC (.bl b))]) (gName i)) ds μ N R B C := fun F H σ ok rp E c1 _ _ _ => by
  intro p hp
  have ok2 := ok.take (u := .dct [(.inl k, .bl b)]) (o := .dK [(.inl k, .bl b)]) hp ⟨[(.inl k, .bl b)], upd_same, rfl, .cons (.bl b) .nil⟩
  refine ⟨upd_same, [(.inl k, .bl b)], rfl, Nat.le_of_ble_eq_true rfl, ?_⟩
  have e : upd (upd H p (.dK [])) p (.dK (mergeK [] [(.inl k, .bl b)])) = upd H p (.dK [(.inl k, .bl b)]) := by rw [upd_upd]; rfl
  show E.nx _ (upd (upd H p (.dK [])) p (.dK (mergeK [] [(.inl k, V.bl b)])))
  rw [e]
  exact c1 F _ _ _ _ Ex.rfl ok2 (rp.set (.adr p)) (h p)
theorem inD_nI {n : Nat} {L : List Nat} : inD (nI n) (L.map nI) = decide (n ∈ L) := by
  unfold inD inV
  rw [List.map_map, List.any_map]
  have : (L.any fun m => decide (m = n)) = decide (n ∈ L) := by
    rw [Bool.eq_iff_iff, List.any_eq_true, decide_eq_true_eq]
    constructor
    · rintro ⟨m, h1, h2⟩
      have := of_decide_eq_true h2
      subst this
      exact h1
    · intro h
      exact ⟨n, h, decide_eq_true rfl⟩
  rw [← this]
  congr 1
  funext m
  show eqV (.int (m : Int)) (.int (n : Int)) = decide (m = n)
  unfold eqV
  rw [Bool.eq_iff_iff]
  simp
  omega
theorem flat_nI (L : List Nat) : (L.map nI).all flatD = true := by
  rw [List.all_map, List.all_eq_true]
  intro n _
  rfl
/-! a dict's keys -/
theorem putG_keys {β : Type} (kvs : List (L2.Key × β)) (k : L2.Key) (v : β) : (k ∈ kvs.map (·.1) ∧ (putG kvs k v).map (·.1) = kvs.map (·.1)) ∨ (k ∉ kvs.map (·.1) ∧ (putG kvs k v).map (·.1) = kvs.map (·.1) ++ [k]) := by
  unfold putG
  split
  · rename_i h
    obtain ⟨kv, h1, h2⟩ := List.any_eq_true.mp h
    refine .inl ⟨List.mem_map.mpr ⟨kv, h1, of_decide_eq_true h2⟩, ?_⟩
    rw [List.map_map]
    refine List.map_congr_left fun kv _ => ?_
    show (if kv.1 = k then (kv.1, v) else kv).1 = kv.1
    split <;> rfl
  · rename_i h
    refine .inr ⟨fun hm => h ?_, by rw [List.map_append]; rfl⟩
    obtain ⟨kv, h1, h2⟩ := List.mem_map.mp hm
    exact List.any_eq_true.mpr ⟨kv, h1, decide_eq_true h2⟩
/-- the keys are whole numbers from 0 on, each once: just those of which p is true -/
def KeysAre (kvs : List (L2.Key × D)) (p : Nat → Prop) : Prop := ∃ ks : List Nat, kvs.map (·.1) = ks.map (fun n : Nat => Sum.inl (n : Int)) ∧ ks.Nodup ∧ ∀ n, n ∈ ks ↔ p n
theorem KeysAre.put {kvs : List (L2.Key × D)} {p : Nat → Prop} (h : KeysAre kvs p) (m : Nat) (v : D) : KeysAre (putG kvs (Sum.inl (m : Int)) v) (fun n => p n ∨ n = m) := by
  obtain ⟨ks, e, nd, hp⟩ := h
  have inj : ∀ a : Nat, (Sum.inl (m : Int) : L2.Key) ∈ kvs.map (·.1) ↔ m ∈ ks := fun _ => by
    rw [e, List.mem_map]
    constructor
    · rintro ⟨a, h1, h2⟩
      have : (a : Int) = (m : Int) := Sum.inl.inj h2
      have : a = m := Int.ofNat.inj this
      subst this
      exact h1
    · intro h
      exact ⟨m, h, rfl⟩
  rcases putG_keys kvs (Sum.inl (m : Int)) v with ⟨h1, h2⟩ | ⟨h1, h2⟩
  · have hm := (inj 0).mp h1
    refine ⟨ks, h2.trans e, nd, fun n => ⟨fun hn => .inl ((hp n).mp hn), fun hn => ?_⟩⟩
    rcases hn with hn | rfl
    · exact (hp n).mpr hn
    · exact hm
  · have hm : m ∉ ks := fun z => h1 ((inj 0).mpr z)
    refine ⟨ks ++ [m], by rw [h2, e, List.map_append]; rfl, ?_, fun n => ?_⟩
    · rw [List.nodup_append]
      refine ⟨nd, by simp, ?_⟩
      intro a ha b hb
      rw [List.mem_singleton] at hb
      subst hb
      exact fun z => hm (z ▸ ha)
    · rw [List.mem_append, List.mem_singleton, hp n]
theorem KeysAre.len {kvs : List (L2.Key × D)} {p : Nat → Prop} (h : KeysAre kvs p) {M : Nat} (hM : ∀ n, p n → n < M) : kvs.length ≤ M := by
  obtain ⟨ks, e, nd, hp⟩ := h
  have e1 : kvs.length = ks.length := by
    have := congrArg List.length e
    rwa [List.length_map, List.length_map] at this
  rw [e1]
  have hs : ks ⊆ List.range M := fun n hn => List.mem_range.mpr (hM n ((hp n).mp hn))
  have := nd.length_le_of_subset hs
  rwa [List.length_range] at this
end
end DL
set_option Elab.async false
/-! Sums of items: masks of bits, in plain Lean. -/
namespace M45
def nextB (items : List Nat) (m : Nat) : Nat := items.foldl (fun acc i => acc ||| (m <<< i)) 0
def foldB (items : List Nat) : Nat → Nat
  | 0 => 1
  | k + 1 => nextB items (foldB items k)
def bitsTo (M n : Nat) : List Nat := (List.range n).filter fun i => M.testBit i
def bitsOn (M : Nat) : List Nat := bitsTo M (M.log2 + 1)
theorem lt_log2 (M : Nat) : M < 2 ^ (M.log2 + 1) := Nat.lt_log2_self
theorem mem_bitsTo {M n i : Nat} : i ∈ bitsTo M n ↔ i < n ∧ M.testBit i = true := by
  unfold bitsTo
  rw [List.mem_filter, List.mem_range]
theorem testBit_lt {M n i : Nat} (h : M < 2 ^ n) (t : M.testBit i = true) : i < n := by
  by_cases c : i < n
  · exact c
  · have : M < 2 ^ i := Nat.lt_of_lt_of_le h (Nat.pow_le_pow_right (by decide) (by omega))
    rw [Nat.testBit_lt_two_pow this] at t
    cases t
theorem mem_bitsOn {M i : Nat} : i ∈ bitsOn M ↔ M.testBit i = true := by
  unfold bitsOn
  rw [mem_bitsTo]
  exact ⟨fun h => h.2, fun h => ⟨testBit_lt (lt_log2 M) h, h⟩⟩
theorem range_sorted (n : Nat) : (List.range n).Pairwise (· < ·) := List.pairwise_lt_range
theorem bitsTo_sorted (M n : Nat) : (bitsTo M n).Pairwise (· < ·) := (range_sorted n).filter _
theorem bitsOn_sorted (M : Nat) : (bitsOn M).Pairwise (· < ·) := bitsTo_sorted M _
/-- two rising lists with the same members are one -/
theorem sorted_ext : ∀ {a b : List Nat}, a.Pairwise (· < ·) → b.Pairwise (· < ·) → (∀ x, x ∈ a ↔ x ∈ b) → a = b
  | [], [], _, _, _ => rfl
  | [], y :: s, _, _, h => by
    have := (h y).mpr List.mem_cons_self
    cases this
  | x :: r, [], _, _, h => by
    have := (h x).mp List.mem_cons_self
    cases this
  | x :: r, y :: s, ha, hb, h => by
    rw [List.pairwise_cons] at ha hb
    have e : x = y := by
      have h1 := (h x).mp List.mem_cons_self
      have h2 := (h y).mpr List.mem_cons_self
      rcases List.mem_cons.mp h1 with e | m1
      · exact e
      · rcases List.mem_cons.mp h2 with e | m2
        · exact e.symm
        · have := ha.1 y m2
          have := hb.1 x m1
          omega
    subst e
    refine congrArg (x :: ·) (sorted_ext ha.2 hb.2 fun z => ?_)
    have hz := h z
    rw [List.mem_cons, List.mem_cons] at hz
    constructor
    · intro m
      rcases hz.mp (.inr m) with e | q
      · subst e
        exact absurd (ha.1 _ m) (Nat.lt_irrefl _)
      · exact q
    · intro m
      rcases hz.mpr (.inr m) with e | q
      · subst e
        exact absurd (hb.1 _ m) (Nat.lt_irrefl _)
      · exact q
theorem bits_same {M a : Nat} (h : M < 2 ^ a) : bitsTo M a = bitsOn M := by
  refine sorted_ext (bitsTo_sorted M a) (bitsOn_sorted M) fun x => ?_
  rw [mem_bitsOn, mem_bitsTo]
  exact ⟨fun q => q.2, fun q => ⟨testBit_lt h q, q⟩⟩
theorem bitsTo_succ (M n : Nat) : bitsTo M (n + 1) = if M.testBit n = true then bitsTo M n ++ [n] else bitsTo M n := by
  unfold bitsTo
  rw [List.range_succ, List.filter_append]
  split
  · rename_i h
    simp [h]
  · rename_i h
    simp [h]
theorem bitsTo_len (M n : Nat) : (bitsTo M n).length ≤ n := by
  have := List.length_filter_le (fun i => M.testBit i) (List.range n)
  rw [List.length_range] at this
  exact this
theorem shift_low (M a : Nat) : (M >>> a) &&& 1 = if M.testBit a = true then 1 else 0 := by
  rw [Nat.and_one_is_mod]
  have h : M.testBit a = ((M >>> a) % 2 == 1) := by
    rw [Nat.testBit]
    rw [Nat.one_and_eq_mod_two]
    cases h : (M >>> a) % 2 with
    | zero => rfl
    | succ k =>
      have : (M >>> a) % 2 < 2 := Nat.mod_lt _ (by decide)
      have : k = 0 := by omega
      subst this
      rfl
  rw [h]
  have : (M >>> a) % 2 < 2 := Nat.mod_lt _ (by decide)
  split
  · rename_i q
    simpa using q
  · rename_i q
    have : ¬ (M >>> a) % 2 = 1 := by simpa using q
    omega
theorem foldl_or_bit (m n : Nat) : ∀ (items : List Nat) (acc : Nat), (items.foldl (fun acc i => acc ||| (m <<< i)) acc).testBit n = (acc.testBit n || items.any fun i => decide (i ≤ n) && m.testBit (n - i))
  | [], acc => by simp
  | i :: r, acc => by
    rw [List.foldl_cons, foldl_or_bit m n r, Nat.testBit_or, Nat.testBit_shiftLeft, List.any_cons, Bool.or_assoc]
theorem testBit_nextB (items : List Nat) (m n : Nat) : (nextB items m).testBit n = items.any fun i => decide (i ≤ n) && m.testBit (n - i) := by
  unfold nextB
  rw [foldl_or_bit]
  simp
theorem foldl_or_lt {m b c : Nat} (h : m < 2 ^ b) : ∀ (items : List Nat) (acc : Nat), (∀ i ∈ items, i ≤ c) → acc < 2 ^ (b + c) → items.foldl (fun acc i => acc ||| (m <<< i)) acc < 2 ^ (b + c)
  | [], acc, _, ha => ha
  | i :: r, acc, hi, ha => by
    rw [List.foldl_cons]
    refine foldl_or_lt h r _ (fun j hj => hi j (List.mem_cons_of_mem _ hj)) (Nat.or_lt_two_pow ha ?_)
    rw [Nat.shiftLeft_eq]
    have h1 := hi i List.mem_cons_self
    calc m * 2 ^ i < 2 ^ b * 2 ^ i := Nat.mul_lt_mul_of_pos_right h (Nat.two_pow_pos i)
      _ = 2 ^ (b + i) := (Nat.pow_add 2 b i).symm
      _ ≤ 2 ^ (b + c) := Nat.pow_le_pow_right (by decide) (by omega)
theorem nextB_lt {items : List Nat} {m b c : Nat} (h : m < 2 ^ b) (hi : ∀ i ∈ items, i ≤ c) : nextB items m < 2 ^ (b + c) := foldl_or_lt h items 0 hi (Nat.two_pow_pos _)
theorem foldB_lt {items : List Nat} {c : Nat} (hi : ∀ i ∈ items, i ≤ c) : ∀ k, foldB items k < 2 ^ (c * k + 1)
  | 0 => by show 1 < 2 ^ 1; decide
  | k + 1 => by
    have := nextB_lt (foldB_lt hi k) hi
    have e : c * k + 1 + c = c * (k + 1) + 1 := by rw [Nat.mul_add]; omega
    rw [e] at this
    exact this
/-- a sum of just so many items -/
def Sum (items : List Nat) : Nat → Nat → Prop
  | 0, n => n = 0
  | k + 1, n => ∃ i, i ∈ items ∧ ∃ m, Sum items k m ∧ n = m + i
theorem foldB_bit (items : List Nat) : ∀ k n, (foldB items k).testBit n = true ↔ Sum items k n
  | 0, n => by
    show (1 : Nat).testBit n = true ↔ n = 0
    cases n with
    | zero => exact ⟨fun _ => rfl, fun _ => by decide⟩
    | succ k =>
      rw [Nat.testBit_succ]
      simp
  | k + 1, n => by
    show (nextB items (foldB items k)).testBit n = true ↔ _
    rw [testBit_nextB, List.any_eq_true]
    constructor
    · rintro ⟨i, hi, h⟩
      rw [Bool.and_eq_true, decide_eq_true_eq] at h
      exact ⟨i, hi, n - i, (foldB_bit items k _).mp h.2, by omega⟩
    · rintro ⟨i, hi, m, hm, e⟩
      refine ⟨i, hi, ?_⟩
      rw [Bool.and_eq_true, decide_eq_true_eq]
      refine ⟨by omega, ?_⟩
      rw [show n - i = m by omega]
      exact (foldB_bit items k m).mpr hm
/-- how many ones stand from the first bit on -/
theorem ones (M : Nat) : ∃ r, (∀ i, i < r → M.testBit i = true) ∧ M.testBit r = false := by
  refine Classical.byContradiction fun h => ?_
  have all : ∀ n, ∀ i, i < n → M.testBit i = true := by
    intro n
    induction n with
    | zero => intro i hi; omega
    | succ k ih =>
      intro i hi
      by_cases c : i < k
      · exact ih i c
      · have e : i = k := by omega
        subst e
        cases q : M.testBit i with
        | true => rfl
        | false => exact (h ⟨i, ih, q⟩).elim
  have := all (M.log2 + 2) (M.log2 + 1) (by omega)
  rw [Nat.testBit_lt_two_pow (lt_log2 M)] at this
  cases this
end M45
set_option Elab.async false
set_option linter.all false
set_option maxRecDepth 100000
set_option maxHeartbeats 1000000
namespace Pf
open PySem L2 RZ DL
def topS (i : Nat) : Stmt := PySem.Challenge.pw_paidornot_k45_whole_sums_of_items.main.body.getD i (.Pass ⟨0, 0, 0, 0⟩)
abbrev s_is_integer : Stmt := topS 1
abbrev N_is_integer : List Str := ["thing"]
theorem sc_is_integer : FnScope N_is_integer ["thing"] (defScope s_is_integer) := ⟨rfl, rfl, rfl, by decide +kernel, rfl, by decide +kernel, by decide +kernel⟩
-- 0:thing
abbrev s_is_within : Stmt := topS 2
abbrev N_is_within : List Str := ["thing", "low", "high"]
theorem sc_is_within : FnScope N_is_within ["thing", "low", "high"] (defScope s_is_within) := ⟨rfl, rfl, rfl, by decide +kernel, rfl, by decide +kernel, by decide +kernel⟩
-- 0:thing 1:low 2:high
abbrev s_are_integers : Stmt := topS 3
abbrev N_are_integers : List Str := ["thing", "item"]
theorem sc_are_integers : FnScope N_are_integers ["thing"] (defScope s_are_integers) := ⟨rfl, rfl, rfl, by decide +kernel, rfl, by decide +kernel, by decide +kernel⟩
-- 0:thing 1:item
abbrev s_is_rising : Stmt := topS 4
abbrev N_is_rising : List Str := ["thing", "one", "other"]
theorem sc_is_rising : FnScope N_is_rising ["thing"] (defScope s_is_rising) := ⟨rfl, rfl, rfl, by decide +kernel, rfl, by decide +kernel, by decide +kernel⟩
-- 0:thing 1:one 2:other
abbrev s_check_items : Stmt := topS 17
abbrev N_check_items : List Str := ["items"]
theorem sc_check_items : FnScope N_check_items ["items"] (defScope s_check_items) := ⟨rfl, rfl, rfl, by decide +kernel, rfl, by decide +kernel, by decide +kernel⟩
-- 0:items
abbrev s_fold_bits : Stmt := topS 18
abbrev N_fold_bits : List Str := ["items", "often", "found", "turn", "later", "item"]
theorem sc_fold_bits : FnScope N_fold_bits ["items", "often"] (defScope s_fold_bits) := ⟨rfl, rfl, rfl, by decide +kernel, rfl, by decide +kernel, by decide +kernel⟩
-- 0:items 1:often 2:found 3:turn 4:later 5:item
abbrev s_check_fold : Stmt := topS 19
abbrev N_check_fold : List Str := ["items", "often"]
theorem sc_check_fold : FnScope N_check_fold ["items", "often"] (defScope s_check_fold) := ⟨rfl, rfl, rfl, by decide +kernel, rfl, by decide +kernel, by decide +kernel⟩
-- 0:items 1:often
abbrev s_bits_on : Stmt := topS 20
abbrev N_bits_on : List Str := ["told", "found", "at"]
theorem sc_bits_on : FnScope N_bits_on ["told"] (defScope s_bits_on) := ⟨rfl, rfl, rfl, by decide +kernel, rfl, by decide +kernel, by decide +kernel⟩
-- 0:told 1:found 2:at
abbrev s_item_sums : Stmt := topS 21
abbrev N_item_sums : List Str := ["items", "often"]
theorem sc_item_sums : FnScope N_item_sums ["items", "often"] (defScope s_item_sums) := ⟨rfl, rfl, rfl, by decide +kernel, rfl, by decide +kernel, by decide +kernel⟩
-- 0:items 1:often
abbrev s_item_sums_number : Stmt := topS 22
abbrev N_item_sums_number : List Str := ["items", "often"]
theorem sc_item_sums_number : FnScope N_item_sums_number ["items", "often"] (defScope s_item_sums_number) := ⟨rfl, rfl, rfl, by decide +kernel, rfl, by decide +kernel, by decide +kernel⟩
-- 0:items 1:often
abbrev s_reach_of : Stmt := topS 23
abbrev N_reach_of : List Str := ["items", "often", "told", "at"]
theorem sc_reach_of : FnScope N_reach_of ["items", "often"] (defScope s_reach_of) := ⟨rfl, rfl, rfl, by decide +kernel, rfl, by decide +kernel, by decide +kernel⟩
-- 0:items 1:often 2:told 3:at
abbrev s_reach : Stmt := topS 24
abbrev N_reach : List Str := ["items", "often"]
theorem sc_reach : FnScope N_reach ["items", "often"] (defScope s_reach) := ⟨rfl, rfl, rfl, by decide +kernel, rfl, by decide +kernel, by decide +kernel⟩
-- 0:items 1:often
abbrev s_is_folded : Stmt := topS 25
abbrev N_is_folded : List Str := ["items", "often", "number"]
theorem sc_is_folded : FnScope N_is_folded ["items", "often", "number"] (defScope s_is_folded) := ⟨rfl, rfl, rfl, by decide +kernel, rfl, by decide +kernel, by decide +kernel⟩
-- 0:items 1:often 2:number
abbrev s_turned_items : Stmt := topS 26
abbrev N_turned_items : List Str := ["items", "item"]
theorem sc_turned_items : FnScope N_turned_items ["items"] (defScope s_turned_items) := ⟨rfl, rfl, rfl, by decide +kernel, rfl, by decide +kernel, by decide +kernel⟩
-- 0:items 1:item
abbrev s_folded_sizes : Stmt := topS 27
abbrev N_folded_sizes : List Str := ["items", "most", "found", "told", "often"]
theorem sc_folded_sizes : FnScope N_folded_sizes ["items", "most"] (defScope s_folded_sizes) := ⟨rfl, rfl, rfl, by decide +kernel, rfl, by decide +kernel, by decide +kernel⟩
-- 0:items 1:most 2:found 3:told 4:often
abbrev s_next_fold : Stmt := topS 28
abbrev N_next_fold : List Str := ["items", "told", "found", "item"]
theorem sc_next_fold : FnScope N_next_fold ["items", "told"] (defScope s_next_fold) := ⟨rfl, rfl, rfl, by decide +kernel, rfl, by decide +kernel, by decide +kernel⟩
-- 0:items 1:told 2:found 3:item
abbrev s__law_hand : Stmt := topS 30
abbrev N__law_hand : List Str := ["script", "cells", "cell"]
theorem sc__law_hand : FnScope N__law_hand ["script"] (defScope s__law_hand) := ⟨rfl, rfl, rfl, by decide +kernel, rfl, by decide +kernel, by decide +kernel⟩
-- 0:script 1:cells 2:cell
abbrev s__law_draw : Stmt := topS 31
abbrev N__law_draw : List Str := ["hand", "many", "cell", "digit", "number"]
theorem sc__law_draw : FnScope N__law_draw ["hand", "many"] (defScope s__law_draw) := ⟨rfl, rfl, rfl, by decide +kernel, rfl, by decide +kernel, by decide +kernel⟩
-- 0:hand 1:many 2:cell 3:digit 4:number
abbrev s__law_any : Stmt := topS 32
abbrev N__law_any : List Str := ["hand", "some"]
theorem sc__law_any : FnScope N__law_any ["hand", "some"] (defScope s__law_any) := ⟨rfl, rfl, rfl, by decide +kernel, rfl, by decide +kernel, by decide +kernel⟩
-- 0:hand 1:some
abbrev s__law_is : Stmt := topS 33
abbrev N__law_is : List Str := ["answer", "due", "one", "other"]
theorem sc__law_is : FnScope N__law_is ["answer", "due"] (defScope s__law_is) := ⟨rfl, rfl, rfl, by decide +kernel, rfl, by decide +kernel, by decide +kernel⟩
-- 0:answer 1:due 2:one 3:other
abbrev s__law_word : Stmt := topS 34
abbrev N__law_word : List Str := ["call", "found", "error", "flags", "words"]
theorem sc__law_word : FnScope N__law_word ["call"] (defScope s__law_word) := ⟨rfl, rfl, rfl, by decide +kernel, rfl, by decide +kernel, by decide +kernel⟩
-- 0:call 1:found 2:error 3:flags 4:words
abbrev s__law_items : Stmt := topS 35
abbrev N__law_items : List Str := ["hand", "top", "most_of", "found", "turn", "item"]
theorem sc__law_items : FnScope N__law_items ["hand", "top", "most_of"] (defScope s__law_items) := ⟨rfl, rfl, rfl, by decide +kernel, rfl, by decide +kernel, by decide +kernel⟩
-- 0:hand 1:top 2:most_of 3:found 4:turn 5:item
abbrev s__law_sums : Stmt := topS 36
abbrev N__law_sums : List Str := ["items", "often", "found", "turn", "later", "number", "item"]
theorem sc__law_sums : FnScope N__law_sums ["items", "often"] (defScope s__law_sums) := ⟨rfl, rfl, rfl, by decide +kernel, rfl, by decide +kernel, by decide +kernel⟩
-- 0:items 1:often 2:found 3:turn 4:later 5:number 6:item
abbrev s__law_no_items : Stmt := topS 37
abbrev N__law_no_items : List Str := ["hand", "some"]
theorem sc__law_no_items : FnScope N__law_no_items ["hand"] (defScope s__law_no_items) := ⟨rfl, rfl, rfl, by decide +kernel, rfl, by decide +kernel, by decide +kernel⟩
-- 0:hand 1:some
abbrev s__law_is_right : Stmt := topS 38
abbrev N__law_is_right : List Str := ["hand", "items", "often", "due", "far", "turned", "whole", "other", "things", "thing", "is_one", "item", "number"]
theorem sc__law_is_right : FnScope N__law_is_right ["hand", "items", "often"] (defScope s__law_is_right) := ⟨rfl, rfl, rfl, by decide +kernel, rfl, by decide +kernel, by decide +kernel⟩
-- 0:hand 1:items 2:often 3:due 4:far 5:turned 6:whole 7:other 8:things 9:thing 10:is_one 11:item 12:number
abbrev s__law_are_refused_right : Stmt := topS 39
abbrev N__law_are_refused_right : List Str := ["hand", "words", "bad", "odd"]
theorem sc__law_are_refused_right : FnScope N__law_are_refused_right ["hand"] (defScope s__law_are_refused_right) := ⟨rfl, rfl, rfl, by decide +kernel, rfl, by decide +kernel, by decide +kernel⟩
-- 0:hand 1:words 2:bad 3:odd
abbrev s_law : Stmt := topS 40
abbrev N_law : List Str := ["script", "hand", "turn", "items", "most_of", "due", "great", "size", "plain", "told", "often"]
theorem sc_law : FnScope N_law ["script"] (defScope s_law) := ⟨rfl, rfl, rfl, by decide +kernel, rfl, by decide +kernel, by decide +kernel⟩
-- 0:script 1:hand 2:turn 3:items 4:most_of 5:due 6:great 7:size 8:plain 9:told 10:often
structure Txt (K : PySem.W.Frag) (mg : Str → Option Value) (A AI : Nat → Addr) (FD : Nat → FuncData) : Prop where
  blt : Blt mg
  c_MOST_FOLD : ∃ t, mg "MOST_FOLD" = some (.int 200 t)
  c_MOST_ITEM : ∃ t, mg "MOST_ITEM" = some (.int 1000 t)
  e_CoinError : Exc0 K mg "CoinError" (A 6)
  e_BadNumber : Exc0 K mg "BadNumber" (A 7)
  e_BadPurse : Exc0 K mg "BadPurse" (A 8)
  e_BadSpan : Exc0 K mg "BadSpan" (A 9)
  e_NoSystem : Exc0 K mg "NoSystem" (A 10)
  e_NotPayable : Exc0 K mg "NotPayable" (A 11)
  e_BadCoins : Exc1 K mg "BadCoins" "at" "BadCoins.__init__" (inClass (topS 12) 0) (A 12) (AI 12) (FD 12)
  e_TooMany : Exc1 K mg "TooMany" "most" "TooMany.__init__" (inClass (topS 13) 0) (A 13) (AI 13) (FD 13)
  x_BadNumber : ExcD K (A 7)
  v_BadNumber : PySem.W.kitOne K (.ref (A 7)) (.type "ValueError") = some true
  m_BadNumber : PySem.W.exmOne K (.ref (A 7)) (.ref (A 6)) = some true
  k_BadNumber_BadNumber : PySem.W.kitOne K (.ref (A 7)) (.ref (A 7)) = some true
  k_BadNumber_BadPurse : PySem.W.kitOne K (.ref (A 7)) (.ref (A 8)) = some false
  k_BadNumber_BadSpan : PySem.W.kitOne K (.ref (A 7)) (.ref (A 9)) = some false
  k_BadNumber_NoSystem : PySem.W.kitOne K (.ref (A 7)) (.ref (A 10)) = some false
  k_BadNumber_NotPayable : PySem.W.kitOne K (.ref (A 7)) (.ref (A 11)) = some false
  k_BadNumber_BadCoins : PySem.W.kitOne K (.ref (A 7)) (.ref (A 12)) = some false
  k_BadNumber_TooMany : PySem.W.kitOne K (.ref (A 7)) (.ref (A 13)) = some false
  x_BadPurse : ExcD K (A 8)
  v_BadPurse : PySem.W.kitOne K (.ref (A 8)) (.type "ValueError") = some true
  m_BadPurse : PySem.W.exmOne K (.ref (A 8)) (.ref (A 6)) = some true
  k_BadPurse_BadNumber : PySem.W.kitOne K (.ref (A 8)) (.ref (A 7)) = some false
  k_BadPurse_BadPurse : PySem.W.kitOne K (.ref (A 8)) (.ref (A 8)) = some true
  k_BadPurse_BadSpan : PySem.W.kitOne K (.ref (A 8)) (.ref (A 9)) = some false
  k_BadPurse_NoSystem : PySem.W.kitOne K (.ref (A 8)) (.ref (A 10)) = some false
  k_BadPurse_NotPayable : PySem.W.kitOne K (.ref (A 8)) (.ref (A 11)) = some false
  k_BadPurse_BadCoins : PySem.W.kitOne K (.ref (A 8)) (.ref (A 12)) = some false
  k_BadPurse_TooMany : PySem.W.kitOne K (.ref (A 8)) (.ref (A 13)) = some false
  x_BadSpan : ExcD K (A 9)
  v_BadSpan : PySem.W.kitOne K (.ref (A 9)) (.type "ValueError") = some true
  m_BadSpan : PySem.W.exmOne K (.ref (A 9)) (.ref (A 6)) = some true
  k_BadSpan_BadNumber : PySem.W.kitOne K (.ref (A 9)) (.ref (A 7)) = some false
  k_BadSpan_BadPurse : PySem.W.kitOne K (.ref (A 9)) (.ref (A 8)) = some false
  k_BadSpan_BadSpan : PySem.W.kitOne K (.ref (A 9)) (.ref (A 9)) = some true
  k_BadSpan_NoSystem : PySem.W.kitOne K (.ref (A 9)) (.ref (A 10)) = some false
  k_BadSpan_NotPayable : PySem.W.kitOne K (.ref (A 9)) (.ref (A 11)) = some false
  k_BadSpan_BadCoins : PySem.W.kitOne K (.ref (A 9)) (.ref (A 12)) = some false
  k_BadSpan_TooMany : PySem.W.kitOne K (.ref (A 9)) (.ref (A 13)) = some false
  x_NoSystem : ExcD K (A 10)
  v_NoSystem : PySem.W.kitOne K (.ref (A 10)) (.type "ValueError") = some true
  m_NoSystem : PySem.W.exmOne K (.ref (A 10)) (.ref (A 6)) = some true
  k_NoSystem_BadNumber : PySem.W.kitOne K (.ref (A 10)) (.ref (A 7)) = some false
  k_NoSystem_BadPurse : PySem.W.kitOne K (.ref (A 10)) (.ref (A 8)) = some false
  k_NoSystem_BadSpan : PySem.W.kitOne K (.ref (A 10)) (.ref (A 9)) = some false
  k_NoSystem_NoSystem : PySem.W.kitOne K (.ref (A 10)) (.ref (A 10)) = some true
  k_NoSystem_NotPayable : PySem.W.kitOne K (.ref (A 10)) (.ref (A 11)) = some false
  k_NoSystem_BadCoins : PySem.W.kitOne K (.ref (A 10)) (.ref (A 12)) = some false
  k_NoSystem_TooMany : PySem.W.kitOne K (.ref (A 10)) (.ref (A 13)) = some false
  x_NotPayable : ExcD K (A 11)
  v_NotPayable : PySem.W.kitOne K (.ref (A 11)) (.type "ValueError") = some true
  m_NotPayable : PySem.W.exmOne K (.ref (A 11)) (.ref (A 6)) = some true
  k_NotPayable_BadNumber : PySem.W.kitOne K (.ref (A 11)) (.ref (A 7)) = some false
  k_NotPayable_BadPurse : PySem.W.kitOne K (.ref (A 11)) (.ref (A 8)) = some false
  k_NotPayable_BadSpan : PySem.W.kitOne K (.ref (A 11)) (.ref (A 9)) = some false
  k_NotPayable_NoSystem : PySem.W.kitOne K (.ref (A 11)) (.ref (A 10)) = some false
  k_NotPayable_NotPayable : PySem.W.kitOne K (.ref (A 11)) (.ref (A 11)) = some true
  k_NotPayable_BadCoins : PySem.W.kitOne K (.ref (A 11)) (.ref (A 12)) = some false
  k_NotPayable_TooMany : PySem.W.kitOne K (.ref (A 11)) (.ref (A 13)) = some false
  x_BadCoins : ExcD K (A 12)
  v_BadCoins : PySem.W.kitOne K (.ref (A 12)) (.type "ValueError") = some true
  m_BadCoins : PySem.W.exmOne K (.ref (A 12)) (.ref (A 6)) = some true
  f_BadCoins : XfC K (A 12)
  k_BadCoins_BadNumber : PySem.W.kitOne K (.ref (A 12)) (.ref (A 7)) = some false
  k_BadCoins_BadPurse : PySem.W.kitOne K (.ref (A 12)) (.ref (A 8)) = some false
  k_BadCoins_BadSpan : PySem.W.kitOne K (.ref (A 12)) (.ref (A 9)) = some false
  k_BadCoins_NoSystem : PySem.W.kitOne K (.ref (A 12)) (.ref (A 10)) = some false
  k_BadCoins_NotPayable : PySem.W.kitOne K (.ref (A 12)) (.ref (A 11)) = some false
  k_BadCoins_BadCoins : PySem.W.kitOne K (.ref (A 12)) (.ref (A 12)) = some true
  k_BadCoins_TooMany : PySem.W.kitOne K (.ref (A 12)) (.ref (A 13)) = some false
  x_TooMany : ExcD K (A 13)
  v_TooMany : PySem.W.kitOne K (.ref (A 13)) (.type "ValueError") = some true
  m_TooMany : PySem.W.exmOne K (.ref (A 13)) (.ref (A 6)) = some true
  f_TooMany : XfC K (A 13)
  k_TooMany_BadNumber : PySem.W.kitOne K (.ref (A 13)) (.ref (A 7)) = some false
  k_TooMany_BadPurse : PySem.W.kitOne K (.ref (A 13)) (.ref (A 8)) = some false
  k_TooMany_BadSpan : PySem.W.kitOne K (.ref (A 13)) (.ref (A 9)) = some false
  k_TooMany_NoSystem : PySem.W.kitOne K (.ref (A 13)) (.ref (A 10)) = some false
  k_TooMany_NotPayable : PySem.W.kitOne K (.ref (A 13)) (.ref (A 11)) = some false
  k_TooMany_BadCoins : PySem.W.kitOne K (.ref (A 13)) (.ref (A 12)) = some false
  k_TooMany_TooMany : PySem.W.kitOne K (.ref (A 13)) (.ref (A 13)) = some true
  d_is_integer : Def K mg "is_integer" s_is_integer (A 1) (FD 1) ["thing"]
  d_is_within : Def K mg "is_within" s_is_within (A 2) (FD 2) ["thing", "low", "high"]
  d_are_integers : Def K mg "are_integers" s_are_integers (A 3) (FD 3) ["thing"]
  d_is_rising : Def K mg "is_rising" s_is_rising (A 4) (FD 4) ["thing"]
  d_check_items : Def K mg "check_items" s_check_items (A 17) (FD 17) ["items"]
  d_fold_bits : Def K mg "fold_bits" s_fold_bits (A 18) (FD 18) ["items", "often"]
  d_check_fold : Def K mg "check_fold" s_check_fold (A 19) (FD 19) ["items", "often"]
  d_bits_on : Def K mg "bits_on" s_bits_on (A 20) (FD 20) ["told"]
  d_item_sums : Def K mg "item_sums" s_item_sums (A 21) (FD 21) ["items", "often"]
  d_item_sums_number : Def K mg "item_sums_number" s_item_sums_number (A 22) (FD 22) ["items", "often"]
  d_reach_of : Def K mg "reach_of" s_reach_of (A 23) (FD 23) ["items", "often"]
  d_reach : Def K mg "reach" s_reach (A 24) (FD 24) ["items", "often"]
  d_is_folded : Def K mg "is_folded" s_is_folded (A 25) (FD 25) ["items", "often", "number"]
  d_turned_items : Def K mg "turned_items" s_turned_items (A 26) (FD 26) ["items"]
  d_folded_sizes : Def K mg "folded_sizes" s_folded_sizes (A 27) (FD 27) ["items", "most"]
  d_next_fold : Def K mg "next_fold" s_next_fold (A 28) (FD 28) ["items", "told"]
  d__law_hand : Def K mg "_law_hand" s__law_hand (A 30) (FD 30) ["script"]
  d__law_draw : Def K mg "_law_draw" s__law_draw (A 31) (FD 31) ["hand", "many"]
  d__law_any : Def K mg "_law_any" s__law_any (A 32) (FD 32) ["hand", "some"]
  d__law_is : Def K mg "_law_is" s__law_is (A 33) (FD 33) ["answer", "due"]
  d__law_word : Def K mg "_law_word" s__law_word (A 34) (FD 34) ["call"]
  d__law_items : Def K mg "_law_items" s__law_items (A 35) (FD 35) ["hand", "top", "most_of"]
  d__law_sums : Def K mg "_law_sums" s__law_sums (A 36) (FD 36) ["items", "often"]
  d__law_no_items : Def K mg "_law_no_items" s__law_no_items (A 37) (FD 37) ["hand"]
  d__law_is_right : Def K mg "_law_is_right" s__law_is_right (A 38) (FD 38) ["hand", "items", "often"]
  d__law_are_refused_right : Def K mg "_law_are_refused_right" s__law_are_refused_right (A 39) (FD 39) ["hand"]
  d_law : Def K mg "law" s_law (A 40) (FD 40) ["script"]
theorem sci_BadCoins : FnScope ["self", "at"] ["self", "at"] (defScope (inClass (topS 12) 0)) := ⟨rfl, rfl, rfl, by decide +kernel, rfl, by decide +kernel, by decide +kernel⟩
theorem ini_BadCoins {P : Program} {w : World} {K : PySem.W.Frag} {mg : Str → Option Value} {base : Heap} {A AI : Nat → Addr} {FD : Nat → FuncData} (T : Txt K mg A AI FD) : FnOk P w K mg base CX0 1 (AI 12) (FD 12) ["self", "at"] (spIni (A 12) "at") :=
  okIni T.e_BadCoins.fn sci_BadCoins T.e_BadCoins.oex T.e_BadCoins.no fun cdv A outer s H E => pss_one (ps_ost (pv 0) (pv 1))
theorem sci_TooMany : FnScope ["self", "most"] ["self", "most"] (defScope (inClass (topS 13) 0)) := ⟨rfl, rfl, rfl, by decide +kernel, rfl, by decide +kernel, by decide +kernel⟩
theorem ini_TooMany {P : Program} {w : World} {K : PySem.W.Frag} {mg : Str → Option Value} {base : Heap} {A AI : Nat → Addr} {FD : Nat → FuncData} (T : Txt K mg A AI FD) : FnOk P w K mg base CX0 1 (AI 13) (FD 13) ["self", "most"] (spIni (A 13) "most") :=
  okIni T.e_TooMany.fn sci_TooMany T.e_TooMany.oex T.e_TooMany.no fun cdv A outer s H E => pss_one (ps_ost (pv 0) (pv 1))
end Pf
set_option Elab.async false
set_option linter.all false
set_option maxRecDepth 100000
set_option maxHeartbeats 1000000
namespace Pf
open PySem L2 RZ DL
local macro_rules | `(tactic| walk_at "d") => `(tactic| first
  | with_reducible refine sd_seq ?_
  | with_reducible refine sd_if ?_
  | with_reducible refine sd_ret ?_
  | with_reducible refine sd_asg ?_
  | with_reducible refine sd_next ?_
  | with_reducible refine sd_brk ?_
  | with_reducible refine sd_cont ?_
  | with_reducible refine sd_dropC ?_
  | with_reducible refine gd_name ?_
  | with_reducible refine gds_nil ?_
  | with_reducible refine gds_cons ?_
  | with_reducible refine gd_tup rfl rfl ?_
  | with_reducible refine ed_int ?_
  | with_reducible refine ed_bl ?_
  | with_reducible refine ed_str ?_
  | with_reducible refine ed_ty ?_
  | with_reducible refine ed_non ?_
  | with_reducible refine ed_ref ?_
  | ((with_reducible refine rd_catL ?hk ?hl ?_); (case hk => exact rfl); (case hl => exact (Nat.le_of_ble_eq_true rfl)))
  | ((with_reducible refine' cd_isD ?hk ?hh ?hc ?hD ?hkk ?hdd ?_); (case hk => exact rfl); (case hh => exact rfl); (case hc => exact rfl); (case hD => assumption); (case hkk => assumption); (case hdd => assumption))
  | ((with_reducible refine' cd_isDT ?hk ?hh ?hc ?hD ?hkk ?hdd ?_); (case hk => exact rfl); (case hh => exact rfl); (case hc => exact rfl); (case hD => assumption); (case hkk => assumption); (case hdd => assumption))
  | ((with_reducible refine' ed_var ?hv ?_); (case hv => exact rfl))
  | with_reducible refine ed_op ?_
  | with_reducible refine ed_un ?_
  | with_reducible refine rd_orN ?_
  | with_reducible refine rd_andN ?_
  | with_reducible refine rd_and1 ?_
  | with_reducible refine rd_shrN ?_
  | with_reducible refine rd_shr1 ?_
  | with_reducible refine rd_int ?_
  | with_reducible refine rd_bool ?_
  | with_reducible refine rd_mod (by first | assumption | decide) ?_
  | with_reducible refine rd_fdiv (by first | assumption | decide) ?_
  | with_reducible refine rd_mulR (by decide) ?_
  | with_reducible refine rd_mulL (by first | decide | assumption) ?_
  | with_reducible refine ud_int ?_
  | with_reducible refine rd_isN ?_
  | with_reducible refine rd_notN ?_
  | with_reducible refine rd_eq rfl ?_
  | with_reducible refine rd_ne rfl ?_
  | with_reducible refine td_test ?_
  | with_reducible refine td_B ?_
  | with_reducible refine td_not ?_
  | with_reducible refine td_and ?_
  | with_reducible refine td_or ?_
  | with_reducible refine td_yes ?_
  | with_reducible refine ed_andV ?_
  | with_reducible refine ed_orV ?_
  | with_reducible refine ed_notV ?_
  | with_reducible refine ed_if ?_
  | with_reducible refine ed_chain ?_
  | with_reducible refine ed_isTL rfl ?_
  | ((with_reducible refine And.intro (show okD _ from ?hok) ?_); (case hok => first | assumption | exact rfl))
  | with_reducible refine ed_cb ?_
  | with_reducible refine ad_nil ?_
  | with_reducible refine ad_cons ?_
  | ((with_reducible refine ed_tup ?_))
  | ((with_reducible refine ed_lst ?_))
  | with_reducible refine ed_dnew ?_
  | with_reducible refine And.intro (show List.length (_ :: _) ≤ 100000 from Nat.le_of_ble_eq_true rfl) ?_
  | with_reducible refine od_none ?_
  | with_reducible refine od_some ?_
  | with_reducible refine ed_slL rfl ?_
  | with_reducible refine ed_slT rfl ?_
  | with_reducible refine id_list rfl ?_
  | with_reducible refine id_tup rfl ?_
  | ((with_reducible refine cd_isInt rfl ?hok ?_); (case hok => first | assumption | exact rfl))
  | ((with_reducible refine cd_isBool rfl ?hok ?_); (case hok => first | assumption | exact rfl))
  | ((with_reducible refine cd_isStr rfl ?hok ?_); (case hok => first | assumption | exact rfl))
  | ((with_reducible refine cd_isTup rfl ?hok ?_); (case hok => first | assumption | exact rfl))
  | ((with_reducible refine cd_isLst rfl ?hok ?_); (case hok => first | assumption | exact rfl))
  | ((with_reducible refine' cd_len ?hk ?ha ?_); (case hk => exact rfl); (case ha => exact rfl))
  | ((with_reducible refine' cd_tup ?hk ?ha ?_); (case hk => exact rfl); (case ha => exact rfl))
  | with_reducible refine cd_abs ?_
  | with_reducible refine cd_int ?_
  | ((with_reducible refine ed_callP rfl ?_))
  | ((with_reducible refine ed_callE (by assumption) rfl ?_))
  | ((with_reducible refine ed_callX rfl ?_))
  | ((with_reducible refine ed_callH rfl ?_))
  | (show asB (D.bl _) _; dsimp only [asB])
  | (show asI (D.int _) _; dsimp only [asI])
  | (show asU (D.tup _) _; dsimp only [asU])
  | (show asL (D.lst _) _; dsimp only [asL])
  | with_reducible refine isT_t ?_
  | with_reducible refine isT_f ?_)
local macro_rules | `(tactic| walk_at "dd") => `(tactic| (repeat (walk_at "d")))
local macro_rules | `(tactic| walk_at "v") => `(tactic| (repeat (first | walk_at "d" | (refine isT_val (c := true) rfl (isT_t ?_)) | (refine isT_val (c := false) rfl (isT_f ?_)))))

def isIntD : D → Bool
  | .int _ => true
  | _ => false
section
variable {P : Program} {w : World} {K : PySem.W.Frag} {mg : Str → Option Value} {base : Heap} {A AI : Nat → Addr} {FD : Nat → FuncData}
abbrev sp_is_integer (K : PySem.W.Frag) : Sp := SpP K (fun d : D => [d]) okD fun d r => r = .bl (isIntD d)
theorem ok_is_integer (T : Txt K mg A AI FD) : FnOk P w K mg base CX0 1 (A 1) (FD 1) ["thing"] (sp_is_integer K) := by
  refine okP T.d_is_integer sc_is_integer (fun _ => rfl) (fun cdv Ar outer s H E hr => ⟨_, (pss_one (ps_ret (pe_and (pb T.blt (call_isiK1 K) (by decide +kernel) (pa_cons (pv 0) (pa_cons (pty T.blt PyProof.Rows.boot_int) pa_nil))) (pe_one (pe_not (pb T.blt (call_isiK1 K) (by decide +kernel) (pa_cons (pv 0) (pa_cons (pty T.blt PyProof.Rows.boot_bool) pa_nil)))))))), ?_⟩)
  intro d F0 H0 hd
  show SD _ _ [some _] [] _ _ _ _
  walk_at "dd"
  refine isT_of (fun h => ?_) (fun h => ?_)
  · walk_at "dd"
    cases d <;> first | rfl | cases h
  · cases d <;> first | rfl | cases h
def withinD (d : D) (lo hi : Int) : Bool := match d with
  | .int i => decide (lo ≤ i) && decide (i ≤ hi)
  | _ => false
abbrev sp_is_within (K : PySem.W.Frag) : Sp := SpP K (fun a : D × Int × Int => [a.1, .int a.2.1, .int a.2.2]) (fun a => okD a.1) fun a r => r = .bl (withinD a.1 a.2.1 a.2.2)
theorem ok_is_within (T : Txt K mg A AI FD) : FnOk P w K mg base CX0 2 (A 2) (FD 2) ["thing", "low", "high"] (sp_is_within K) := by
  have G_is_integer : FnOk P w K mg base CX0 1 (A 1) (FD 1) ["thing"] (sp_is_integer K) := ok_is_integer T
  refine okP T.d_is_within sc_is_within (fun _ => rfl) (fun cdv Ar outer s H E hr => ⟨_, (pss_one (ps_ret (pe_and (pc0 T.d_is_integer G_is_integer (hr.mono (by first | decide | exact Nat.le_refl _)) (pa_cons (pv 0) pa_nil)) (pe_one (pe_chain op_le op_le (pv 1) (pv 0) (pv 2)))))), ?_⟩)
  rintro ⟨d, lo, hi⟩ F0 H0 hd
  show SD _ _ [some _, some _, some _] [] _ _ _ _
  walk_at "dd"
  refine ⟨d, rfl, hd, ?_⟩
  rintro _ rfl
  walk_at "dd"
  refine isT_of (fun h => ?_) (fun h => ?_)
  · cases d <;> first | cases h | skip
    walk_at "dd"
    refine isT_of (fun h => ?_) (fun h => ?_)
    · walk_at "dd"
      simp only [withinD, h, Bool.true_and]
    · simp only [withinD, h, Bool.false_and]
  · cases d <;> first | rfl | cases h
def areIntsD : D → Bool
  | .tup l => l.all isIntD
  | _ => false
theorem all_map_bl (f : D → Bool) (l : List D) : l.map (fun d => D.bl (f d)) = (l.map f).map D.bl := by rw [List.map_map]; rfl
theorem all_id (f : D → Bool) (l : List D) : (l.map f).all id = l.all f := by rw [List.all_map]; rfl
abbrev sp_are_integers (K : PySem.W.Frag) : Sp := SpP K (fun d : D => [d]) (fun d => okD d ∧ ∀ l, d = .tup l → l.length ≤ 100000 ∧ ∀ y ∈ l, okD y) fun d r => r = .bl (areIntsD d)
theorem ok_are_integers (T : Txt K mg A AI FD) : FnOk P w K mg base CX0 2 (A 3) (FD 3) ["thing"] (sp_are_integers K) := by
  have G_is_integer : FnOk P w K mg base CX0 1 (A 1) (FD 1) ["thing"] (sp_is_integer K) := ok_is_integer T
  refine okP T.d_are_integers sc_are_integers (fun _ => rfl) (fun cdv Ar outer s H E hr => ⟨_, (pss_one (ps_ret (pe_and (pb T.blt (call_isiK1 K) (by decide +kernel) (pa_cons (pv 0) (pa_cons (pty T.blt PyProof.Rows.boot_tuple) pa_nil))) (pe_one (pb T.blt (cr_allK K) (by decide +kernel) (pa_cons (pe_lc (own := [("item", 1)]) (g := gName 1) (tt := tYes) rfl sc_are_integers.nd (pi_tupK K (pv 0)) (blkOk_by (own := [("item", 1)]) (N := N_are_integers) (sc := defScope s_are_integers) (by decide +kernel)) (fun _ _ _ _ _ => pg_name (i := 1) sc_are_integers.nd rfl (Or.inl rfl)) (fun _ _ _ _ _ => pts_nil) (fun _ _ _ _ _ => (pc0 T.d_is_integer G_is_integer (hr.mono (by first | decide | exact Nat.le_refl _)) (pa_cons (pv 1) pa_nil)))) pa_nil)))))), ?_⟩)
  rintro d F0 H0 ⟨hd, hl⟩
  show SD _ _ [some _, none] [] _ _ _ _
  walk_at "dd"
  refine isT_of (fun h => ?_) (fun h => ?_)
  · cases d <;> first | cases h | skip
    rename_i l
    obtain ⟨h1, h2⟩ := hl l rfl
    walk_at "dd"
    refine ed_map (gown_name 1) (fun d => .bl (isIntD d)) ?_
    walk_at "dd"
    refine ⟨h1, fun i y hy => ?_, ?_⟩
    · walk_at "dd"
      refine ⟨y, rfl, h2 y (List.mem_of_getElem? hy), ?_⟩
      rintro _ rfl
      exact ⟨rfl, rfl⟩
    · walk_at "dd"
      rw [all_map_bl]
      refine cd_all rfl ?_
      rw [all_id]
      rfl
  · cases d <;> first | rfl | cases h
def toI : D → Int
  | .int i => i
  | _ => 0
theorem ints_of : ∀ {l : List D}, l.all isIntD = true → l = (l.map toI).map D.int
  | [], _ => rfl
  | d :: r, h => by
    rw [List.all_cons, Bool.and_eq_true] at h
    have ih := ints_of h.2
    cases d <;> first | cases h.1 | skip
    simp only [List.map_cons, toI]
    rw [← ih]
theorem okD_ints {ns : List Int} : ∀ y ∈ ns.map D.int, okD y := fun y hy => by
  obtain ⟨n, _, rfl⟩ := List.mem_map.mp hy
  rfl
theorem cut1 (l : List D) : cutD l (some 1) none = l.drop 1 := by
  unfold cutD
  have e : HT.sIx l.length 0 (some 1) = min 1 l.length := HT.sIx_nat _ _ 1
  rw [e]
  show (l.drop (min 1 l.length)).take (l.length - min 1 l.length) = l.drop 1
  by_cases h : 1 ≤ l.length
  · rw [Nat.min_eq_left h]
    apply List.take_of_length_le
    rw [List.length_drop]
    omega
  · have e : l = [] := by cases l with
      | nil => rfl
      | cons a r => simp at h
    subst e
    rfl
def risingI (ns : List Int) : Bool := (ns.zip (ns.drop 1)).all fun p => decide (p.1 < p.2)
def risingD : D → Bool
  | .tup l => l.all isIntD && risingI (l.map toI)
  | _ => false
theorem zipD_ints (a b : List Int) : zipD (a.map D.int) (b.map D.int) = (a.zip b).map fun p => D.tup [.int p.1, .int p.2] := by
  unfold zipD
  rw [List.zipWith_map, List.zip, List.map_zipWith]
abbrev sp_is_rising (K : PySem.W.Frag) : Sp := SpP K (fun d : D => [d]) (fun d => okD d ∧ ∀ l, d = .tup l → l.length ≤ 100000 ∧ ∀ y ∈ l, okD y) fun d r => r = .bl (risingD d)
theorem ok_is_rising (T : Txt K mg A AI FD) : FnOk P w K mg base CX0 3 (A 4) (FD 4) ["thing"] (sp_is_rising K) := by
  have G_are_integers : FnOk P w K mg base CX0 2 (A 3) (FD 3) ["thing"] (sp_are_integers K) := ok_are_integers T
  refine okP T.d_is_rising sc_is_rising (fun _ => rfl) (fun cdv Ar outer s H E hr => ⟨_, (pss_cons (ps_if (pt_not (pt_val (pc0 T.d_are_integers G_are_integers (hr.mono (by first | decide | exact Nat.le_refl _)) (pa_cons (pv 0) pa_nil)))) (pss_one (ps_ret pe_bl)) pss_nil)
      (pss_one (ps_ret (pb T.blt (cr_allK K) (by decide +kernel) (pa_cons (pe_lc (own := [("one", 1), ("other", 2)]) (g := gTup K 2 (gCons (gName 1) (gCons (gName 2) gNil))) (tt := tYes) rfl sc_is_rising.nd (pi_zipA rfl (T.blt "zip" (by decide)) (pa_cons (pv 0) (pa_cons (pe_slice (sl_tupK K) (pv 0) (po_some pe_int) po_none) pa_nil))) (blkOk_by (own := [("one", 1), ("other", 2)]) (N := N_is_rising) (sc := defScope s_is_rising) (by decide +kernel)) (fun _ _ _ _ _ => pg_tup rfl (pgs_cons (pg_name (i := 1) sc_is_rising.nd rfl (Or.inl rfl)) (pgs_cons (pg_name (i := 2) sc_is_rising.nd rfl (Or.inl rfl)) pgs_nil))) (fun _ _ _ _ _ => pts_nil) (fun _ _ _ _ _ => (pe_cmpR op_lt (pv 1) (pv 2) (nomark _)))) pa_nil))))), ?_⟩)
  rintro d F0 H0 ⟨hd, hl⟩
  show SD _ _ [some _, none, none] [] _ _ _ _
  walk_at "dd"
  refine ⟨d, rfl, ⟨hd, hl⟩, ?_⟩
  rintro _ rfl
  walk_at "dd"
  refine isT_of (fun h => ?_) (fun h => ?_)
  · walk_at "dd"
    cases d <;> first | rfl | skip
    rename_i l
    have e : l.all isIntD = false := by simpa [areIntsD] using h
    simp [risingD, e]
  · cases d <;> first | cases h | skip
    rename_i l
    obtain ⟨h1, h2⟩ := hl l rfl
    have e : l.all isIntD = true := by simpa [areIntsD] using h
    have el := ints_of e
    generalize hns : l.map toI = ns at el
    subst el
    walk_at "dd"
    refine ed_map (gown_two K 1 2 (by decide)) (fun y => match y with | .tup [.int a, .int b] => .bl (decide (a < b)) | _ => .non) ?_
    refine id_zip rfl ?_
    walk_at "dd"
    refine ⟨_, _, _, _, rfl, rfl, ?_⟩
    rw [cut1, ← List.map_drop, zipD_ints]
    refine ⟨by rw [List.length_map, List.length_zip]; rw [List.length_map] at h1; omega, fun i y hy => ?_, ?_⟩
    · rw [List.getElem?_map] at hy
      cases q : (ns.zip (ns.drop 1))[i]? with
      | none => rw [q] at hy; cases hy
      | some p =>
        rw [q] at hy
        cases hy
        walk_at "dd"
        exact ⟨rfl, rfl⟩
    · walk_at "dd"
      rw [List.map_map]
      have e2 : (ns.zip (ns.drop 1)).map ((fun y => match y with | D.tup [.int a, .int b] => D.bl (decide (a < b)) | _ => .non) ∘ fun p => D.tup [.int p.1, .int p.2]) = ((ns.zip (ns.drop 1)).map fun p => decide (p.1 < p.2)).map D.bl := by
        rw [List.map_map]
        rfl
      rw [e2]
      refine cd_all rfl ?_
      rw [List.all_map]
      show D.bl (risingI ns) = D.bl (((ns.map D.int).all isIntD) && risingI ((ns.map D.int).map toI))
      rw [e, hns, Bool.true_and]
end
end Pf
set_option Elab.async false
set_option linter.all false
set_option maxRecDepth 100000
set_option maxHeartbeats 1000000
namespace Pf
open PySem L2 RZ DL M45
local macro_rules | `(tactic| walk_at "d") => `(tactic| first
  | with_reducible refine sd_seq ?_
  | with_reducible refine sd_if ?_
  | with_reducible refine sd_ret ?_
  | with_reducible refine sd_asg ?_
  | with_reducible refine sd_next ?_
  | with_reducible refine sd_brk ?_
  | with_reducible refine sd_cont ?_
  | with_reducible refine sd_dropC ?_
  | with_reducible refine gd_name ?_
  | with_reducible refine gds_nil ?_
  | with_reducible refine gds_cons ?_
  | with_reducible refine gd_tup rfl rfl ?_
  | with_reducible refine ed_int ?_
  | with_reducible refine ed_bl ?_
  | with_reducible refine ed_str ?_
  | with_reducible refine ed_ty ?_
  | with_reducible refine ed_non ?_
  | with_reducible refine ed_ref ?_
  | ((with_reducible refine rd_catL ?hk ?hl ?_); (case hk => exact rfl); (case hl => exact (Nat.le_of_ble_eq_true rfl)))
  | ((with_reducible refine' cd_isD ?hk ?hh ?hc ?hD ?hkk ?hdd ?_); (case hk => exact rfl); (case hh => exact rfl); (case hc => exact rfl); (case hD => assumption); (case hkk => assumption); (case hdd => assumption))
  | ((with_reducible refine' cd_isDT ?hk ?hh ?hc ?hD ?hkk ?hdd ?_); (case hk => exact rfl); (case hh => exact rfl); (case hc => exact rfl); (case hD => assumption); (case hkk => assumption); (case hdd => assumption))
  | ((with_reducible refine' ed_var ?hv ?_); (case hv => exact rfl))
  | with_reducible refine ed_op ?_
  | with_reducible refine ed_un ?_
  | with_reducible refine rd_orN ?_
  | with_reducible refine rd_andN ?_
  | with_reducible refine rd_and1 ?_
  | with_reducible refine rd_shrN ?_
  | with_reducible refine rd_shr1 ?_
  | with_reducible refine rd_int ?_
  | with_reducible refine rd_bool ?_
  | with_reducible refine rd_mod (by first | assumption | decide) ?_
  | with_reducible refine rd_fdiv (by first | assumption | decide) ?_
  | with_reducible refine rd_mulR (by decide) ?_
  | with_reducible refine rd_mulL (by first | decide | assumption) ?_
  | with_reducible refine ud_int ?_
  | with_reducible refine rd_isN ?_
  | with_reducible refine rd_notN ?_
  | with_reducible refine rd_eq rfl ?_
  | with_reducible refine rd_ne rfl ?_
  | with_reducible refine td_test ?_
  | with_reducible refine td_B ?_
  | with_reducible refine td_not ?_
  | with_reducible refine td_and ?_
  | with_reducible refine td_or ?_
  | with_reducible refine td_yes ?_
  | with_reducible refine ed_andV ?_
  | with_reducible refine ed_orV ?_
  | with_reducible refine ed_notV ?_
  | with_reducible refine ed_if ?_
  | with_reducible refine ed_chain ?_
  | with_reducible refine ed_isTL rfl ?_
  | ((with_reducible refine And.intro (show okD _ from ?hok) ?_); (case hok => first | assumption | exact rfl))
  | with_reducible refine ed_cb ?_
  | with_reducible refine ad_nil ?_
  | with_reducible refine ad_cons ?_
  | ((with_reducible refine ed_tup ?_))
  | ((with_reducible refine ed_lst ?_))
  | with_reducible refine ed_dnew ?_
  | with_reducible refine And.intro (show List.length (_ :: _) ≤ 100000 from Nat.le_of_ble_eq_true rfl) ?_
  | with_reducible refine od_none ?_
  | with_reducible refine od_some ?_
  | with_reducible refine ed_slL rfl ?_
  | with_reducible refine ed_slT rfl ?_
  | with_reducible refine id_list rfl ?_
  | with_reducible refine id_tup rfl ?_
  | ((with_reducible refine cd_isInt rfl ?hok ?_); (case hok => first | assumption | exact rfl))
  | ((with_reducible refine cd_isBool rfl ?hok ?_); (case hok => first | assumption | exact rfl))
  | ((with_reducible refine cd_isStr rfl ?hok ?_); (case hok => first | assumption | exact rfl))
  | ((with_reducible refine cd_isTup rfl ?hok ?_); (case hok => first | assumption | exact rfl))
  | ((with_reducible refine cd_isLst rfl ?hok ?_); (case hok => first | assumption | exact rfl))
  | ((with_reducible refine' cd_len ?hk ?ha ?_); (case hk => exact rfl); (case ha => exact rfl))
  | ((with_reducible refine' cd_tup ?hk ?ha ?_); (case hk => exact rfl); (case ha => exact rfl))
  | with_reducible refine cd_abs ?_
  | with_reducible refine cd_int ?_
  | ((with_reducible refine ed_callP rfl ?_))
  | ((with_reducible refine ed_callE (by assumption) rfl ?_))
  | ((with_reducible refine ed_callX rfl ?_))
  | ((with_reducible refine ed_callH rfl ?_))
  | (show asB (D.bl _) _; dsimp only [asB])
  | (show asI (D.int _) _; dsimp only [asI])
  | (show asU (D.tup _) _; dsimp only [asU])
  | (show asL (D.lst _) _; dsimp only [asL])
  | with_reducible refine isT_t ?_
  | with_reducible refine isT_f ?_)
local macro_rules | `(tactic| walk_at "dd") => `(tactic| (repeat (walk_at "d")))
local macro_rules | `(tactic| walk_at "v") => `(tactic| (repeat (first | walk_at "d" | (refine isT_val (c := true) rfl (isT_t ?_)) | (refine isT_val (c := false) rfl (isT_f ?_)))))

section
variable {P : Program} {w : World} {K : PySem.W.Frag} {mg : Str → Option Value} {base : Heap} {A AI : Nat → Addr} {FD : Nat → FuncData}
abbrev tupN (ns : List Nat) : D := .tup (ns.map nI)
theorem getN {ns : List Nat} {i : Nat} {y : D} (h : (ns.map nI)[i]? = some y) : ∃ n, ns[i]? = some n ∧ y = nI n := by
  rw [List.getElem?_map] at h
  cases q : ns[i]? with
  | none => rw [q] at h; cases h
  | some n =>
    rw [q] at h
    exact ⟨n, rfl, (Option.some.inj h).symm⟩
theorem foldl_snoc {α β : Type} (f : α → β → α) (a : α) {l : List β} {i : Nat} {y : β} (h : l[i]? = some y) : (l.take (i + 1)).foldl f a = f ((l.take i).foldl f a) y := by
  obtain ⟨hl, e⟩ := List.getElem?_eq_some_iff.mp h
  rw [List.take_add_one, h, List.foldl_append]
  rfl
abbrev sp_next_fold (K : PySem.W.Frag) : Sp := SpP K (fun a : List Nat × Nat × Nat => [tupN a.1, nI a.2.1]) (fun a => (∀ i ∈ a.1, i ≤ 1000) ∧ a.2.1 < 2 ^ a.2.2 ∧ a.2.2 ≤ 1000000) fun a r => r = nI (nextB a.1 a.2.1)
theorem ok_next_fold (T : Txt K mg A AI FD) : FnOk P w K mg base CX0 1 (A 28) (FD 28) ["items", "told"] (sp_next_fold K) := by
  refine okP T.d_next_fold sc_next_fold (fun _ => rfl) (fun cdv Ar outer s H E hr => ⟨_, (pss_cons (ps_set (i := 2) sc_next_fold.nd rfl (Or.inl rfl) pe_int)
      (pss_cons (ps_for PassesOwn.never rfl (pi_tupK K (pv 0)) (pg_name (i := 3) sc_next_fold.nd rfl (Or.inl rfl)) (pss_one (ps_set (i := 2) sc_next_fold.nd rfl (Or.inl rfl) (pe_op op_or (pv 2) (pe_op op_shlW (pv 1) (pv 3))))))
      (pss_one (ps_ret (pv 2))))), ?_⟩)
  rintro ⟨items, told, b⟩ F0 H0 ⟨h1, h2, h3⟩
  show SD _ _ [some _, some _, none, none] [] _ _ _ _
  walk_at "dd"
  refine sd_for (fun k ds μ => ∃ it, ds = [some (tupN items), some (nI told), some (nI ((items.take k).foldl (fun acc i => acc ||| (told <<< i)) 0)), it] ∧ μ = []) ?_
  walk_at "dd"
  refine ⟨⟨_, rfl, rfl⟩, ?_, ?_⟩
  · rintro i y ds μ hy ⟨it, rfl, rfl⟩
    obtain ⟨n, hn, rfl⟩ := getN hy
    walk_at "dd"
    refine rd_shlN h2 (by have := h1 n (List.mem_of_getElem? hn); omega) ?_
    walk_at "dd"
    rw [foldl_snoc _ _ hn]
    exact ⟨_, rfl, rfl⟩
  · rintro ds μ ⟨it, rfl, rfl⟩
    walk_at "dd"
    rw [List.length_map, List.take_length]
    rfl
abbrev sp_fold_bits (K : PySem.W.Frag) : Sp := SpP K (fun a : List Nat × Nat => [tupN a.1, nI a.2]) (fun a => (∀ i ∈ a.1, i ≤ 1000) ∧ a.2 ≤ 200) fun a r => r = nI (foldB a.1 a.2)
theorem ok_fold_bits (T : Txt K mg A AI FD) : FnOk P w K mg base CX0 1 (A 18) (FD 18) ["items", "often"] (sp_fold_bits K) := by
  refine okP T.d_fold_bits sc_fold_bits (fun _ => rfl) (fun cdv Ar outer s H E hr => ⟨_, (pss_cons (ps_set (i := 2) sc_fold_bits.nd rfl (Or.inl rfl) pe_int)
      (pss_cons (ps_for PassesOwn.never rfl (pi_range1 rfl (T.blt "range" (by decide)) (pa_cons (pv 1) pa_nil)) (pg_name (i := 3) sc_fold_bits.nd rfl (Or.inl rfl)) (pss_cons (ps_set (i := 4) sc_fold_bits.nd rfl (Or.inl rfl) pe_int)
      (pss_cons (ps_for PassesOwn.never rfl (pi_tupK K (pv 0)) (pg_name (i := 5) sc_fold_bits.nd rfl (Or.inl rfl)) (pss_one (ps_set (i := 4) sc_fold_bits.nd rfl (Or.inl rfl) (pe_op op_or (pv 4) (pe_op op_shlW (pv 2) (pv 5))))))
      (pss_one (ps_set (i := 2) sc_fold_bits.nd rfl (Or.inl rfl) (pv 4))))))
      (pss_one (ps_ret (pv 2))))), ?_⟩)
  rintro ⟨items, often⟩ F0 H0 ⟨h1, h2⟩
  show SD _ _ [some _, some _, none, none, none, none] [] _ _ _ _
  walk_at "dd"
  refine sd_for (fun k ds μ => ∃ t l it, ds = [some (tupN items), some (nI often), some (nI (foldB items k)), t, l, it] ∧ μ = []) ?_
  refine id_rng1 ?_
  walk_at "dd"
  refine ⟨_, rfl, by omega, by omega, ⟨_, _, _, rfl, rfl⟩, ?_, ?_⟩
  · rintro k y ds μ hy ⟨t, l, it, rfl, rfl⟩
    have hk : k < often := by
      have := (List.getElem?_eq_some_iff.mp hy).1
      rw [rangeD_len] at this
      omega
    walk_at "dd"
    refine sd_for (fun j ds μ => ∃ it, ds = [some (tupN items), some (nI often), some (nI (foldB items k)), some y, some (nI ((items.take j).foldl (fun acc i => acc ||| (foldB items k <<< i)) 0)), it] ∧ μ = []) ?_
    walk_at "dd"
    refine ⟨⟨_, rfl, rfl⟩, ?_, ?_⟩
    · rintro i z ds μ hz ⟨it, rfl, rfl⟩
      obtain ⟨n, hn, rfl⟩ := getN hz
      walk_at "dd"
      refine rd_shlN (foldB_lt h1 k) (by
        have := h1 n (List.mem_of_getElem? hn)
        have : 1000 * k ≤ 1000 * 200 := Nat.mul_le_mul_left _ (by omega)
        omega) ?_
      walk_at "dd"
      rw [foldl_snoc _ _ hn]
      exact ⟨_, rfl, rfl⟩
    · rintro ds μ ⟨it, rfl, rfl⟩
      walk_at "dd"
      rw [List.length_map, List.take_length]
      exact ⟨_, _, _, rfl, rfl⟩
  · rintro ds μ ⟨t, l, it, rfl, rfl⟩
    walk_at "dd"
    rw [rangeD_len]
    rfl
abbrev sp_bits_on (K : PySem.W.Frag) : Sp := SpP K (fun a : Nat × Nat => [nI a.1]) (fun a => a.1 < 2 ^ a.2 ∧ a.2 ≤ 100000) fun a r => r = .lst ((bitsOn a.1).map nI)
theorem ok_bits_on (T : Txt K mg A AI FD) : FnOk P w K mg base CX0 1 (A 20) (FD 20) ["told"] (sp_bits_on K) := by
  refine okP T.d_bits_on sc_bits_on (fun _ => rfl) (fun cdv Ar outer s H E hr => ⟨_, (pss_cons (ps_par (i := 1) (j := 2) (by rfl) sc_bits_on.nd rfl rfl (by decide) rfl rfl (pa_cons (pe_lst pa_nil) (pa_cons pe_int pa_nil)) (by rfl))
      (pss_cons (ps_while PassesOwn.never (pt_cmpR op_gt (pv 0) pe_int (nomark _)) (pss_cons (ps_if (pt_cmpR op_eq (pe_op op_and (pv 0) pe_int) pe_int (nomark _)) (pss_one (ps_expr (pe_bm PySem.F.plainAttrs_list PySem.F.slot_list_append PySem.F.type_list_append mt_append (pv 1) (pa_cons (pv 2) pa_nil)))) pss_nil)
      (pss_cons (ps_set (i := 0) sc_bits_on.nd rfl (Or.inl rfl) (pe_op op_shr (pv 0) pe_int))
      (pss_one (ps_set (i := 2) sc_bits_on.nd rfl (Or.inl rfl) (pe_op op_add (pv 2) pe_int))))))
      (pss_one (ps_ret (pv 1))))), ?_⟩)
  rintro ⟨M, b⟩ F0 H0 ⟨h1, h2⟩
  show SD _ _ [some _, none, none] [] _ _ _ _
  walk_at "dd"
  refine sd_parL ?_
  walk_at "dd"
  refine ⟨by decide, fun p => ?_⟩
  walk_at "dd"
  refine sd_while (fun n ds μ => ∃ a, n = M >>> a ∧ a ≤ b ∧ ds = [some (nI (M >>> a)), some (.adr p), some (nI a)] ∧ μ = [(p, .lst ((bitsTo M a).map nI))]) M ⟨0, rfl, by omega, rfl, rfl⟩ ?_
  rintro n ds μ ⟨a, rfl, ha, rfl, rfl⟩
  walk_at "dd"
  refine isT_of (fun h => ?_) (fun h => ?_)
  · have pos : 0 < M >>> a := pos_of h
    have hab : a < b := by
      by_cases c : a < b
      · exact c
      · have : M < 2 ^ a := Nat.lt_of_lt_of_le h1 (Nat.pow_le_pow_right (by decide) (by omega))
        rw [Nat.shiftRight_eq_div_pow, Nat.div_eq_of_lt this] at pos
        exact absurd pos (Nat.lt_irrefl _)
    have less : M >>> (a + 1) < M >>> a := by
      rw [Nat.shiftRight_succ]
      exact Nat.div_lt_self pos (by decide)
    have lenb := bitsTo_len M a
    walk_at "dd"
    rw [shift_low]
    refine isT_of (fun h => ?_) (fun h => ?_)
    · have hb : M.testBit a = true := by
        cases q : M.testBit a with
        | true => rfl
        | false => rw [q] at h; cases h
      refine sd_append (j := 0) rfl rfl rfl ?_
      walk_at "dd"
      refine ⟨_, rfl, by rw [List.length_map]; omega, ?_⟩
      walk_at "dd"
      refine ⟨_, less, a + 1, rfl, by omega, rfl, ?_⟩
      rw [bitsTo_succ, if_pos hb, List.map_append]
      rfl
    · have hb : ¬ M.testBit a = true := fun q => by
        rw [if_pos q] at h
        cases h
      walk_at "dd"
      refine ⟨_, less, a + 1, rfl, by omega, rfl, ?_⟩
      rw [bitsTo_succ, if_neg hb]
  · have z : M >>> a = 0 := not_pos_of h
    refine sd_freeze (i := 1) (j := 0) rfl rfl ?_
    walk_at "dd"
    have : M < 2 ^ a := by
      rw [Nat.shiftRight_eq_div_pow] at z
      rcases Nat.div_eq_zero_iff.mp z with q | q
      · have := Nat.two_pow_pos a
        omega
      · exact q
    rw [bits_same this]
    rfl
end
end Pf
set_option Elab.async false
set_option linter.all false
set_option maxRecDepth 100000
set_option maxHeartbeats 1000000
namespace Pf
open PySem L2 RZ DL M45
local macro_rules | `(tactic| walk_at "d") => `(tactic| first
  | with_reducible refine sd_seq ?_
  | with_reducible refine sd_if ?_
  | with_reducible refine sd_ret ?_
  | with_reducible refine sd_asg ?_
  | with_reducible refine sd_next ?_
  | with_reducible refine sd_brk ?_
  | with_reducible refine sd_cont ?_
  | with_reducible refine sd_dropC ?_
  | with_reducible refine gd_name ?_
  | with_reducible refine gds_nil ?_
  | with_reducible refine gds_cons ?_
  | with_reducible refine gd_tup rfl rfl ?_
  | with_reducible refine ed_int ?_
  | with_reducible refine ed_bl ?_
  | with_reducible refine ed_str ?_
  | with_reducible refine ed_ty ?_
  | with_reducible refine ed_non ?_
  | with_reducible refine ed_ref ?_
  | ((with_reducible refine rd_catL ?hk ?hl ?_); (case hk => exact rfl); (case hl => exact (Nat.le_of_ble_eq_true rfl)))
  | ((with_reducible refine' cd_isD ?hk ?hh ?hc ?hD ?hkk ?hdd ?_); (case hk => exact rfl); (case hh => exact rfl); (case hc => exact rfl); (case hD => assumption); (case hkk => assumption); (case hdd => assumption))
  | ((with_reducible refine' cd_isDT ?hk ?hh ?hc ?hD ?hkk ?hdd ?_); (case hk => exact rfl); (case hh => exact rfl); (case hc => exact rfl); (case hD => assumption); (case hkk => assumption); (case hdd => assumption))
  | ((with_reducible refine' ed_var ?hv ?_); (case hv => exact rfl))
  | with_reducible refine ed_op ?_
  | with_reducible refine ed_un ?_
  | with_reducible refine rd_orN ?_
  | with_reducible refine rd_andN ?_
  | with_reducible refine rd_and1 ?_
  | with_reducible refine rd_shrN ?_
  | with_reducible refine rd_shr1 ?_
  | with_reducible refine rd_int ?_
  | with_reducible refine rd_bool ?_
  | with_reducible refine rd_mod (by first | assumption | decide) ?_
  | with_reducible refine rd_fdiv (by first | assumption | decide) ?_
  | with_reducible refine rd_mulR (by decide) ?_
  | with_reducible refine rd_mulL (by first | decide | assumption) ?_
  | with_reducible refine ud_int ?_
  | with_reducible refine rd_isN ?_
  | with_reducible refine rd_notN ?_
  | with_reducible refine rd_eq rfl ?_
  | with_reducible refine rd_ne rfl ?_
  | with_reducible refine td_test ?_
  | with_reducible refine td_B ?_
  | with_reducible refine td_not ?_
  | with_reducible refine td_and ?_
  | with_reducible refine td_or ?_
  | with_reducible refine td_yes ?_
  | with_reducible refine ed_andV ?_
  | with_reducible refine ed_orV ?_
  | with_reducible refine ed_notV ?_
  | with_reducible refine ed_if ?_
  | with_reducible refine ed_chain ?_
  | with_reducible refine ed_isTL rfl ?_
  | ((with_reducible refine And.intro (show okD _ from ?hok) ?_); (case hok => first | assumption | exact rfl))
  | with_reducible refine ed_cb ?_
  | with_reducible refine ad_nil ?_
  | with_reducible refine ad_cons ?_
  | ((with_reducible refine ed_tup ?_))
  | ((with_reducible refine ed_lst ?_))
  | with_reducible refine ed_dnew ?_
  | with_reducible refine And.intro (show List.length (_ :: _) ≤ 100000 from Nat.le_of_ble_eq_true rfl) ?_
  | with_reducible refine od_none ?_
  | with_reducible refine od_some ?_
  | with_reducible refine ed_slL rfl ?_
  | with_reducible refine ed_slT rfl ?_
  | with_reducible refine id_list rfl ?_
  | with_reducible refine id_tup rfl ?_
  | ((with_reducible refine cd_isInt rfl ?hok ?_); (case hok => first | assumption | exact rfl))
  | ((with_reducible refine cd_isBool rfl ?hok ?_); (case hok => first | assumption | exact rfl))
  | ((with_reducible refine cd_isStr rfl ?hok ?_); (case hok => first | assumption | exact rfl))
  | ((with_reducible refine cd_isTup rfl ?hok ?_); (case hok => first | assumption | exact rfl))
  | ((with_reducible refine cd_isLst rfl ?hok ?_); (case hok => first | assumption | exact rfl))
  | ((with_reducible refine' cd_len ?hk ?ha ?_); (case hk => exact rfl); (case ha => exact rfl))
  | ((with_reducible refine' cd_tup ?hk ?ha ?_); (case hk => exact rfl); (case ha => exact rfl))
  | with_reducible refine cd_abs ?_
  | with_reducible refine cd_int ?_
  | ((with_reducible refine ed_callP rfl ?_))
  | ((with_reducible refine ed_callE (by assumption) rfl ?_))
  | ((with_reducible refine ed_callX rfl ?_))
  | ((with_reducible refine ed_callH rfl ?_))
  | (show asB (D.bl _) _; dsimp only [asB])
  | (show asI (D.int _) _; dsimp only [asI])
  | (show asU (D.tup _) _; dsimp only [asU])
  | (show asL (D.lst _) _; dsimp only [asL])
  | with_reducible refine isT_t ?_
  | with_reducible refine isT_f ?_)
local macro_rules | `(tactic| walk_at "dd") => `(tactic| (repeat (walk_at "d")))
local macro_rules | `(tactic| walk_at "v") => `(tactic| (repeat (first | walk_at "d" | (refine isT_val (c := true) rfl (isT_t ?_)) | (refine isT_val (c := false) rfl (isT_f ?_)))))

/-! ### items that are taken -/
structure GoodN (items : List Nat) : Prop where
  le : ∀ i ∈ items, i ≤ 1000
  asc : items.Pairwise (· < ·)
  hd : items.head? = some 0
  two : 2 ≤ items.length
def lastOk (ns : List Int) : Bool := match ns.getLast? with
  | some z => decide (z ≤ 1000)
  | none => false
def goodI (ns : List Int) : Bool := risingI ns && decide (2 ≤ ns.length) && decide (ns.head? = some 0) && lastOk ns
def goodD : D → Bool
  | .tup l => l.all isIntD && goodI (l.map toI)
  | _ => false
theorem rising_cons (a b : Int) (r : List Int) : risingI (a :: b :: r) = (decide (a < b) && risingI (b :: r)) := rfl
theorem rising_iff : ∀ ns : List Int, risingI ns = true ↔ ns.Pairwise (· < ·)
  | [] => ⟨fun _ => .nil, fun _ => rfl⟩
  | [a] => ⟨fun _ => by simp, fun _ => rfl⟩
  | a :: b :: r => by
    rw [rising_cons, Bool.and_eq_true, decide_eq_true_eq, rising_iff (b :: r), List.pairwise_cons (a := a)]
    constructor
    · rintro ⟨h1, h2⟩
      refine ⟨fun x hx => ?_, h2⟩
      rcases List.mem_cons.mp hx with e | q
      · subst e
        exact h1
      · have := (List.pairwise_cons.mp h2).1 x q
        omega
    · rintro ⟨h1, h2⟩
      exact ⟨h1 b List.mem_cons_self, h2⟩
theorem last_max : ∀ {ns : List Int} {z : Int}, ns.Pairwise (· < ·) → ns.getLast? = some z → ∀ x ∈ ns, x ≤ z
  | [], _, _, h, _, _ => by cases h
  | [a], z, _, h, x, hx => by
    have e : a = z := Option.some.inj h
    rw [List.mem_singleton] at hx
    omega
  | a :: b :: r, z, hp, h, x, hx => by
    have h' : (b :: r).getLast? = some z := by
      rw [List.getLast?_cons_cons] at h
      exact h
    have ih := last_max (List.pairwise_cons.mp hp).2 h'
    rcases List.mem_cons.mp hx with e | q
    · subst e
      have h1 := (List.pairwise_cons.mp hp).1 b List.mem_cons_self
      have h2 := ih b List.mem_cons_self
      omega
    · exact ih x q
theorem map_toI_nI (items : List Nat) : (items.map nI).map toI = items.map fun n : Nat => (n : Int) := by rw [List.map_map]; rfl
theorem all_nI (items : List Nat) : (items.map nI).all isIntD = true := by
  rw [List.all_map, List.all_eq_true]
  intro x _
  rfl
theorem good_of {items : List Nat} (g : GoodN items) : goodD (tupN items) = true := by
  show ((items.map nI).all isIntD && goodI ((items.map nI).map toI)) = true
  rw [all_nI, map_toI_nI, Bool.true_and]
  unfold goodI
  simp only [Bool.and_eq_true, decide_eq_true_eq]
  refine ⟨⟨⟨(rising_iff _).mpr ?_, by rw [List.length_map]; exact g.two⟩, by rw [List.head?_map, g.hd]; rfl⟩, ?_⟩
  · rw [List.pairwise_map]
    exact g.asc.imp fun h => by omega
  · unfold lastOk
    rw [List.getLast?_map]
    cases h : items.getLast? with
    | none =>
      have := List.getLast?_eq_none_iff.mp h
      have h2 := g.two
      rw [this] at h2
      cases h2
    | some z =>
      have := g.le z (List.mem_of_getLast? h)
      show decide ((z : Int) ≤ 1000) = true
      exact decide_eq_true (by omega)
theorem good_nat {d : D} (h : goodD d = true) : ∃ items : List Nat, d = tupN items ∧ GoodN items := by
  cases d <;> first | cases h | skip
  rename_i l
  rw [show goodD (.tup l) = (l.all isIntD && goodI (l.map toI)) from rfl, Bool.and_eq_true] at h
  obtain ⟨h1, h2⟩ := h
  have el := ints_of h1
  generalize l.map toI = ns at el h2
  subst el
  unfold goodI at h2
  simp only [Bool.and_eq_true, decide_eq_true_eq] at h2
  obtain ⟨⟨⟨r1, r2⟩, r3⟩, r4⟩ := h2
  have hp := (rising_iff ns).mp r1
  obtain ⟨z, hz, z1⟩ : ∃ z, ns.getLast? = some z ∧ z ≤ 1000 := by
    unfold lastOk at r4
    split at r4
    · rename_i z hz
      exact ⟨z, hz, of_decide_eq_true r4⟩
    · cases r4
  have hi := last_max hp hz
  have lo : ∀ x ∈ ns, 0 ≤ x := by
    cases ns with
    | nil => cases r3
    | cons a r =>
      have e : a = 0 := Option.some.inj r3
      subst e
      intro x hx
      rcases List.mem_cons.mp hx with e | q
      · omega
      · have := (List.pairwise_cons.mp hp).1 x q
        omega
  refine ⟨ns.map Int.toNat, ?_, ?_⟩
  · show D.tup (ns.map D.int) = D.tup ((ns.map Int.toNat).map nI)
    rw [List.map_map]
    refine congrArg D.tup (List.map_congr_left fun x hx => ?_)
    show D.int x = D.int ((x.toNat : Nat) : Int)
    rw [Int.toNat_of_nonneg (lo x hx)]
  · refine ⟨fun i hi' => ?_, ?_, by rw [List.head?_map, r3]; rfl, by rw [List.length_map]; exact r2⟩
    · obtain ⟨x, hx, rfl⟩ := List.mem_map.mp hi'
      have := hi x hx
      omega
    · rw [List.pairwise_map]
      refine hp.imp_of_mem fun {a b} ha hb hab => ?_
      have := lo a ha
      omega
section
variable {P : Program} {w : World} {K : PySem.W.Frag} {mg : Str → Option Value} {base : Heap} {A AI : Nat → Addr} {FD : Nat → FuncData}
def domI (d : D) : Prop := okD d ∧ ∀ l, d = .tup l → l.length ≤ 100000 ∧ ∀ y ∈ l, okD y
def excI (A : Nat → Addr) (d : D) (cls : Value) (fo : Option (List (Str × V))) : Prop := goodD d = false ∧ cls = .ref (A 12) ∧ fo = some [(("at" : Str), V.int (-1))]
abbrev sp_check_items (K : PySem.W.Frag) (A : Nat → Addr) : Sp := SpX K (fun d : D => [d]) domI (fun d r => r = .non ∧ goodD d = true) (excI A)
theorem ok_check_items (T : Txt K mg A AI FD) : FnOk P w K mg base (L2.CX P w) 4 (A 17) (FD 17) ["items"] (sp_check_items K A) := by
  have G_is_rising : FnOk P w K mg base CX0 3 (A 4) (FD 4) ["thing"] (sp_is_rising K) := ok_is_rising T
  refine okX T.d_check_items sc_check_items (fun _ => rfl) (fun cdv Ar outer s H E hr => ⟨_, (pss_one (ps_if (PW.pt (pw_or (pt_not (pt_val (pc0 T.d_is_rising G_is_rising (hr.mono (by first | decide | exact Nat.le_refl _)) (pa_cons (pv 0) pa_nil)))) (pw_or (pt_cmpR op_lt (pb T.blt (call_lenK K) (by decide +kernel) (pa_cons (pv 0) pa_nil)) pe_int (nomark _)) (pw_or (pt_cmpR op_ne (pe_ix (ix_seqK K) (pv 0) pe_int (fun _ _ => rfl)) pe_int (nomark _)) (pw_or1 (pt_cmpR op_gt (pe_ix (ix_seqK K) (pv 0) (pe_un un_neg pe_int) (fun _ _ => rfl)) (pgc T.c_MOST_ITEM) (nomark _))))))) (pss_one (ps_rz1 T.e_BadCoins (ini_BadCoins T) (hr.mono (by decide)) (takes_of rfl rfl rfl rfl) (pa_cons (pe_un un_neg pe_int) pa_nil))) pss_nil)), ?_⟩)
  rintro d F0 H0 ⟨hd, hl⟩ hE
  show SD _ _ [some _] [] _ _ _ _
  walk_at "dd"
  refine ⟨d, rfl, ⟨hd, hl⟩, ?_⟩
  rintro _ rfl
  walk_at "dd"
  refine isT_of (fun h => ?_) (fun h => ?_)
  · walk_at "dd"
    refine sd_raise1 hE ?_
    walk_at "dd"
    refine ⟨_, rfl, rfl, ?_, rfl, rfl⟩
    cases d <;> first | rfl | skip
    rename_i l
    have : risingD (.tup l) = false := by simpa using h
    rw [show risingD (.tup l) = (l.all isIntD && risingI (l.map toI)) from rfl] at this
    show (l.all isIntD && goodI (l.map toI)) = false
    unfold goodI
    cases h1 : l.all isIntD with
    | false => rfl
    | true =>
      rw [h1, Bool.true_and] at this
      rw [this]
      rfl
  · have hr : risingD d = true := by simpa using h
    cases d <;> first | cases hr | skip
    rename_i l
    rw [show risingD (.tup l) = (l.all isIntD && risingI (l.map toI)) from rfl, Bool.and_eq_true] at hr
    obtain ⟨h1, h2⟩ := hr
    have el := ints_of h1
    have eg : goodD (.tup l) = goodI (l.map toI) := by
      show (l.all isIntD && goodI (l.map toI)) = _
      rw [h1, Bool.true_and]
    generalize hns : l.map toI = ns at el h2 eg
    subst el
    walk_at "dd"
    refine isT_of (fun h => ?_) (fun h => ?_)
    · walk_at "dd"
      refine sd_raise1 hE ?_
      walk_at "dd"
      refine ⟨_, rfl, rfl, ?_, rfl, rfl⟩
      have : ¬ 2 ≤ ns.length := by
        have := of_decide_eq_true h
        rw [List.length_map] at this
        omega
      rw [eg]
      unfold goodI
      rw [decide_eq_false this]
      simp
    · have hlen : 2 ≤ ns.length := by
        have := of_decide_eq_false h
        rw [List.length_map] at this
        omega
      obtain ⟨a, r, rfl⟩ : ∃ a r, ns = a :: r := by
        cases ns with
        | nil => simp at hlen
        | cons a r => exact ⟨a, r, rfl⟩
      walk_at "dd"
      refine rd_ix rfl rfl (atI_head (l := (a :: r).map D.int) (v := .int a) rfl) ?_
      walk_at "dd"
      refine isT_of (fun h => ?_) (fun h => ?_)
      · walk_at "dd"
        refine sd_raise1 hE ?_
        walk_at "dd"
        refine ⟨_, rfl, rfl, ?_, rfl, rfl⟩
        have : ¬ (a :: r).head? = some 0 := fun z => by
          have e : a = 0 := Option.some.inj z
          subst e
          cases h
        rw [eg]
        unfold goodI
        rw [decide_eq_false this]
        simp
      · have ha : a = 0 := by simpa [eqS] using h
        obtain ⟨z, hz⟩ : ∃ z, (a :: r).getLast? = some z := ⟨_, List.getLast?_eq_some_getLast (by simp)⟩
        walk_at "dd"
        refine rd_ix rfl rfl (atI_neg1 (l := (a :: r).map D.int) (v := .int z) (by rw [List.getLast?_map, hz]; rfl)) ?_
        walk_at "dd"
        refine isT_of (fun h => ?_) (fun h => ?_)
        · walk_at "dd"
          refine sd_raise1 hE ?_
          walk_at "dd"
          refine ⟨_, rfl, rfl, ?_, rfl, rfl⟩
          have : ¬ z ≤ 1000 := by
            have := of_decide_eq_true h
            omega
          rw [eg]
          unfold goodI lastOk
          rw [hz]
          show (_ && decide (z ≤ 1000)) = false
          rw [decide_eq_false this, Bool.and_false]
        · have hz1 := of_decide_eq_false h
          walk_at "dd"
          refine ⟨rfl, ?_⟩
          rw [eg]
          unfold goodI lastOk
          rw [hz, h2, decide_eq_true hlen, ha]
          simp only [List.head?_cons, decide_true, Bool.true_and]
          exact decide_eq_true (by omega)
end
end Pf
set_option Elab.async false
set_option linter.all false
set_option maxRecDepth 100000
set_option maxHeartbeats 1000000
namespace Pf
open PySem L2 RZ DL M45
local macro_rules | `(tactic| walk_at "d") => `(tactic| first
  | with_reducible refine sd_seq ?_
  | with_reducible refine sd_if ?_
  | with_reducible refine sd_ret ?_
  | with_reducible refine sd_asg ?_
  | with_reducible refine sd_next ?_
  | with_reducible refine sd_brk ?_
  | with_reducible refine sd_cont ?_
  | with_reducible refine sd_dropC ?_
  | with_reducible refine gd_name ?_
  | with_reducible refine gds_nil ?_
  | with_reducible refine gds_cons ?_
  | with_reducible refine gd_tup rfl rfl ?_
  | with_reducible refine ed_int ?_
  | with_reducible refine ed_bl ?_
  | with_reducible refine ed_str ?_
  | with_reducible refine ed_ty ?_
  | with_reducible refine ed_non ?_
  | with_reducible refine ed_ref ?_
  | ((with_reducible refine rd_catL ?hk ?hl ?_); (case hk => exact rfl); (case hl => exact (Nat.le_of_ble_eq_true rfl)))
  | ((with_reducible refine' cd_isD ?hk ?hh ?hc ?hD ?hkk ?hdd ?_); (case hk => exact rfl); (case hh => exact rfl); (case hc => exact rfl); (case hD => assumption); (case hkk => assumption); (case hdd => assumption))
  | ((with_reducible refine' cd_isDT ?hk ?hh ?hc ?hD ?hkk ?hdd ?_); (case hk => exact rfl); (case hh => exact rfl); (case hc => exact rfl); (case hD => assumption); (case hkk => assumption); (case hdd => assumption))
  | ((with_reducible refine' ed_var ?hv ?_); (case hv => exact rfl))
  | with_reducible refine ed_op ?_
  | with_reducible refine ed_un ?_
  | with_reducible refine rd_orN ?_
  | with_reducible refine rd_andN ?_
  | with_reducible refine rd_and1 ?_
  | with_reducible refine rd_shrN ?_
  | with_reducible refine rd_shr1 ?_
  | with_reducible refine rd_int ?_
  | with_reducible refine rd_bool ?_
  | with_reducible refine rd_mod (by first | assumption | decide) ?_
  | with_reducible refine rd_fdiv (by first | assumption | decide) ?_
  | with_reducible refine rd_mulR (by decide) ?_
  | with_reducible refine rd_mulL (by first | decide | assumption) ?_
  | with_reducible refine ud_int ?_
  | with_reducible refine rd_isN ?_
  | with_reducible refine rd_notN ?_
  | with_reducible refine rd_eq rfl ?_
  | with_reducible refine rd_ne rfl ?_
  | with_reducible refine td_test ?_
  | with_reducible refine td_B ?_
  | with_reducible refine td_not ?_
  | with_reducible refine td_and ?_
  | with_reducible refine td_or ?_
  | with_reducible refine td_yes ?_
  | with_reducible refine ed_andV ?_
  | with_reducible refine ed_orV ?_
  | with_reducible refine ed_notV ?_
  | with_reducible refine ed_if ?_
  | with_reducible refine ed_chain ?_
  | with_reducible refine ed_isTL rfl ?_
  | ((with_reducible refine And.intro (show okD _ from ?hok) ?_); (case hok => first | assumption | exact rfl))
  | with_reducible refine ed_cb ?_
  | with_reducible refine ad_nil ?_
  | with_reducible refine ad_cons ?_
  | ((with_reducible refine ed_tup ?_))
  | ((with_reducible refine ed_lst ?_))
  | with_reducible refine ed_dnew ?_
  | with_reducible refine And.intro (show List.length (_ :: _) ≤ 100000 from Nat.le_of_ble_eq_true rfl) ?_
  | with_reducible refine od_none ?_
  | with_reducible refine od_some ?_
  | with_reducible refine ed_slL rfl ?_
  | with_reducible refine ed_slT rfl ?_
  | with_reducible refine id_list rfl ?_
  | with_reducible refine id_tup rfl ?_
  | ((with_reducible refine cd_isInt rfl ?hok ?_); (case hok => first | assumption | exact rfl))
  | ((with_reducible refine cd_isBool rfl ?hok ?_); (case hok => first | assumption | exact rfl))
  | ((with_reducible refine cd_isStr rfl ?hok ?_); (case hok => first | assumption | exact rfl))
  | ((with_reducible refine cd_isTup rfl ?hok ?_); (case hok => first | assumption | exact rfl))
  | ((with_reducible refine cd_isLst rfl ?hok ?_); (case hok => first | assumption | exact rfl))
  | ((with_reducible refine' cd_len ?hk ?ha ?_); (case hk => exact rfl); (case ha => exact rfl))
  | ((with_reducible refine' cd_tup ?hk ?ha ?_); (case hk => exact rfl); (case ha => exact rfl))
  | with_reducible refine cd_abs ?_
  | with_reducible refine cd_int ?_
  | ((with_reducible refine ed_callP rfl ?_))
  | ((with_reducible refine ed_callE (by assumption) rfl ?_))
  | ((with_reducible refine ed_callX rfl ?_))
  | ((with_reducible refine ed_callH rfl ?_))
  | (show asB (D.bl _) _; dsimp only [asB])
  | (show asI (D.int _) _; dsimp only [asI])
  | (show asU (D.tup _) _; dsimp only [asU])
  | (show asL (D.lst _) _; dsimp only [asL])
  | with_reducible refine isT_t ?_
  | with_reducible refine isT_f ?_)
local macro_rules | `(tactic| walk_at "dd") => `(tactic| (repeat (walk_at "d")))
local macro_rules | `(tactic| walk_at "v") => `(tactic| (repeat (first | walk_at "d" | (refine isT_val (c := true) rfl (isT_t ?_)) | (refine isT_val (c := false) rfl (isT_f ?_)))))

theorem within_nat {o : D} (h : withinD o 0 200 = true) : ∃ n : Nat, o = nI n ∧ n ≤ 200 := by
  cases o <;> first | cases h | skip
  rename_i i
  rw [show withinD (.int i) 0 200 = (decide (0 ≤ i) && decide (i ≤ 200)) from rfl, Bool.and_eq_true, decide_eq_true_eq, decide_eq_true_eq] at h
  exact ⟨i.toNat, by show D.int i = D.int ((i.toNat : Nat) : Int); rw [Int.toNat_of_nonneg h.1], by omega⟩
theorem within_of {n : Nat} (h : n ≤ 200) : withinD (nI n) 0 200 = true := by
  rw [show withinD (nI n) 0 200 = (decide ((0 : Int) ≤ n) && decide ((n : Int) ≤ 200)) from rfl, decide_eq_true (by omega), decide_eq_true (by omega)]
  rfl
theorem tupN_inj {a b : List Nat} (h : tupN a = tupN b) : a = b := by
  have h1 : a.map nI = b.map nI := D.tup.inj h
  exact List.map_inj_right (fun x y e => Int.ofNat.inj (D.int.inj e)) |>.mp h1
theorem nI_inj {a b : Nat} (h : nI a = nI b) : a = b := Int.ofNat.inj (D.int.inj h)
def excF (A : Nat → Addr) (a : D × D) (cls : Value) (fo : Option (List (Str × V))) : Prop := (goodD a.1 = false ∧ cls = .ref (A 12) ∧ fo = some [(("at" : Str), V.int (-1))]) ∨ (goodD a.1 = true ∧ withinD a.2 0 200 = false ∧ cls = .ref (A 7) ∧ fo = none)
def domF (a : D × D) : Prop := domI a.1 ∧ okD a.2
/-- the masks are small enough to be told bit by bit -/
def small (a : D × D) : Prop := ∀ (items : List Nat) (n : Nat), a.1 = tupN items → a.2 = nI n → goodD a.1 = true → n ≤ 200 → ∃ c, (∀ i ∈ items, i ≤ c) ∧ c * n ≤ 90000
section
variable {P : Program} {w : World} {K : PySem.W.Frag} {mg : Str → Option Value} {base : Heap} {A AI : Nat → Addr} {FD : Nat → FuncData}
abbrev sp_check_fold (K : PySem.W.Frag) (A : Nat → Addr) : Sp := SpX K (fun a : D × D => [a.1, a.2]) domF (fun a r => r = .non ∧ ∃ items n, a = (tupN items, nI n) ∧ GoodN items ∧ n ≤ 200) (excF A)
theorem ok_check_fold (T : Txt K mg A AI FD) : FnOk P w K mg base (L2.CX P w) 5 (A 19) (FD 19) ["items", "often"] (sp_check_fold K A) := by
  have G_check_items : FnOk P w K mg base (L2.CX P w) 4 (A 17) (FD 17) ["items"] (sp_check_items K A) := ok_check_items T
  have G_is_within : FnOk P w K mg base CX0 2 (A 2) (FD 2) ["thing", "low", "high"] (sp_is_within K) := ok_is_within T
  refine okX T.d_check_fold sc_check_fold (fun _ => rfl) (fun cdv Ar outer s H E hr => ⟨_, (pss_cons (ps_expr (pcE (takes_of rfl rfl rfl rfl) T.d_check_items G_check_items (hr.mono (by first | decide | exact Nat.le_refl _)) (pa_cons (pv 0) pa_nil)))
      (pss_one (ps_if (pt_not (pt_val (pc0 T.d_is_within G_is_within (hr.mono (by first | decide | exact Nat.le_refl _)) (pa_cons (pv 1) (pa_cons pe_int (pa_cons (pgc T.c_MOST_FOLD) pa_nil)))))) (pss_one (ps_rz0 T.e_BadNumber (takes_of rfl rfl rfl rfl))) pss_nil))), ?_⟩)
  rintro ⟨d, o⟩ F0 H0 ⟨hd, ho⟩ hE
  show SD _ _ [some _, some _] [] _ _ _ _
  walk_at "dd"
  refine ⟨d, rfl, hd, fun cls fo h => .inl h, ?_⟩
  rintro _ ⟨rfl, hg⟩
  walk_at "dd"
  refine ⟨(o, 0, 200), rfl, ho, ?_⟩
  rintro _ rfl
  walk_at "dd"
  refine isT_of (fun h => ?_) (fun h => ?_)
  · have hw : withinD o 0 200 = false := by simpa using h
    walk_at "dd"
    exact sd_raise0 hE (.inr ⟨hg, hw, rfl, rfl⟩)
  · have hw : withinD o 0 200 = true := by simpa using h
    obtain ⟨items, rfl, g⟩ := good_nat hg
    obtain ⟨n, rfl, hn⟩ := within_nat hw
    walk_at "dd"
    exact ⟨rfl, items, n, rfl, g, hn⟩
abbrev sp_item_sums (K : PySem.W.Frag) (A : Nat → Addr) : Sp := SpX K (fun a : D × D => [a.1, a.2]) (fun a => domF a ∧ small a) (fun a r => ∃ items n, a = (tupN items, nI n) ∧ GoodN items ∧ n ≤ 200 ∧ r = tupN (bitsOn (foldB items n))) (excF A)
theorem ok_item_sums (T : Txt K mg A AI FD) : FnOk P w K mg base (L2.CX P w) 6 (A 21) (FD 21) ["items", "often"] (sp_item_sums K A) := by
  have G_check_fold : FnOk P w K mg base (L2.CX P w) 5 (A 19) (FD 19) ["items", "often"] (sp_check_fold K A) := ok_check_fold T
  have G_fold_bits : FnOk P w K mg base CX0 1 (A 18) (FD 18) ["items", "often"] (sp_fold_bits K) := ok_fold_bits T
  have G_bits_on : FnOk P w K mg base CX0 1 (A 20) (FD 20) ["told"] (sp_bits_on K) := ok_bits_on T
  refine okX T.d_item_sums sc_item_sums (fun _ => rfl) (fun cdv Ar outer s H E hr => ⟨_, (pss_cons (ps_expr (pcE (takes_of rfl rfl rfl rfl) T.d_check_fold G_check_fold (hr.mono (by first | decide | exact Nat.le_refl _)) (pa_cons (pv 0) (pa_cons (pv 1) pa_nil))))
      (pss_one (ps_ret (pbt T.blt (call_tupK K) (by decide +kernel) (pa_cons (pc0 T.d_bits_on G_bits_on (hr.mono (by first | decide | exact Nat.le_refl _)) (pa_cons (pc0 T.d_fold_bits G_fold_bits (hr.mono (by first | decide | exact Nat.le_refl _)) (pa_cons (pv 0) (pa_cons (pv 1) pa_nil))) pa_nil)) pa_nil))))), ?_⟩)
  rintro ⟨d, o⟩ F0 H0 ⟨hd, hs⟩ hE
  show SD _ _ [some _, some _] [] _ _ _ _
  walk_at "dd"
  refine ⟨(d, o), rfl, hd, fun cls fo h => h, ?_⟩
  rintro _ ⟨rfl, items, n, e, g, hn⟩
  cases e
  walk_at "dd"
  refine ⟨(items, n), rfl, ⟨g.le, hn⟩, ?_⟩
  rintro _ rfl
  obtain ⟨c, hc, hcn⟩ := hs items n rfl rfl (good_of g) hn
  walk_at "dd"
  refine ⟨(foldB items n, c * n + 1), rfl, ⟨foldB_lt hc n, by omega⟩, ?_⟩
  rintro _ rfl
  walk_at "dd"
  exact ⟨items, n, rfl, g, hn, rfl⟩
abbrev sp_item_sums_number (K : PySem.W.Frag) (A : Nat → Addr) : Sp := SpX K (fun a : D × D => [a.1, a.2]) (fun a => domF a ∧ small a) (fun a r => ∃ items n, a = (tupN items, nI n) ∧ GoodN items ∧ n ≤ 200 ∧ r = nI (bitsOn (foldB items n)).length) (excF A)
theorem ok_item_sums_number (T : Txt K mg A AI FD) : FnOk P w K mg base (L2.CX P w) 6 (A 22) (FD 22) ["items", "often"] (sp_item_sums_number K A) := by
  have G_check_fold : FnOk P w K mg base (L2.CX P w) 5 (A 19) (FD 19) ["items", "often"] (sp_check_fold K A) := ok_check_fold T
  have G_fold_bits : FnOk P w K mg base CX0 1 (A 18) (FD 18) ["items", "often"] (sp_fold_bits K) := ok_fold_bits T
  have G_bits_on : FnOk P w K mg base CX0 1 (A 20) (FD 20) ["told"] (sp_bits_on K) := ok_bits_on T
  refine okX T.d_item_sums_number sc_item_sums_number (fun _ => rfl) (fun cdv Ar outer s H E hr => ⟨_, (pss_cons (ps_expr (pcE (takes_of rfl rfl rfl rfl) T.d_check_fold G_check_fold (hr.mono (by first | decide | exact Nat.le_refl _)) (pa_cons (pv 0) (pa_cons (pv 1) pa_nil))))
      (pss_one (ps_ret (pb T.blt (call_lenK K) (by decide +kernel) (pa_cons (pc0 T.d_bits_on G_bits_on (hr.mono (by first | decide | exact Nat.le_refl _)) (pa_cons (pc0 T.d_fold_bits G_fold_bits (hr.mono (by first | decide | exact Nat.le_refl _)) (pa_cons (pv 0) (pa_cons (pv 1) pa_nil))) pa_nil)) pa_nil))))), ?_⟩)
  rintro ⟨d, o⟩ F0 H0 ⟨hd, hs⟩ hE
  show SD _ _ [some _, some _] [] _ _ _ _
  walk_at "dd"
  refine ⟨(d, o), rfl, hd, fun cls fo h => h, ?_⟩
  rintro _ ⟨rfl, items, n, e, g, hn⟩
  cases e
  walk_at "dd"
  refine ⟨(items, n), rfl, ⟨g.le, hn⟩, ?_⟩
  rintro _ rfl
  obtain ⟨c, hc, hcn⟩ := hs items n rfl rfl (good_of g) hn
  walk_at "dd"
  refine ⟨(foldB items n, c * n + 1), rfl, ⟨foldB_lt hc n, by omega⟩, ?_⟩
  rintro _ rfl
  walk_at "dd"
  exact ⟨items, n, rfl, g, hn, by rw [List.length_map]⟩
/-- how many ones stand first, less one -/
def IsReach (M : Nat) (r : D) : Prop := ∃ k : Nat, (∀ i, i < k → M.testBit i = true) ∧ M.testBit k = false ∧ r = .int ((k : Int) - 1)
abbrev sp_reach_of (K : PySem.W.Frag) : Sp := SpP K (fun a : List Nat × Nat => [tupN a.1, nI a.2]) (fun a => (∀ i ∈ a.1, i ≤ 1000) ∧ a.2 ≤ 200) fun a r => IsReach (foldB a.1 a.2) r
theorem ok_reach_of (T : Txt K mg A AI FD) : FnOk P w K mg base CX0 2 (A 23) (FD 23) ["items", "often"] (sp_reach_of K) := by
  have G_fold_bits : FnOk P w K mg base CX0 1 (A 18) (FD 18) ["items", "often"] (sp_fold_bits K) := ok_fold_bits T
  refine okP T.d_reach_of sc_reach_of (fun _ => rfl) (fun cdv Ar outer s H E hr => ⟨_, (pss_cons (ps_par (i := 2) (j := 3) (by rfl) sc_reach_of.nd rfl rfl (by decide) rfl rfl (pa_cons (pc0 T.d_fold_bits G_fold_bits (hr.mono (by first | decide | exact Nat.le_refl _)) (pa_cons (pv 0) (pa_cons (pv 1) pa_nil))) (pa_cons pe_int pa_nil)) (by rfl))
      (pss_cons (ps_while PassesOwn.never (pt_cmpR op_eq (pe_op op_and (pe_op op_shr (pv 2) (pv 3)) pe_int) pe_int (nomark _)) (pss_one (ps_set (i := 3) sc_reach_of.nd rfl (Or.inl rfl) (pe_op op_add (pv 3) pe_int))))
      (pss_one (ps_ret (pe_op op_sub (pv 3) pe_int))))), ?_⟩)
  rintro ⟨items, n⟩ F0 H0 ⟨h1, h2⟩
  show SD _ _ [some _, some _, none, none] [] _ _ _ _
  walk_at "dd"
  refine sd_par ?_
  walk_at "dd"
  refine ⟨(items, n), rfl, ⟨h1, h2⟩, ?_⟩
  rintro _ rfl
  walk_at "dd"
  refine ⟨_, _, rfl, ?_⟩
  walk_at "dd"
  obtain ⟨r, hr1, hr2⟩ := ones (foldB items n)
  refine sd_while (fun m ds μ => ∃ a, m = r - a ∧ a ≤ r ∧ ds = [some (tupN items), some (nI n), some (nI (foldB items n)), some (nI a)] ∧ μ = []) r ⟨0, rfl, by omega, rfl, rfl⟩ ?_
  rintro m ds μ ⟨a, rfl, ha, rfl, rfl⟩
  walk_at "dd"
  rw [shift_low]
  by_cases c : a < r
  · rw [if_pos (hr1 a c)]
    refine isT_t ?_
    walk_at "dd"
    exact ⟨_, by omega, a + 1, rfl, c, rfl, rfl⟩
  · have e : a = r := by omega
    subst e
    rw [if_neg (by rw [hr2]; exact Bool.false_ne_true)]
    refine isT_f ?_
    walk_at "dd"
    exact ⟨a, hr1, hr2, rfl⟩
abbrev sp_reach (K : PySem.W.Frag) (A : Nat → Addr) : Sp := SpX K (fun a : D × D => [a.1, a.2]) domF (fun a r => ∃ items n, a = (tupN items, nI n) ∧ GoodN items ∧ n ≤ 200 ∧ IsReach (foldB items n) r) (excF A)
theorem ok_reach (T : Txt K mg A AI FD) : FnOk P w K mg base (L2.CX P w) 6 (A 24) (FD 24) ["items", "often"] (sp_reach K A) := by
  have G_check_fold : FnOk P w K mg base (L2.CX P w) 5 (A 19) (FD 19) ["items", "often"] (sp_check_fold K A) := ok_check_fold T
  have G_reach_of : FnOk P w K mg base CX0 2 (A 23) (FD 23) ["items", "often"] (sp_reach_of K) := ok_reach_of T
  refine okX T.d_reach sc_reach (fun _ => rfl) (fun cdv Ar outer s H E hr => ⟨_, (pss_cons (ps_expr (pcE (takes_of rfl rfl rfl rfl) T.d_check_fold G_check_fold (hr.mono (by first | decide | exact Nat.le_refl _)) (pa_cons (pv 0) (pa_cons (pv 1) pa_nil))))
      (pss_one (ps_ret (pc0 T.d_reach_of G_reach_of (hr.mono (by first | decide | exact Nat.le_refl _)) (pa_cons (pv 0) (pa_cons (pv 1) pa_nil)))))), ?_⟩)
  rintro ⟨d, o⟩ F0 H0 hd hE
  show SD _ _ [some _, some _] [] _ _ _ _
  walk_at "dd"
  refine ⟨(d, o), rfl, hd, fun cls fo h => h, ?_⟩
  rintro _ ⟨rfl, items, n, e, g, hn⟩
  cases e
  walk_at "dd"
  refine ⟨(items, n), rfl, ⟨g.le, hn⟩, ?_⟩
  rintro r h
  exact ⟨items, n, rfl, g, hn, h⟩
/-- whether a thing is a number whose bit stands -/
def bitD (M : Nat) : D → Bool
  | .int i => decide (0 ≤ i) && M.testBit i.toNat
  | _ => false
abbrev sp_is_folded (K : PySem.W.Frag) (A : Nat → Addr) : Sp := SpX K (fun a : D × D × D => [a.1, a.2.1, a.2.2]) (fun a => domF (a.1, a.2.1) ∧ okD a.2.2) (fun a r => ∃ items n, (a.1, a.2.1) = (tupN items, nI n) ∧ GoodN items ∧ n ≤ 200 ∧ r = .bl (bitD (foldB items n) a.2.2)) (fun a => excF A (a.1, a.2.1))
theorem ok_is_folded (T : Txt K mg A AI FD) : FnOk P w K mg base (L2.CX P w) 6 (A 25) (FD 25) ["items", "often", "number"] (sp_is_folded K A) := by
  have G_check_fold : FnOk P w K mg base (L2.CX P w) 5 (A 19) (FD 19) ["items", "often"] (sp_check_fold K A) := ok_check_fold T
  have G_fold_bits : FnOk P w K mg base CX0 1 (A 18) (FD 18) ["items", "often"] (sp_fold_bits K) := ok_fold_bits T
  have G_is_integer : FnOk P w K mg base CX0 1 (A 1) (FD 1) ["thing"] (sp_is_integer K) := ok_is_integer T
  refine okX T.d_is_folded sc_is_folded (fun _ => rfl) (fun cdv Ar outer s H E hr => ⟨_, (pss_cons (ps_expr (pcE (takes_of rfl rfl rfl rfl) T.d_check_fold G_check_fold (hr.mono (by first | decide | exact Nat.le_refl _)) (pa_cons (pv 0) (pa_cons (pv 1) pa_nil))))
      (pss_one (ps_ret (pe_and (pc0 T.d_is_integer G_is_integer (hr.mono (by first | decide | exact Nat.le_refl _)) (pa_cons (pv 2) pa_nil)) (pe_and (pe_cmpR op_ge (pv 2) pe_int (nomark _)) (pe_one (pe_cmpR op_eq (pe_op op_and (pe_op op_shr (pc0 T.d_fold_bits G_fold_bits (hr.mono (by first | decide | exact Nat.le_refl _)) (pa_cons (pv 0) (pa_cons (pv 1) pa_nil))) (pv 2)) pe_int) pe_int (nomark _)))))))), ?_⟩)
  rintro ⟨d, o, t⟩ F0 H0 ⟨hd, ht⟩ hE
  show SD _ _ [some _, some _, some _] [] _ _ _ _
  walk_at "dd"
  refine ⟨(d, o), rfl, hd, fun cls fo h => h, ?_⟩
  rintro _ ⟨rfl, items, n, e, g, hn⟩
  cases e
  walk_at "dd"
  refine ⟨t, rfl, ht, ?_⟩
  rintro _ rfl
  walk_at "dd"
  refine isT_of (fun h => ?_) (fun h => ?_)
  · cases t <;> first | cases h | skip
    rename_i i
    walk_at "dd"
    refine isT_of (fun h => ?_) (fun h => ?_)
    · have h0 : 0 ≤ i := of_decide_eq_true h
      obtain ⟨k, rfl⟩ := Int.eq_ofNat_of_zero_le h0
      walk_at "dd"
      refine ⟨(items, n), rfl, ⟨g.le, hn⟩, ?_⟩
      rintro _ rfl
      walk_at "dd"
      refine ⟨items, n, rfl, g, hn, ?_⟩
      rw [shift_low]
      show D.bl _ = D.bl (decide ((0 : Int) ≤ (k : Int)) && (foldB items n).testBit ((k : Int)).toNat)
      rw [decide_eq_true h0, Int.toNat_natCast, Bool.true_and]
      cases q : (foldB items n).testBit k with
      | true => rfl
      | false => rfl
    · refine ⟨items, n, rfl, g, hn, ?_⟩
      show D.bl false = D.bl (decide (0 ≤ i) && _)
      rw [show decide (0 ≤ i) = false from h]
      rfl
  · refine ⟨items, n, rfl, g, hn, ?_⟩
    cases t <;> first | rfl | cases h
end
end Pf
set_option Elab.async false
set_option linter.all false
set_option maxRecDepth 100000
set_option maxHeartbeats 1000000
namespace Pf
open PySem L2 RZ DL M45
local macro_rules | `(tactic| walk_at "d") => `(tactic| first
  | with_reducible refine sd_seq ?_
  | with_reducible refine sd_if ?_
  | with_reducible refine sd_ret ?_
  | with_reducible refine sd_asg ?_
  | with_reducible refine sd_next ?_
  | with_reducible refine sd_brk ?_
  | with_reducible refine sd_cont ?_
  | with_reducible refine sd_dropC ?_
  | with_reducible refine gd_name ?_
  | with_reducible refine gds_nil ?_
  | with_reducible refine gds_cons ?_
  | with_reducible refine gd_tup rfl rfl ?_
  | with_reducible refine ed_int ?_
  | with_reducible refine ed_bl ?_
  | with_reducible refine ed_str ?_
  | with_reducible refine ed_ty ?_
  | with_reducible refine ed_non ?_
  | with_reducible refine ed_ref ?_
  | ((with_reducible refine rd_catL ?hk ?hl ?_); (case hk => exact rfl); (case hl => exact (Nat.le_of_ble_eq_true rfl)))
  | ((with_reducible refine' cd_isD ?hk ?hh ?hc ?hD ?hkk ?hdd ?_); (case hk => exact rfl); (case hh => exact rfl); (case hc => exact rfl); (case hD => assumption); (case hkk => assumption); (case hdd => assumption))
  | ((with_reducible refine' cd_isDT ?hk ?hh ?hc ?hD ?hkk ?hdd ?_); (case hk => exact rfl); (case hh => exact rfl); (case hc => exact rfl); (case hD => assumption); (case hkk => assumption); (case hdd => assumption))
  | ((with_reducible refine' ed_var ?hv ?_); (case hv => exact rfl))
  | with_reducible refine ed_op ?_
  | with_reducible refine ed_un ?_
  | with_reducible refine rd_orN ?_
  | with_reducible refine rd_andN ?_
  | with_reducible refine rd_and1 ?_
  | with_reducible refine rd_shrN ?_
  | with_reducible refine rd_shr1 ?_
  | with_reducible refine rd_int ?_
  | with_reducible refine rd_bool ?_
  | with_reducible refine rd_mod (by first | assumption | decide) ?_
  | with_reducible refine rd_fdiv (by first | assumption | decide) ?_
  | with_reducible refine rd_mulR (by decide) ?_
  | with_reducible refine rd_mulL (by first | decide | assumption) ?_
  | with_reducible refine ud_int ?_
  | with_reducible refine rd_isN ?_
  | with_reducible refine rd_notN ?_
  | with_reducible refine rd_eq rfl ?_
  | with_reducible refine rd_ne rfl ?_
  | with_reducible refine td_test ?_
  | with_reducible refine td_B ?_
  | with_reducible refine td_not ?_
  | with_reducible refine td_and ?_
  | with_reducible refine td_or ?_
  | with_reducible refine td_yes ?_
  | with_reducible refine ed_andV ?_
  | with_reducible refine ed_orV ?_
  | with_reducible refine ed_notV ?_
  | with_reducible refine ed_if ?_
  | with_reducible refine ed_chain ?_
  | with_reducible refine ed_isTL rfl ?_
  | ((with_reducible refine And.intro (show okD _ from ?hok) ?_); (case hok => first | assumption | exact rfl))
  | with_reducible refine ed_cb ?_
  | with_reducible refine ad_nil ?_
  | with_reducible refine ad_cons ?_
  | ((with_reducible refine ed_tup ?_))
  | ((with_reducible refine ed_lst ?_))
  | with_reducible refine ed_dnew ?_
  | with_reducible refine And.intro (show List.length (_ :: _) ≤ 100000 from Nat.le_of_ble_eq_true rfl) ?_
  | with_reducible refine od_none ?_
  | with_reducible refine od_some ?_
  | with_reducible refine ed_slL rfl ?_
  | with_reducible refine ed_slT rfl ?_
  | with_reducible refine id_list rfl ?_
  | with_reducible refine id_tup rfl ?_
  | ((with_reducible refine cd_isInt rfl ?hok ?_); (case hok => first | assumption | exact rfl))
  | ((with_reducible refine cd_isBool rfl ?hok ?_); (case hok => first | assumption | exact rfl))
  | ((with_reducible refine cd_isStr rfl ?hok ?_); (case hok => first | assumption | exact rfl))
  | ((with_reducible refine cd_isTup rfl ?hok ?_); (case hok => first | assumption | exact rfl))
  | ((with_reducible refine cd_isLst rfl ?hok ?_); (case hok => first | assumption | exact rfl))
  | ((with_reducible refine' cd_len ?hk ?ha ?_); (case hk => exact rfl); (case ha => exact rfl))
  | ((with_reducible refine' cd_tup ?hk ?ha ?_); (case hk => exact rfl); (case ha => exact rfl))
  | with_reducible refine cd_abs ?_
  | with_reducible refine cd_int ?_
  | ((with_reducible refine ed_callP rfl ?_))
  | ((with_reducible refine ed_callE (by assumption) rfl ?_))
  | ((with_reducible refine ed_callX rfl ?_))
  | ((with_reducible refine ed_callH rfl ?_))
  | (show asB (D.bl _) _; dsimp only [asB])
  | (show asI (D.int _) _; dsimp only [asI])
  | (show asU (D.tup _) _; dsimp only [asU])
  | (show asL (D.lst _) _; dsimp only [asL])
  | with_reducible refine isT_t ?_
  | with_reducible refine isT_f ?_)
local macro_rules | `(tactic| walk_at "dd") => `(tactic| (repeat (walk_at "d")))
local macro_rules | `(tactic| walk_at "v") => `(tactic| (repeat (first | walk_at "d" | (refine isT_val (c := true) rfl (isT_t ?_)) | (refine isT_val (c := false) rfl (isT_f ?_)))))

def turnN (items : List Nat) : List Nat := items.reverse.map fun i => items.getLastD 0 - i
theorem lastN {items : List Nat} (g : GoodN items) : items.getLast? = some (items.getLastD 0) := by
  cases items with
  | nil => have := g.two; simp at this
  | cons a r => rw [List.getLastD_eq_getLast?, List.getLast?_eq_some_getLast (by simp)]; rfl
theorem last_maxN : ∀ {ns : List Nat} {z : Nat}, ns.Pairwise (· < ·) → ns.getLast? = some z → ∀ x ∈ ns, x ≤ z
  | [], _, _, h, _, _ => by cases h
  | [a], z, _, h, x, hx => by
    have e : a = z := Option.some.inj h
    rw [List.mem_singleton] at hx
    omega
  | a :: b :: r, z, hp, h, x, hx => by
    have h' : (b :: r).getLast? = some z := by
      rw [List.getLast?_cons_cons] at h
      exact h
    have ih := last_maxN (List.pairwise_cons.mp hp).2 h'
    rcases List.mem_cons.mp hx with e | q
    · subst e
      have h1 := (List.pairwise_cons.mp hp).1 b List.mem_cons_self
      have h2 := ih b List.mem_cons_self
      omega
    · exact ih x q
theorem turn_asc {items : List Nat} (g : GoodN items) : (turnN items).Pairwise (· < ·) := by
  unfold turnN
  rw [List.pairwise_map, List.pairwise_reverse]
  have hm := last_maxN g.asc (lastN g)
  refine g.asc.imp_of_mem fun {a b} ha hb hab => ?_
  have := hm a ha
  have := hm b hb
  omega
theorem eq_sorted {a b : List Int} (hp : a.Perm b) (ha : a.Pairwise (· ≤ ·)) (hb : b.Pairwise (· ≤ ·)) : a = b := List.Perm.eq_of_pairwise (fun x y _ _ h1 h2 => Int.le_antisymm h1 h2) ha hb hp
section
variable {P : Program} {w : World} {K : PySem.W.Frag} {mg : Str → Option Value} {base : Heap} {A AI : Nat → Addr} {FD : Nat → FuncData}
abbrev sp_turned_items (K : PySem.W.Frag) (A : Nat → Addr) : Sp := SpX K (fun d : D => [d]) domI (fun d r => ∃ items, d = tupN items ∧ GoodN items ∧ r = tupN (turnN items)) (excI A)
theorem ok_turned_items (T : Txt K mg A AI FD) : FnOk P w K mg base (L2.CX P w) 5 (A 26) (FD 26) ["items"] (sp_turned_items K A) := by
  have G_check_items : FnOk P w K mg base (L2.CX P w) 4 (A 17) (FD 17) ["items"] (sp_check_items K A) := ok_check_items T
  refine okX T.d_turned_items sc_turned_items (fun _ => rfl) (fun cdv Ar outer s H E hr => ⟨_, (pss_cons (ps_expr (pcE (takes_of rfl rfl rfl rfl) T.d_check_items G_check_items (hr.mono (by first | decide | exact Nat.le_refl _)) (pa_cons (pv 0) pa_nil)))
      (pss_one (ps_ret (pbt T.blt (call_tupK K) (by decide +kernel) (pa_cons (pb T.blt (cr_sortedK K) (by decide +kernel) (pa_cons (pe_lc (own := [("item", 1)]) (g := gName 1) (tt := tYes) rfl sc_turned_items.nd (pi_tupK K (pv 0)) (blkOk_by (own := [("item", 1)]) (N := N_turned_items) (sc := defScope s_turned_items) (by decide +kernel)) (fun _ _ _ _ _ => pg_name (i := 1) sc_turned_items.nd rfl (Or.inl rfl)) (fun _ _ _ _ _ => pts_nil) (fun _ _ _ _ _ => (pe_op op_sub (pe_ix (ix_seqK K) (pv 0) (pe_un un_neg pe_int) (fun _ _ => rfl)) (pv 1)))) pa_nil)) pa_nil))))), ?_⟩)
  rintro d F0 H0 hd hE
  show SD _ _ [some _, none] [] _ _ _ _
  walk_at "dd"
  refine ⟨d, rfl, hd, fun cls fo h => h, ?_⟩
  rintro _ ⟨rfl, hg⟩
  obtain ⟨items, rfl, g⟩ := good_nat hg
  have hz := lastN g
  generalize hzz : items.getLastD 0 = z at hz
  walk_at "dd"
  refine ed_map (gown_name 1) (fun y => .int ((z : Int) - toI y)) ?_
  walk_at "dd"
  refine ⟨(hd.2 _ rfl).1, fun i y hy => ?_, ?_⟩
  · obtain ⟨n, hn, rfl⟩ := getN hy
    walk_at "dd"
    refine rd_ix rfl rfl (atI_neg1 (l := items.map nI) (v := nI z) (by rw [List.getLast?_map, hz]; rfl)) ?_
    walk_at "dd"
    exact ⟨rfl, rfl⟩
  · walk_at "dd"
    have e : (items.map nI).map (fun y => D.int ((z : Int) - toI y)) = (items.map fun n : Nat => (z : Int) - (n : Int)).map D.int := by
      rw [List.map_map, List.map_map]
      rfl
    rw [e]
    refine cd_sorted rfl fun ns' h1 h2 => ?_
    have e2 : ns' = (turnN items).map fun n : Nat => (n : Int) := by
      refine eq_sorted (h1.trans ?_) h2 ?_
      · have e3 : (turnN items).map (fun n : Nat => (n : Int)) = (items.map fun n : Nat => (z : Int) - (n : Int)).reverse := by
          unfold turnN
          rw [List.map_map, ← List.map_reverse, hzz]
          refine List.map_congr_left fun x hx => ?_
          have := last_maxN g.asc hz x (List.mem_reverse.mp hx)
          show ((z - x : Nat) : Int) = (z : Int) - (x : Int)
          omega
        rw [e3]
        exact (List.reverse_perm _).symm
      · rw [List.pairwise_map]
        exact (turn_asc g).imp fun h => by omega
    rw [e2]
    walk_at "dd"
    refine ⟨items, rfl, g, ?_⟩
    rw [List.map_map]
    rfl
def sizesN (items : List Nat) (n : Nat) : List Nat := (List.range n).map fun k => (bitsOn (foldB items k)).length
abbrev sp_folded_sizes (K : PySem.W.Frag) (A : Nat → Addr) : Sp := SpX K (fun a : D × D => [a.1, a.2]) (fun a => domF a ∧ small a) (fun a r => ∃ items n, a = (tupN items, nI n) ∧ GoodN items ∧ n ≤ 200 ∧ r = tupN (sizesN items (n + 1))) (excF A)
theorem ok_folded_sizes (T : Txt K mg A AI FD) : FnOk P w K mg base (L2.CX P w) 6 (A 27) (FD 27) ["items", "most"] (sp_folded_sizes K A) := by
  have G_check_fold : FnOk P w K mg base (L2.CX P w) 5 (A 19) (FD 19) ["items", "often"] (sp_check_fold K A) := ok_check_fold T
  have G_next_fold : FnOk P w K mg base CX0 1 (A 28) (FD 28) ["items", "told"] (sp_next_fold K) := ok_next_fold T
  have G_bits_on : FnOk P w K mg base CX0 1 (A 20) (FD 20) ["told"] (sp_bits_on K) := ok_bits_on T
  refine okX T.d_folded_sizes sc_folded_sizes (fun _ => rfl) (fun cdv Ar outer s H E hr => ⟨_, (pss_cons (ps_expr (pcE (takes_of rfl rfl rfl rfl) T.d_check_fold G_check_fold (hr.mono (by first | decide | exact Nat.le_refl _)) (pa_cons (pv 0) (pa_cons (pv 1) pa_nil))))
      (PSs.nox (pss_cons (ps_par (i := 2) (j := 3) (by rfl) sc_folded_sizes.nd rfl rfl (by decide) rfl rfl (pa_cons (pe_lst pa_nil) (pa_cons pe_int pa_nil)) (by rfl))
      (pss_cons (ps_for PassesOwn.never rfl (pi_range1 rfl (T.blt "range" (by decide)) (pa_cons (pe_op op_add (pv 1) pe_int) pa_nil)) (pg_name (i := 4) sc_folded_sizes.nd rfl (Or.inl rfl)) (pss_cons (ps_expr (pe_bm PySem.F.plainAttrs_list PySem.F.slot_list_append PySem.F.type_list_append mt_append (pv 2) (pa_cons (pb T.blt (call_lenK K) (by decide +kernel) (pa_cons (pc0 T.d_bits_on G_bits_on (hr.mono (by first | decide | exact Nat.le_refl _)) (pa_cons (pv 3) pa_nil)) pa_nil)) pa_nil)))
      (pss_one (ps_set (i := 3) sc_folded_sizes.nd rfl (Or.inl rfl) (pc0 T.d_next_fold G_next_fold (hr.mono (by first | decide | exact Nat.le_refl _)) (pa_cons (pv 0) (pa_cons (pv 3) pa_nil)))))))
      (pss_one (ps_ret (pbt T.blt (call_tupK K) (by decide +kernel) (pa_cons (pv 2) pa_nil)))))))), ?_⟩)
  rintro ⟨d, o⟩ F0 H0 ⟨hd, hs⟩ hE
  show SD _ _ [some _, some _, none, none, none] [] _ _ _ _
  walk_at "dd"
  refine ⟨(d, o), rfl, hd, fun cls fo h => h, ?_⟩
  rintro _ ⟨rfl, items, n, e, g, hn⟩
  cases e
  obtain ⟨c, hc, hcn⟩ := hs items n rfl rfl (good_of g) hn
  walk_at "dd"
  refine sd_parL ?_
  walk_at "dd"
  refine ⟨by decide, fun p => ?_⟩
  walk_at "dd"
  refine sd_for (fun k ds μ => ∃ z, ds = [some (tupN items), some (nI n), some (.adr p), some (nI (foldB items k)), z] ∧ μ = [(p, .lst ((sizesN items k).map nI))]) ?_
  refine id_rng1 ?_
  walk_at "dd"
  refine ⟨_, rfl, by omega, by omega, ⟨_, rfl, rfl⟩, ?_, ?_⟩
  · rintro k y ds μ hy ⟨z, rfl, rfl⟩
    have hk : k < n + 1 := by
      have := (List.getElem?_eq_some_iff.mp hy).1
      rw [rangeD_len] at this
      omega
    have ck : c * k ≤ c * n := Nat.mul_le_mul_left _ (by omega)
    walk_at "dd"
    refine sd_append (j := 0) rfl rfl rfl ?_
    walk_at "dd"
    refine ⟨(foldB items k, c * k + 1), rfl, ⟨foldB_lt hc k, by omega⟩, ?_⟩
    rintro _ rfl
    walk_at "dd"
    refine ⟨_, rfl, by rw [List.length_map]; unfold sizesN; rw [List.length_map, List.length_range]; omega, ?_⟩
    walk_at "dd"
    refine ⟨(items, foldB items k, c * k + 1), rfl, ⟨g.le, foldB_lt hc k, by show c * k + 1 ≤ 1000000; omega⟩, ?_⟩
    rintro _ rfl
    walk_at "dd"
    refine ⟨_, rfl, ?_⟩
    unfold sizesN
    rw [List.range_succ, List.map_append, List.map_append, List.length_map]
    rfl
  · rintro ds μ ⟨z, rfl, rfl⟩
    walk_at "dd"
    refine cd_tupO (j := 0) rfl rfl ?_
    refine ⟨items, n, rfl, g, hn, ?_⟩
    rw [rangeD_len]
    rfl
end
end Pf
set_option Elab.async false
set_option linter.all false
set_option maxRecDepth 100000
set_option maxHeartbeats 1000000
namespace Pf
open PySem L2 RZ DL
local macro_rules | `(tactic| walk_at "d") => `(tactic| first
  | with_reducible refine sd_seq ?_
  | with_reducible refine sd_if ?_
  | with_reducible refine sd_ret ?_
  | with_reducible refine sd_asg ?_
  | with_reducible refine sd_next ?_
  | with_reducible refine sd_brk ?_
  | with_reducible refine sd_cont ?_
  | with_reducible refine sd_dropC ?_
  | with_reducible refine gd_name ?_
  | with_reducible refine gds_nil ?_
  | with_reducible refine gds_cons ?_
  | with_reducible refine gd_tup rfl rfl ?_
  | with_reducible refine ed_int ?_
  | with_reducible refine ed_bl ?_
  | with_reducible refine ed_str ?_
  | with_reducible refine ed_ty ?_
  | with_reducible refine ed_non ?_
  | with_reducible refine ed_ref ?_
  | ((with_reducible refine rd_catL ?hk ?hl ?_); (case hk => exact rfl); (case hl => exact (Nat.le_of_ble_eq_true rfl)))
  | ((with_reducible refine' cd_isD ?hk ?hh ?hc ?hD ?hkk ?hdd ?_); (case hk => exact rfl); (case hh => exact rfl); (case hc => exact rfl); (case hD => assumption); (case hkk => assumption); (case hdd => assumption))
  | ((with_reducible refine' cd_isDT ?hk ?hh ?hc ?hD ?hkk ?hdd ?_); (case hk => exact rfl); (case hh => exact rfl); (case hc => exact rfl); (case hD => assumption); (case hkk => assumption); (case hdd => assumption))
  | ((with_reducible refine' ed_var ?hv ?_); (case hv => exact rfl))
  | with_reducible refine ed_op ?_
  | with_reducible refine ed_un ?_
  | with_reducible refine rd_orN ?_
  | with_reducible refine rd_andN ?_
  | with_reducible refine rd_and1 ?_
  | with_reducible refine rd_shrN ?_
  | with_reducible refine rd_shr1 ?_
  | with_reducible refine rd_int ?_
  | with_reducible refine rd_bool ?_
  | with_reducible refine rd_mod (by first | assumption | decide) ?_
  | with_reducible refine rd_fdiv (by first | assumption | decide) ?_
  | with_reducible refine rd_mulR (by decide) ?_
  | with_reducible refine rd_mulL (by first | decide | assumption) ?_
  | with_reducible refine ud_int ?_
  | with_reducible refine rd_isN ?_
  | with_reducible refine rd_notN ?_
  | with_reducible refine rd_eq rfl ?_
  | with_reducible refine rd_ne rfl ?_
  | with_reducible refine td_test ?_
  | with_reducible refine td_B ?_
  | with_reducible refine td_not ?_
  | with_reducible refine td_and ?_
  | with_reducible refine td_or ?_
  | with_reducible refine td_yes ?_
  | with_reducible refine ed_andV ?_
  | with_reducible refine ed_orV ?_
  | with_reducible refine ed_notV ?_
  | with_reducible refine ed_if ?_
  | with_reducible refine ed_chain ?_
  | with_reducible refine ed_isTL rfl ?_
  | ((with_reducible refine And.intro (show okD _ from ?hok) ?_); (case hok => first | assumption | exact rfl))
  | with_reducible refine ed_cb ?_
  | with_reducible refine ad_nil ?_
  | with_reducible refine ad_cons ?_
  | ((with_reducible refine ed_tup ?_))
  | ((with_reducible refine ed_lst ?_))
  | with_reducible refine ed_dnew ?_
  | with_reducible refine And.intro (show List.length (_ :: _) ≤ 100000 from Nat.le_of_ble_eq_true rfl) ?_
  | with_reducible refine od_none ?_
  | with_reducible refine od_some ?_
  | with_reducible refine ed_slL rfl ?_
  | with_reducible refine ed_slT rfl ?_
  | with_reducible refine id_list rfl ?_
  | with_reducible refine id_tup rfl ?_
  | ((with_reducible refine cd_isInt rfl ?hok ?_); (case hok => first | assumption | exact rfl))
  | ((with_reducible refine cd_isBool rfl ?hok ?_); (case hok => first | assumption | exact rfl))
  | ((with_reducible refine cd_isStr rfl ?hok ?_); (case hok => first | assumption | exact rfl))
  | ((with_reducible refine cd_isTup rfl ?hok ?_); (case hok => first | assumption | exact rfl))
  | ((with_reducible refine cd_isLst rfl ?hok ?_); (case hok => first | assumption | exact rfl))
  | ((with_reducible refine' cd_len ?hk ?ha ?_); (case hk => exact rfl); (case ha => exact rfl))
  | ((with_reducible refine' cd_tup ?hk ?ha ?_); (case hk => exact rfl); (case ha => exact rfl))
  | with_reducible refine cd_abs ?_
  | with_reducible refine cd_int ?_
  | ((with_reducible refine ed_callP rfl ?_))
  | ((with_reducible refine ed_callE (by assumption) rfl ?_))
  | ((with_reducible refine ed_callX rfl ?_))
  | ((with_reducible refine ed_callH rfl ?_))
  | (show asB (D.bl _) _; dsimp only [asB])
  | (show asI (D.int _) _; dsimp only [asI])
  | (show asU (D.tup _) _; dsimp only [asU])
  | (show asL (D.lst _) _; dsimp only [asL])
  | with_reducible refine isT_t ?_
  | with_reducible refine isT_f ?_)
local macro_rules | `(tactic| walk_at "dd") => `(tactic| (repeat (walk_at "d")))
local macro_rules | `(tactic| walk_at "v") => `(tactic| (repeat (first | walk_at "d" | (refine isT_val (c := true) rfl (isT_t ?_)) | (refine isT_val (c := false) rfl (isT_f ?_)))))

section
variable {P : Program} {w : World} {K : PySem.W.Frag} {mg : Str → Option Value} {base : Heap} {A AI : Nat → Addr} {FD : Nat → FuncData}
theorem rd_handD {x : Fx} {p : Addr} {cells : List Int} {pl : Nat} {left mix cnt : Int} {i : Int} {d : D} {K : PySem.W.Frag} {Q : D → Mu → Prop} (hK : K = x.K) (h : atI (handL cells pl left mix cnt) i = some d) (q : Q d [(p, .lst (handL cells pl left mix cnt))]) :
    RD x (rIx K) (.adr p) (.int i) [(p, .lst (handL cells pl left mix cnt))] Q := rd_ixOs (j := 0) hK rfl h q
abbrev drawDs (p : Addr) (n : Int) (c d e : Option D) : DS := [some (.adr p), some (.int n), c, d, e]
def DrawM (p : Addr) (n : Int) (ds : DS) (μ : Mu) : Prop := ∃ cells pl left mix cnt c d e, ds = drawDs p n c d e ∧ μ = [(p, OO.lst (handL cells pl left mix cnt))] ∧ HandOk cells left mix cnt
abbrev sp_draw (K : PySem.W.Frag) : Sp := SpH K (fun n : Int => [.int n]) (fun n => 0 < n ∧ n < 1073741824) fun n r => ∃ k : Nat, r = nI k ∧ (k : Int) < n
theorem ok_draw (T : Txt K mg A AI FD) : FnOk P w K mg base CX0 1 (A 31) (FD 31) ["hand", "many"] (sp_draw K) := by
  refine okDraw T.d__law_draw sc__law_draw (fun _ => rfl) (fun cdv Ar outer s H E hr => ⟨_, (pss_cons (ps_if (PW.pt (pw_and (pt_cmpR op_eq (pe_ix (ix_seqK K) (pv 0) pe_int (fun _ _ => rfl)) pe_int (nomark _)) (pw_and1 (pt_cmpR op_lt (pe_ix (ix_seqK K) (pv 0) pe_int (fun _ _ => rfl)) (pb T.blt (call_lenK K) (by decide +kernel) (pa_cons (pe_ix (ix_seqK K) (pv 0) pe_int (fun _ _ => rfl)) pa_nil)) (nomark _))))) (pss_cons (ps_set (i := 2) sc__law_draw.nd rfl (Or.inl rfl) (pe_ix (ix_seqK K) (pe_ix (ix_seqK K) (pv 0) pe_int (fun _ _ => rfl)) (pe_ix (ix_seqK K) (pv 0) pe_int (fun _ _ => rfl)) (fun _ _ => rfl)))
      (pss_cons (ps_asg (pe_op op_add (pe_ix (ix_seqK K) (pv 0) pe_int (fun _ _ => rfl)) pe_int) (pg_sub (pv 0) pe_int set_list))
      (pss_cons (ps_asg (pe_op op_mod (pbt T.blt call_int1S (by decide +kernel) (pa_cons (pe_op op_add (pe_op op_add (pe_op op_mul (pe_ix (ix_seqK K) (pv 0) pe_int (fun _ _ => rfl)) pe_int) (pe_op op_mul (pv 2) pe_int)) pe_int) pa_nil)) pe_int) (pg_sub (pv 0) pe_int set_list))
      (pss_one (ps_if (pt_cmpR op_ge (pv 2) (pe_op op_pow pe_int pe_int) (nomark _)) (pss_one (ps_asg (pv 2) (pg_sub (pv 0) pe_int set_list))) pss_nil))))) pss_nil)
      (pss_cons (ps_if (pt_cmpR op_gt (pe_ix (ix_seqK K) (pv 0) pe_int (fun _ _ => rfl)) pe_int (nomark _)) (pss_cons (ps_set (i := 3) sc__law_draw.nd rfl (Or.inl rfl) (pe_op op_mod (pbt T.blt call_int1S (by decide +kernel) (pa_cons (pe_ix (ix_seqK K) (pv 0) pe_int (fun _ _ => rfl)) pa_nil)) (pv 1)))
      (pss_cons (ps_asg (pe_op op_fdiv (pe_ix (ix_seqK K) (pv 0) pe_int (fun _ _ => rfl)) (pv 1)) (pg_sub (pv 0) pe_int set_list))
      (pss_one (ps_ret (pv 3))))) pss_nil)
      (pss_cons (ps_asg (pe_op op_add (pe_ix (ix_seqK K) (pv 0) pe_int (fun _ _ => rfl)) pe_int) (pg_sub (pv 0) pe_int set_list))
      (pss_cons (ps_set (i := 4) sc__law_draw.nd rfl (Or.inl rfl) (pe_op op_mod (pbt T.blt call_int1S (by decide +kernel) (pa_cons (pe_op op_mul (pbt T.blt call_int1S (by decide +kernel) (pa_cons (pe_op op_add (pe_ix (ix_seqK K) (pv 0) pe_int (fun _ _ => rfl)) (pe_op op_mul pe_int (pe_ix (ix_seqK K) (pv 0) pe_int (fun _ _ => rfl)))) pa_nil)) pe_int) pa_nil)) pe_int))
      (pss_cons (ps_set (i := 4) sc__law_draw.nd rfl (Or.inl rfl) (pe_op op_mod (pbt T.blt call_int1S (by decide +kernel) (pa_cons (pe_op op_mul (pv 4) (pe_op op_add (pe_op op_fdiv (pv 4) pe_int) pe_int)) pa_nil)) pe_int))
      (pss_cons (ps_set (i := 4) sc__law_draw.nd rfl (Or.inl rfl) (pe_op op_mod (pbt T.blt call_int1S (by decide +kernel) (pa_cons (pe_op op_mul (pv 4) (pe_op op_add (pe_op op_fdiv (pv 4) pe_int) pe_int)) pa_nil)) pe_int))
      (pss_one (ps_ret (pe_op op_mod (pbt T.blt call_int1S (by decide +kernel) (pa_cons (pe_op op_fdiv (pv 4) pe_int) pa_nil)) (pv 1)))))))))), ?_⟩)
  rintro n F0 H0 p cells pl left mix cnt ⟨n0, n1⟩ ho
  show SD _ _ (drawDs p n none none none) [(p, _)] _ _ _ _
  refine sd_seqM (DrawM p n) ?_ ?_
  · walk_at "dd"
    refine rd_handD rfl (atI_nat (j := 2) rfl) ?_
    walk_at "dd"
    refine isT_of (fun h => ?_) (fun h => ?_)
    · have e : left = 0 := by simpa [eqS] using h
      walk_at "dd"
      refine rd_handD rfl (atI_nat (j := 1) rfl) ?_
      walk_at "dd"
      refine rd_handD rfl (atI_nat (j := 0) rfl) ?_
      walk_at "dd"
      refine isT_of (fun h => ?_) (fun h => ?_)
      · have hl : pl < cells.length := by
          have := of_decide_eq_true h
          rw [List.length_map] at this
          omega
        walk_at "dd"
        refine rd_handD rfl (atI_nat (j := 0) rfl) ?_
        walk_at "dd"
        refine rd_handD rfl (atI_nat (j := 1) rfl) ?_
        refine rd_ix rfl rfl (atI_nat (xs := cells.map D.int) (v := .int (cells[pl]'hl)) (by rw [List.getElem?_map, List.getElem?_eq_getElem hl]; rfl)) ?_
        have hc := ho.pos _ (List.getElem_mem hl)
        generalize cells[pl]'hl = c at hc
        walk_at "dd"
        refine rd_handD rfl (atI_nat (j := 1) rfl) ?_
        walk_at "dd"
        refine gd_setL (i := 0) (j := 0) rfl ?_
        walk_at "dd"
        refine ⟨handL cells pl left mix cnt, 1, rfl, rfl, ?_⟩
        show SD _ _ (drawDs p n (some (.int c)) none none) [(p, .lst (handL cells (pl + 1) left mix cnt))] _ _ _ _
        walk_at "dd"
        refine rd_handD rfl (atI_nat (j := 3) rfl) ?_
        walk_at "dd"
        refine gd_setL (i := 0) (j := 0) rfl ?_
        walk_at "dd"
        refine ⟨handL cells (pl + 1) left mix cnt, 3, rfl, rfl, ?_⟩
        show SD _ _ (drawDs p n (some (.int c)) none none) [(p, .lst (handL cells (pl + 1) left _ cnt))] _ _ _ _
        have hm : 0 ≤ (mix * 69621 + c * 40692 + 23) % 2147483629 := Int.emod_nonneg _ (by decide)
        walk_at "dd"
        refine rd_intC ⟨by decide, by decide, by decide⟩ ?_
        walk_at "dd"
        refine isT_of (fun h => ?_) (fun h => ?_)
        · walk_at "dd"
          refine gd_setL (i := 0) (j := 0) rfl ?_
          walk_at "dd"
          refine ⟨handL cells (pl + 1) left _ cnt, 2, rfl, rfl, ?_⟩
          exact ⟨cells, pl + 1, c, _, cnt, _, _, _, rfl, rfl, ho.len, ho.pos, hc, hm, ho.cnt⟩
        · walk_at "dd"
          exact ⟨cells, pl + 1, left, _, cnt, _, _, _, rfl, rfl, ho.len, ho.pos, ho.left, hm, ho.cnt⟩
      · walk_at "dd"
        exact ⟨cells, pl, left, mix, cnt, _, _, _, rfl, rfl, ho⟩
    · walk_at "dd"
      exact ⟨cells, pl, left, mix, cnt, _, _, _, rfl, rfl, ho⟩
  · clear ho
    rintro ds μ ⟨cells, pl, left, mix, cnt, c, d, e, rfl, rfl, ho⟩
    walk_at "dd"
    refine rd_handD rfl (atI_nat (j := 2) rfl) ?_
    walk_at "dd"
    refine isT_of (fun h => ?_) (fun h => ?_)
    · walk_at "dd"
      refine rd_handD rfl (atI_nat (j := 2) rfl) ?_
      walk_at "dd"
      refine rd_handD rfl (atI_nat (j := 2) rfl) ?_
      walk_at "dd"
      refine rd_fdiv ⟨n0, n1⟩ ?_
      refine gd_setL (i := 0) (j := 0) rfl ?_
      walk_at "dd"
      refine ⟨handL cells pl left mix cnt, 2, rfl, rfl, ?_⟩
      walk_at "dd"
      have h0 := Int.emod_nonneg left (show n ≠ 0 by omega)
      refine ⟨⟨(left % n).toNat, ?_, ?_⟩, cells, pl, left / n, mix, cnt, rfl, ho.len, ho.pos, Int.ediv_nonneg ho.left (by omega), ho.mix, ho.cnt⟩
      · show D.int (left % n) = D.int (((left % n).toNat : Nat) : Int)
        rw [Int.toNat_of_nonneg h0]
      · rw [Int.toNat_of_nonneg h0]
        exact Int.emod_lt_of_pos _ n0
    · walk_at "dd"
      refine rd_handD rfl (atI_nat (j := 4) rfl) ?_
      walk_at "dd"
      refine gd_setL (i := 0) (j := 0) rfl ?_
      walk_at "dd"
      refine ⟨handL cells pl left mix cnt, 4, rfl, rfl, ?_⟩
      show SD _ _ (drawDs p n c d e) [(p, .lst (handL cells pl left mix (cnt + 1)))] _ _ _ _
      walk_at "dd"
      refine rd_handD rfl (atI_nat (j := 3) rfl) ?_
      walk_at "dd"
      refine rd_handD rfl (atI_nat (j := 4) rfl) ?_
      walk_at "dd"
      have a1 := Int.emod_nonneg ((mix + 7919 * (cnt + 1)) * 48271) (show (2147483647 : Int) ≠ 0 by decide)
      have a2 := Int.emod_lt_of_pos ((mix + 7919 * (cnt + 1)) * 48271) (show (0 : Int) < 2147483647 by decide)
      generalize (mix + 7919 * (cnt + 1)) * 48271 % 2147483647 = v at a1 a2
      refine rd_mulL ⟨by omega, by omega⟩ ?_
      walk_at "dd"
      have b1 := Int.emod_nonneg (v * (v / 1009 + 69621)) (show (2147483647 : Int) ≠ 0 by decide)
      have b2 := Int.emod_lt_of_pos (v * (v / 1009 + 69621)) (show (0 : Int) < 2147483647 by decide)
      generalize v * (v / 1009 + 69621) % 2147483647 = u at b1 b2
      refine rd_mulL ⟨by omega, by omega⟩ ?_
      walk_at "dd"
      generalize (u * (u / 2003 + 40014) % 2147483563 / 16) = y
      have h0 := Int.emod_nonneg y (show n ≠ 0 by omega)
      refine ⟨⟨(y % n).toNat, ?_, ?_⟩, cells, pl, left, mix, cnt + 1, rfl, ho.len, ho.pos, ho.left, ho.mix, by have := ho.cnt; omega⟩
      · show D.int (y % n) = D.int (((y % n).toNat : Nat) : Int)
        rw [Int.toNat_of_nonneg h0]
      · rw [Int.toNat_of_nonneg h0]
        exact Int.emod_lt_of_pos _ n0
/-- some[_law_draw(hand, len(some))] -/
abbrev sp_any (K : PySem.W.Frag) : Sp := SpH K (fun a : D × List D => [a.1]) (fun a => seqOf a.1 = some a.2 ∧ 0 < a.2.length ∧ a.2.length ≤ 100000) fun a r => r ∈ a.2
theorem ok_any (T : Txt K mg A AI FD) : FnOk P w K mg base CX0 2 (A 32) (FD 32) ["hand", "some"] (sp_any K) := by
  have G__law_draw : FnOk P w K mg base CX0 1 (A 31) (FD 31) ["hand", "many"] (sp_draw K) := ok_draw T
  refine okH T.d__law_any sc__law_any (fun _ => rfl) (fun cdv Ar outer s H E hr => ⟨_, (pss_one (ps_ret (pe_ix (ix_seqK K) (pv 1) (pc0 T.d__law_draw G__law_draw (hr.mono (by first | decide | exact Nat.le_refl _)) (pa_cons (pv 0) (pa_cons (pb T.blt (call_lenK K) (by decide +kernel) (pa_cons (pv 1) pa_nil)) pa_nil))) (fun _ _ => rfl)))), ?_⟩)
  rintro ⟨a, l⟩ F0 H0 p ⟨h1, h2, h3⟩
  show SD _ _ [some _, some a] [] _ _ _ _
  walk_at "dd"
  refine cd_len rfl h1 ?_
  walk_at "dd"
  have h2' : 0 < l.length := h2
  have h3' : l.length ≤ 100000 := h3
  refine ⟨_, p, rfl, rfl, ⟨by omega, by omega⟩, ?_⟩
  rintro _ ⟨k, rfl, hk⟩
  have hk' : k < l.length := Int.ofNat_lt.mp hk
  refine rd_ix rfl h1 (atI_nat (v := l[k]'hk') (List.getElem?_eq_getElem hk')) ?_
  exact List.getElem_mem hk'
/-! ### _law_is, of two equal things -/
def PlainN : Nat → D → Prop
  | 0, d => scalD d d = true
  | n + 1, d => scalD d d = true ∨ ∃ l, (d = .tup l ∨ d = .lst l) ∧ l.length ≤ 100000 ∧ ∀ y ∈ l, PlainN n y
abbrev sp_is (K : PySem.W.Frag) (n : Nat) : Sp := SpP K (fun d : D => [d, d]) (PlainN n) fun _ r => r = .bl true
theorem zip_self (l : List D) : zipD l l = l.map fun u => D.tup [u, u] := by
  unfold zipD
  rw [List.zipWith_self]
theorem all_true (l : List D) : l.map (fun _ => D.bl true) = (l.map fun _ => true).map D.bl := by rw [List.map_map]; rfl
theorem ok_is_step (T : Txt K mg A AI FD) (n : Nat) (sp : Sp) (hsp : ∀ m, n = m + 1 → sp = sp_is K m) (G__law_is : FnOk P w K mg base CX0 n (A 33) (FD 33) ["answer", "due"] sp) : FnOk P w K mg base CX0 (n + 1) (A 33) (FD 33) ["answer", "due"] (sp_is K n) := by
  refine okP T.d__law_is sc__law_is (fun _ => rfl) (fun cdv Ar outer s H E hr => ⟨_, (pss_cons (ps_if (PW.pt (pw_or (pt_cmpR op_isN (pv 1) pe_non (nomark _)) (pw_or1 (pt_cmpR op_isN (pv 0) pe_non (nomark _))))) (pss_one (ps_ret (pe_and (pe_cmpR op_isN (pv 1) pe_non (nomark _)) (pe_one (pe_cmpR op_isN (pv 0) pe_non (nomark _)))))) pss_nil)
      (pss_cons (ps_if (pt_val (pb T.blt (call_isiTK K) (by decide +kernel) (pa_cons (pv 1) (pa_cons (pe_tup (pa_cons (pty T.blt PyProof.Rows.boot_tuple) (pa_cons (pty T.blt PyProof.Rows.boot_list) pa_nil))) pa_nil)))) (pss_cons (ps_if (PW.pt (pw_or (pt_cmpR op_ne (pb T.blt (call_isiK1 K) (by decide +kernel) (pa_cons (pv 0) (pa_cons (pty T.blt PyProof.Rows.boot_tuple) pa_nil))) (pb T.blt (call_isiK1 K) (by decide +kernel) (pa_cons (pv 1) (pa_cons (pty T.blt PyProof.Rows.boot_tuple) pa_nil))) (nomark _)) (pw_or1 (pt_cmpR op_ne (pb T.blt (call_isiK1 K) (by decide +kernel) (pa_cons (pv 0) (pa_cons (pty T.blt PyProof.Rows.boot_list) pa_nil))) (pb T.blt (call_isiK1 K) (by decide +kernel) (pa_cons (pv 1) (pa_cons (pty T.blt PyProof.Rows.boot_list) pa_nil))) (nomark _))))) (pss_one (ps_ret pe_bl)) pss_nil)
      (pss_one (ps_ret (pe_and (pe_cmpR op_eq (pb T.blt (call_lenK K) (by decide +kernel) (pa_cons (pv 0) pa_nil)) (pb T.blt (call_lenK K) (by decide +kernel) (pa_cons (pv 1) pa_nil)) (nomark _)) (pe_one (pb T.blt (cr_allK K) (by decide +kernel) (pa_cons (pe_lc (own := [("one", 2), ("other", 3)]) (g := gTup K 2 (gCons (gName 2) (gCons (gName 3) gNil))) (tt := tYes) rfl sc__law_is.nd (pi_zipA rfl (T.blt "zip" (by decide)) (pa_cons (pv 0) (pa_cons (pv 1) pa_nil))) (blkOk_by (own := [("one", 2), ("other", 3)]) (N := N__law_is) (sc := defScope s__law_is) (by decide +kernel)) (fun _ _ _ _ _ => pg_tup rfl (pgs_cons (pg_name (i := 2) sc__law_is.nd rfl (Or.inl rfl)) (pgs_cons (pg_name (i := 3) sc__law_is.nd rfl (Or.inl rfl)) pgs_nil))) (fun _ _ _ _ _ => pts_nil) (fun _ _ _ _ _ => (pc0 T.d__law_is G__law_is (hr.mono (by first | decide | exact Nat.le_refl _)) (pa_cons (pv 2) (pa_cons (pv 3) pa_nil))))) pa_nil))))))) pss_nil)
      (pss_cons (ps_if (PW.pt (pw_or (pt_cmpR op_ne (pb T.blt (call_isiK1 K) (by decide +kernel) (pa_cons (pv 0) (pa_cons (pty T.blt PyProof.Rows.boot_bool) pa_nil))) (pb T.blt (call_isiK1 K) (by decide +kernel) (pa_cons (pv 1) (pa_cons (pty T.blt PyProof.Rows.boot_bool) pa_nil))) (nomark _)) (pw_or1 (pt_cmpR op_ne (pb T.blt (call_isiK1 K) (by decide +kernel) (pa_cons (pv 0) (pa_cons (pty T.blt PyProof.Rows.boot_int) pa_nil))) (pb T.blt (call_isiK1 K) (by decide +kernel) (pa_cons (pv 1) (pa_cons (pty T.blt PyProof.Rows.boot_int) pa_nil))) (nomark _))))) (pss_one (ps_ret pe_bl)) pss_nil)
      (pss_one (ps_ret (pe_and (pe_cmpR op_eq (pb T.blt (call_isiK1 K) (by decide +kernel) (pa_cons (pv 0) (pa_cons (pty T.blt PyProof.Rows.boot_str) pa_nil))) (pb T.blt (call_isiK1 K) (by decide +kernel) (pa_cons (pv 1) (pa_cons (pty T.blt PyProof.Rows.boot_str) pa_nil))) (nomark _)) (pe_one (pe_cmpR op_eq (pv 0) (pv 1) (nomark _))))))))), ?_⟩)
  intro d F0 H0 hd
  show SD _ _ [some _, some _, none, none] [] _ _ _ _
  have two : scalD d d = true ∨ ∃ m l, n = m + 1 ∧ (d = .tup l ∨ d = .lst l) ∧ l.length ≤ 100000 ∧ ∀ y ∈ l, PlainN m y := by
    cases n with
    | zero => exact .inl hd
    | succ m =>
      rcases hd with h | ⟨l, h1, h2, h3⟩
      · exact .inl h
      · exact .inr ⟨m, l, rfl, h1, h2, h3⟩
  rcases two with hs | ⟨m, l, hn, hd2, hl, hy⟩
  · cases d <;> first | (exact absurd hs Bool.false_ne_true) | skip
    · walk_at "v"
      rfl
    · walk_at "v"
      simp [eqS]
    · walk_at "v"
      simp [eqS]
    · walk_at "v"
      simp [eqS]
  · obtain rfl := hsp m hn
    have key : ∀ (i : Nat) (y : D), (zipD l l)[i]? = some y → ∃ u, y = .tup [u, u] ∧ PlainN m u := fun i y h => by
      rw [zip_self, List.getElem?_map] at h
      cases q : l[i]? with
      | none => rw [q] at h; cases h
      | some u =>
        rw [q] at h
        exact ⟨u, (Option.some.inj h).symm, hy u (List.mem_of_getElem? q)⟩
    rcases hd2 with rfl | rfl
    all_goals
      walk_at "v"
      rw [show eqS (D.int (l.length : Int)) (D.int (l.length : Int)) = true from by simp [eqS]]
      walk_at "v"
      refine ed_map (gown_two K 2 3 (by decide)) (fun _ => .bl true) ?_
      refine id_zip rfl ?_
      walk_at "dd"
      refine ⟨_, _, _, _, rfl, rfl, by rw [zip_self, List.length_map]; exact hl, fun i y h => ?_, ?_⟩
      · obtain ⟨u, rfl, hu⟩ := key i y h
        walk_at "dd"
        refine ⟨u, rfl, hu, ?_⟩
        rintro _ rfl
        exact ⟨rfl, rfl⟩
      · walk_at "dd"
        rw [all_true]
        refine cd_all rfl ?_
        simp
theorem ok_is (T : Txt K mg A AI FD) : ∀ n, FnOk P w K mg base CX0 (n + 1) (A 33) (FD 33) ["answer", "due"] (sp_is K n)
  | 0 => ok_is_step T 0 (fun _ _ _ _ => False) (fun m h => by cases h) ⟨fun _ _ _ _ h => h.elim, fun _ _ _ _ _ _ _ _ _ _ _ _ _ h => h.elim⟩
  | n + 1 => ok_is_step T (n + 1) (sp_is K n) (fun m h => by cases h; rfl) (ok_is T n)
end
end Pf
set_option Elab.async false
set_option linter.all false
set_option maxRecDepth 100000
set_option maxHeartbeats 2000000
namespace Pf
open PySem L2 RZ DL
local macro_rules | `(tactic| walk_at "d") => `(tactic| first
  | with_reducible refine sd_seq ?_
  | with_reducible refine sd_if ?_
  | with_reducible refine sd_ret ?_
  | with_reducible refine sd_asg ?_
  | with_reducible refine sd_next ?_
  | with_reducible refine sd_brk ?_
  | with_reducible refine sd_cont ?_
  | with_reducible refine sd_dropC ?_
  | with_reducible refine gd_name ?_
  | with_reducible refine gds_nil ?_
  | with_reducible refine gds_cons ?_
  | with_reducible refine gd_tup rfl rfl ?_
  | with_reducible refine ed_int ?_
  | with_reducible refine ed_bl ?_
  | with_reducible refine ed_str ?_
  | with_reducible refine ed_ty ?_
  | with_reducible refine ed_non ?_
  | with_reducible refine ed_ref ?_
  | ((with_reducible refine rd_catL ?hk ?hl ?_); (case hk => exact rfl); (case hl => exact (Nat.le_of_ble_eq_true rfl)))
  | ((with_reducible refine' cd_isD ?hk ?hh ?hc ?hD ?hkk ?hdd ?_); (case hk => exact rfl); (case hh => exact rfl); (case hc => exact rfl); (case hD => assumption); (case hkk => assumption); (case hdd => assumption))
  | ((with_reducible refine' cd_isDT ?hk ?hh ?hc ?hD ?hkk ?hdd ?_); (case hk => exact rfl); (case hh => exact rfl); (case hc => exact rfl); (case hD => assumption); (case hkk => assumption); (case hdd => assumption))
  | ((with_reducible refine' ed_var ?hv ?_); (case hv => exact rfl))
  | with_reducible refine ed_op ?_
  | with_reducible refine ed_un ?_
  | with_reducible refine rd_orN ?_
  | with_reducible refine rd_andN ?_
  | with_reducible refine rd_and1 ?_
  | with_reducible refine rd_shrN ?_
  | with_reducible refine rd_shr1 ?_
  | with_reducible refine rd_int ?_
  | with_reducible refine rd_bool ?_
  | with_reducible refine rd_mod (by first | assumption | decide) ?_
  | with_reducible refine rd_fdiv (by first | assumption | decide) ?_
  | with_reducible refine rd_mulR (by decide) ?_
  | with_reducible refine rd_mulL (by first | decide | assumption) ?_
  | with_reducible refine ud_int ?_
  | with_reducible refine rd_isN ?_
  | with_reducible refine rd_notN ?_
  | with_reducible refine rd_eq rfl ?_
  | with_reducible refine rd_ne rfl ?_
  | with_reducible refine td_test ?_
  | with_reducible refine td_B ?_
  | with_reducible refine td_not ?_
  | with_reducible refine td_and ?_
  | with_reducible refine td_or ?_
  | with_reducible refine td_yes ?_
  | with_reducible refine ed_andV ?_
  | with_reducible refine ed_orV ?_
  | with_reducible refine ed_notV ?_
  | with_reducible refine ed_if ?_
  | with_reducible refine ed_chain ?_
  | with_reducible refine ed_isTL rfl ?_
  | ((with_reducible refine And.intro (show okD _ from ?hok) ?_); (case hok => first | assumption | exact rfl))
  | with_reducible refine ed_cb ?_
  | with_reducible refine ad_nil ?_
  | with_reducible refine ad_cons ?_
  | ((with_reducible refine ed_tup ?_))
  | ((with_reducible refine ed_lst ?_))
  | with_reducible refine ed_dnew ?_
  | with_reducible refine And.intro (show List.length (_ :: _) ≤ 100000 from Nat.le_of_ble_eq_true rfl) ?_
  | with_reducible refine od_none ?_
  | with_reducible refine od_some ?_
  | with_reducible refine ed_slL rfl ?_
  | with_reducible refine ed_slT rfl ?_
  | with_reducible refine id_list rfl ?_
  | with_reducible refine id_tup rfl ?_
  | ((with_reducible refine cd_isInt rfl ?hok ?_); (case hok => first | assumption | exact rfl))
  | ((with_reducible refine cd_isBool rfl ?hok ?_); (case hok => first | assumption | exact rfl))
  | ((with_reducible refine cd_isStr rfl ?hok ?_); (case hok => first | assumption | exact rfl))
  | ((with_reducible refine cd_isTup rfl ?hok ?_); (case hok => first | assumption | exact rfl))
  | ((with_reducible refine cd_isLst rfl ?hok ?_); (case hok => first | assumption | exact rfl))
  | ((with_reducible refine' cd_len ?hk ?ha ?_); (case hk => exact rfl); (case ha => exact rfl))
  | ((with_reducible refine' cd_tup ?hk ?ha ?_); (case hk => exact rfl); (case ha => exact rfl))
  | with_reducible refine cd_abs ?_
  | with_reducible refine cd_int ?_
  | ((with_reducible refine ed_callP rfl ?_))
  | ((with_reducible refine ed_callE (by assumption) rfl ?_))
  | ((with_reducible refine ed_callX rfl ?_))
  | ((with_reducible refine ed_callH rfl ?_))
  | (show asB (D.bl _) _; dsimp only [asB])
  | (show asI (D.int _) _; dsimp only [asI])
  | (show asU (D.tup _) _; dsimp only [asU])
  | (show asL (D.lst _) _; dsimp only [asL])
  | with_reducible refine isT_t ?_
  | with_reducible refine isT_f ?_)
local macro_rules | `(tactic| walk_at "dd") => `(tactic| (repeat (walk_at "d")))
local macro_rules | `(tactic| walk_at "v") => `(tactic| (repeat (first | walk_at "d" | (refine isT_val (c := true) rfl (isT_t ?_)) | (refine isT_val (c := false) rfl (isT_f ?_)))))

section
variable {A AI : Nat → Addr} {FD : Nat → FuncData}
/-- what word stands for which error -/
def Wd (A : Nat → Addr) (cls : Value) (fo : Option (List (Str × V))) (d : D) : Prop :=
  (∃ i : Int, cls = .ref (A 12) ∧ fo = some [(("at" : Str), toV (.int i))] ∧ d = .tup [.str "coins", .int i]) ∨ (cls = .ref (A 7) ∧ fo = none ∧ d = .str "number")
theorem word_gives {X : Cx} (T : Txt X.K X.mg A AI FD) (g : Addr) (cdg : Value) (q : Str) : Gives X N__law_word "_law_word" (defScope s__law_word) g cdg (defBody s__law_word) "call" q (TTw X.K (Wd A)) := by
  intro f c' s H Q tl act hc h
  obtain ⟨F, r, eF, hQ, ht⟩ := h
  refine ⟨_, pss_cons (ps_set (i := 1) sc__law_word.nd rfl (Or.inl rfl) pe_str) (pss_cons (ps_try_as (X := (cxOf C8.CX0 X.prog X.w X.K X.mg X.base N__law_word "_law_word" (defScope s__law_word) g cdg X.A X.stack s H C8.E0).nox) (c := .ref (A 6)) (i := 2)
      (tb := fun W D σ H => ∃ Ech : XK, (∀ cls d σ' H', Ech cls d H' → σ'.length = 5 → W cls d σ' H') ∧ σ[0]? = some (some (.ref f)) ∧ H c' = some (LamX.CodeO c' q) ∧ tl Ech H fun _ H' => D.nx σ H')
      rfl rfl sc__law_word.nd rfl rfl ⟨by rfl, by decide, .inl T.e_CoinError.gC⟩ LamX.takes0 (fun W pn xe tk _ => ?hb) (fun a oe cls d pn hz hf =>
        (pss_cons (ps_set (i := 3) sc__law_word.nd rfl (Or.inl rfl) (pe_lst (pa_cons (pb T.blt (call_isDK X.K hz hf) (by decide +kernel) (pa_cons (pv 2) (pa_cons (pe_glob (v := V.ref (A 12)) (by rfl) T.e_BadCoins.gC rfl) pa_nil))) (pa_cons (pb T.blt (call_isDK X.K hz hf) (by decide +kernel) (pa_cons (pv 2) (pa_cons (pe_glob (v := V.ref (A 7)) (by rfl) T.e_BadNumber.gC rfl) pa_nil))) (pa_cons (pb T.blt (call_isDK X.K hz hf) (by decide +kernel) (pa_cons (pv 2) (pa_cons (pe_glob (v := V.ref (A 8)) (by rfl) T.e_BadPurse.gC rfl) pa_nil))) (pa_cons (pb T.blt (call_isDK X.K hz hf) (by decide +kernel) (pa_cons (pv 2) (pa_cons (pe_glob (v := V.ref (A 9)) (by rfl) T.e_BadSpan.gC rfl) pa_nil))) pa_nil))))))
      (pss_cons (ps_set (i := 3) sc__law_word.nd rfl (Or.inl rfl) (pe_op (op_catLK X.K) (pv 3) (pe_lst (pa_cons (pb T.blt (call_isDK X.K hz hf) (by decide +kernel) (pa_cons (pv 2) (pa_cons (pe_glob (v := V.ref (A 10)) (by rfl) T.e_NoSystem.gC rfl) pa_nil))) (pa_cons (pb T.blt (call_isDK X.K hz hf) (by decide +kernel) (pa_cons (pv 2) (pa_cons (pe_glob (v := V.ref (A 11)) (by rfl) T.e_NotPayable.gC rfl) pa_nil))) (pa_cons (pb T.blt (call_isDK X.K hz hf) (by decide +kernel) (pa_cons (pv 2) (pa_cons (pe_glob (v := V.ref (A 13)) (by rfl) T.e_TooMany.gC rfl) pa_nil))) pa_nil))))))
      (pss_cons (ps_set (i := 4) sc__law_word.nd rfl (Or.inl rfl) (pe_lst (pa_cons pe_str (pa_cons pe_str (pa_cons pe_str (pa_cons pe_str (pa_cons pe_str (pa_cons pe_str (pa_cons pe_str pa_nil)))))))))
      (pss_cons (ps_set (i := 1) sc__law_word.nd rfl (Or.inl rfl) (pe_ifExp (PW.pt (pw_and (pt_cmpR op_eq (pe_cntK X.K (pv 3) (pa_cons pe_bl pa_nil)) pe_int (nomark _)) (pw_and1 (pt_val (pb T.blt (call_isDK X.K hz hf) (by decide +kernel) (pa_cons (pv 2) (pa_cons (pty (T := "ValueError") T.blt (by decide +kernel)) pa_nil))))))) (pe_ix (ix_seqK X.K) (pv 4) (pe_idxK X.K (pv 3) (pa_cons pe_bl pa_nil)) (fun _ _ => rfl)) pe_str))
      (pss_one (ps_set (i := 1) sc__law_word.nd rfl (Or.inl rfl) (pe_ifExp (pt_cmpR op_eq (pv 1) pe_str (nomark _)) (pe_tup (pa_cons pe_str (pa_cons (pe_xf T.f_BadCoins T.e_BadCoins.no hz hf (pv 2)) pa_nil))) (pe_ifExp (pt_cmpR op_eq (pv 1) pe_str (nomark _)) (pe_tup (pa_cons pe_str (pa_cons (pe_xf T.f_TooMany T.e_TooMany.no hz hf (pv 2)) pa_nil))) (pv 1))))))))))) (pss_one (ps_ret (pv 1)))), ?_⟩
  case hb =>
    refine ⟨fun pins s' σ H' D I h' => ?_⟩
    obtain ⟨Ech, hW, h1, h2, h3⟩ := h'
    exact (pss_one (ps_expr (act _ pn xe Ech _ _ (takes_len tk) (fun cls d σ' H' hE hl => hW cls d σ' H' hE hl)))).run pins s' σ H' D I ⟨h1, h2, h3⟩
  · refine ⟨fun cls d H' => ∀ σ', σ'.length = 5 → _, fun cls d σ' H' hE hl => hE σ' hl, rfl, hc, ht _ _ (fun cls od H' fo dd e1 hW hx hr => ?_) fun v H' e1 hr => ?_⟩
    · rintro σ' hl
      have fin : ∀ (N' : DS → Mu → Prop), N' = (fun ds' _ => ∃ d, ds'[1]? = some (some d) ∧ r d) → ∀ (F0 : Hp) (a : Addr) (tsu : TS), SD ⟨X.K, F, H', none⟩ tsu [none, none, some (.adr a), none, none] [] N' (fun _ _ => False) noB noB → H' a = none →
          tsu { nx := fun σ2 H2 => tRet (tVar 1) { nx := fun _ H' => Q .non H', rt := Q } (σ2.set 2 none) H2, rt := Q, bk := fun _ _ => False, ct := fun _ _ => False } (σ'.set 2 (some (.ref a))) H' := by
        rintro _ rfl _ a tsu h na
        have rp : Rep X.K F (σ'.set 2 (some (.ref a))) [none, none, some (.adr a), none, none] := by
          refine ⟨by simp [hl], fun i d hi => ?_⟩
          match i, hi with
          | 0, hi => cases hi
          | 1, hi => cases hi
          | 2, hi =>
            cases hi
            exact ⟨.ref a, by simp [hl], .adr a⟩
          | 3, hi => cases hi
          | 4, hi => cases hi
          | n + 5, hi => simp at hi
        refine h F H' _ (okb_start (eF.tr e1) fun _ z => by cases z) rp _ (fun F2 H2 σ2 ds2 μ2 ee ok2 r2 ⟨d2, q1, q2⟩ => ?_) (fun _ _ _ _ _ _ _ z => z.elim) (fun _ _ _ _ _ _ _ _ z => z.elim) (fun _ _ _ _ _ _ _ _ z => z.elim)
        obtain ⟨v, g1, g2⟩ := r2.2 1 d2 q1
        refine ⟨v, by rw [List.getElem?_set_ne (by decide)]; exact g1, ?_⟩
        have e2 : Ex H' H2 := fun b o z => ok2.fr b o z (by intro y; cases y)
        refine hQ F2 H2 v d2 ok2.ff ok2.ext (e1.tr e2) (fun b o z => ?_) g2 q2
        rcases ok2.new b o z with y | y
        · exact .inl y
        · exact .inr (ex_none e1 y)
      rcases hW with ⟨i, rfl, rfl, rfl⟩ | ⟨rfl, rfl, rfl⟩
      · refine ⟨true, T.m_BadCoins, fun _ a na => ?_, fun z => by cases z⟩
        have hk0 := T.k_BadCoins_BadNumber
        have hk1 := T.k_BadCoins_BadPurse
        have hk2 := T.k_BadCoins_BadSpan
        have hk3 := T.k_BadCoins_NoSystem
        have hk4 := T.k_BadCoins_NotPayable
        have hk5 := T.k_BadCoins_BadCoins
        have hk6 := T.k_BadCoins_TooMany
        have hkv := T.v_BadCoins
        have hD := T.x_BadCoins
        obtain ⟨dd, rfl, hx⟩ := hx
        have hdd : ∀ dd', some dd = some dd' → ∃ fs, H' dd' = some (.xd fs) := fun dd' z => by cases z; exact ⟨_, hx⟩
        refine fin _ rfl F a _ ?_ na
        walk_at "dd"
        refine ed_count (bs := [true, false, false, false, false, false, false]) rfl ?_
        walk_at "dd"
        refine ⟨rfl, ?_⟩
        walk_at "dd"
        refine ⟨rfl, ?_⟩
        walk_at "v"
        refine ed_index (bs := [true, false, false, false, false, false, false]) (j := 0) rfl ?_
        walk_at "dd"
        refine ⟨rfl, ?_⟩
        walk_at "dd"
        refine ⟨rfl, rfl, by decide, ?_⟩
        refine rd_ix rfl rfl (atI_nat (j := 0) rfl) ?_
        walk_at "v"
        refine ed_xf (dd := dd) (y := .int i) rfl rfl hx rfl rfl ?_
        walk_at "v"
        refine ⟨rfl, ?_⟩
        walk_at "v"
        exact ⟨_, rfl, hr⟩
      · refine ⟨true, T.m_BadNumber, fun _ a na => ?_, fun z => by cases z⟩
        have hk0 := T.k_BadNumber_BadNumber
        have hk1 := T.k_BadNumber_BadPurse
        have hk2 := T.k_BadNumber_BadSpan
        have hk3 := T.k_BadNumber_NoSystem
        have hk4 := T.k_BadNumber_NotPayable
        have hk5 := T.k_BadNumber_BadCoins
        have hk6 := T.k_BadNumber_TooMany
        have hkv := T.v_BadNumber
        have hD := T.x_BadNumber
        have hx' : od = none := hx
        subst hx'
        have hdd : ∀ dd', (none : Option Addr) = some dd' → ∃ fs, H' dd' = some (.xd fs) := fun dd' z => by cases z
        refine fin _ rfl F a _ ?_ na
        walk_at "dd"
        refine ed_count (bs := [false, true, false, false, false, false, false]) rfl ?_
        walk_at "dd"
        refine ⟨rfl, ?_⟩
        walk_at "dd"
        refine ⟨rfl, ?_⟩
        walk_at "v"
        refine ed_index (bs := [false, true, false, false, false, false, false]) (j := 1) rfl ?_
        walk_at "dd"
        refine ⟨rfl, ?_⟩
        walk_at "dd"
        refine ⟨rfl, rfl, by decide, ?_⟩
        refine rd_ix rfl rfl (atI_nat (j := 1) rfl) ?_
        walk_at "v"
        exact ⟨_, rfl, hr⟩
    · exact ⟨.str "told", rfl, hQ F H' (.str "told") (.str "told") Ex.rfl (eF.tr e1) e1 (fun b o z => .inl z) (.str _) hr⟩
end
end Pf
set_option Elab.async false
set_option linter.all false
set_option maxRecDepth 100000
set_option maxHeartbeats 2000000
namespace Pf
open PySem L2 RZ DL M45
local macro_rules | `(tactic| walk_at "d") => `(tactic| first
  | with_reducible refine sd_seq ?_
  | with_reducible refine sd_if ?_
  | with_reducible refine sd_ret ?_
  | with_reducible refine sd_asg ?_
  | with_reducible refine sd_next ?_
  | with_reducible refine sd_brk ?_
  | with_reducible refine sd_cont ?_
  | with_reducible refine sd_dropC ?_
  | with_reducible refine gd_name ?_
  | with_reducible refine gds_nil ?_
  | with_reducible refine gds_cons ?_
  | with_reducible refine gd_tup rfl rfl ?_
  | with_reducible refine ed_int ?_
  | with_reducible refine ed_bl ?_
  | with_reducible refine ed_str ?_
  | with_reducible refine ed_ty ?_
  | with_reducible refine ed_non ?_
  | with_reducible refine ed_ref ?_
  | ((with_reducible refine rd_catL ?hk ?hl ?_); (case hk => exact rfl); (case hl => exact (Nat.le_of_ble_eq_true rfl)))
  | ((with_reducible refine' cd_isD ?hk ?hh ?hc ?hD ?hkk ?hdd ?_); (case hk => exact rfl); (case hh => exact rfl); (case hc => exact rfl); (case hD => assumption); (case hkk => assumption); (case hdd => assumption))
  | ((with_reducible refine' cd_isDT ?hk ?hh ?hc ?hD ?hkk ?hdd ?_); (case hk => exact rfl); (case hh => exact rfl); (case hc => exact rfl); (case hD => assumption); (case hkk => assumption); (case hdd => assumption))
  | ((with_reducible refine' ed_var ?hv ?_); (case hv => exact rfl))
  | with_reducible refine ed_op ?_
  | with_reducible refine ed_un ?_
  | with_reducible refine rd_orN ?_
  | with_reducible refine rd_andN ?_
  | with_reducible refine rd_and1 ?_
  | with_reducible refine rd_shrN ?_
  | with_reducible refine rd_shr1 ?_
  | with_reducible refine rd_int ?_
  | with_reducible refine rd_bool ?_
  | with_reducible refine rd_mod (by first | assumption | decide) ?_
  | with_reducible refine rd_fdiv (by first | assumption | decide) ?_
  | with_reducible refine rd_mulR (by decide) ?_
  | with_reducible refine rd_mulL (by first | decide | assumption) ?_
  | with_reducible refine ud_int ?_
  | with_reducible refine rd_isN ?_
  | with_reducible refine rd_notN ?_
  | with_reducible refine rd_eq rfl ?_
  | with_reducible refine rd_ne rfl ?_
  | with_reducible refine td_test ?_
  | with_reducible refine td_B ?_
  | with_reducible refine td_not ?_
  | with_reducible refine td_and ?_
  | with_reducible refine td_or ?_
  | with_reducible refine td_yes ?_
  | with_reducible refine ed_andV ?_
  | with_reducible refine ed_orV ?_
  | with_reducible refine ed_notV ?_
  | with_reducible refine ed_if ?_
  | with_reducible refine ed_chain ?_
  | with_reducible refine ed_isTL rfl ?_
  | ((with_reducible refine And.intro (show okD _ from ?hok) ?_); (case hok => first | assumption | exact rfl))
  | with_reducible refine ed_cb ?_
  | with_reducible refine ad_nil ?_
  | with_reducible refine ad_cons ?_
  | ((with_reducible refine ed_tup ?_))
  | ((with_reducible refine ed_lst ?_))
  | with_reducible refine ed_dnew ?_
  | with_reducible refine And.intro (show List.length (_ :: _) ≤ 100000 from Nat.le_of_ble_eq_true rfl) ?_
  | with_reducible refine od_none ?_
  | with_reducible refine od_some ?_
  | with_reducible refine ed_slL rfl ?_
  | with_reducible refine ed_slT rfl ?_
  | with_reducible refine id_list rfl ?_
  | with_reducible refine id_tup rfl ?_
  | ((with_reducible refine cd_isInt rfl ?hok ?_); (case hok => first | assumption | exact rfl))
  | ((with_reducible refine cd_isBool rfl ?hok ?_); (case hok => first | assumption | exact rfl))
  | ((with_reducible refine cd_isStr rfl ?hok ?_); (case hok => first | assumption | exact rfl))
  | ((with_reducible refine cd_isTup rfl ?hok ?_); (case hok => first | assumption | exact rfl))
  | ((with_reducible refine cd_isLst rfl ?hok ?_); (case hok => first | assumption | exact rfl))
  | ((with_reducible refine' cd_len ?hk ?ha ?_); (case hk => exact rfl); (case ha => exact rfl))
  | ((with_reducible refine' cd_tup ?hk ?ha ?_); (case hk => exact rfl); (case ha => exact rfl))
  | with_reducible refine cd_abs ?_
  | with_reducible refine cd_int ?_
  | ((with_reducible refine ed_callP rfl ?_))
  | ((with_reducible refine ed_callE (by assumption) rfl ?_))
  | ((with_reducible refine ed_callX rfl ?_))
  | ((with_reducible refine ed_callH rfl ?_))
  | (show asB (D.bl _) _; dsimp only [asB])
  | (show asI (D.int _) _; dsimp only [asI])
  | (show asU (D.tup _) _; dsimp only [asU])
  | (show asL (D.lst _) _; dsimp only [asL])
  | with_reducible refine isT_t ?_
  | with_reducible refine isT_f ?_)
local macro_rules | `(tactic| walk_at "dd") => `(tactic| (repeat (walk_at "d")))
local macro_rules | `(tactic| walk_at "v") => `(tactic| (repeat (first | walk_at "d" | (refine isT_val (c := true) rfl (isT_t ?_)) | (refine isT_val (c := false) rfl (isT_f ?_)))))

section
variable {P : Program} {w : World} {K : PySem.W.Frag} {mg : Str → Option Value} {base : Heap} {A AI : Nat → Addr} {FD : Nat → FuncData}
/-! ### the hand -/
theorem ok_hand (T : Txt K mg A AI FD) : FnOk P w K mg base CX0 1 (A 30) (FD 30) ["script"] (spHand K) := by
  refine okHand T.d__law_hand sc__law_hand (fun cdv Ar outer s H E hr => ⟨_, (pss_cons (ps_setLc (i := 1) (own := [("cell", 2)]) (g := gName 2) (tt := tYes) rfl sc__law_hand.nd rfl rfl (sw_true rfl rfl rfl (by decide +kernel)) (pi_listK K (pe_slice (sl_listK K) (pv 0) po_none (po_some pe_int))) (blkOk_by (own := [("cell", 2)]) (N := N__law_hand) (sc := defScope s__law_hand) (by decide +kernel)) (fun _ _ _ _ _ => pg_name (i := 2) sc__law_hand.nd rfl (Or.inl rfl)) (fun _ _ _ _ _ => pts_nil) (fun _ _ _ _ _ => (pb T.blt call_absS (by decide +kernel) (pa_cons (pbt T.blt call_int1S (by decide +kernel) (pa_cons (pv 2) pa_nil)) pa_nil))))
      (pss_one (ps_ret (pe_lst (pa_cons (pv 1) (pa_cons pe_int (pa_cons pe_int (pa_cons (pe_op op_add pe_int (pe_op op_mul pe_int (pb T.blt (call_lenK K) (by decide +kernel) (pa_cons (pv 1) pa_nil)))) (pa_cons pe_int pa_nil))))))))), ?_⟩)
  intro F0 H0 ns hn
  show SD _ _ [some _, none, none] [] _ _ _ _
  walk_at "dd"
  refine ed_map (gown_name 2) (fun y => .int (if toI y < 0 then -toI y else toI y)) ?_
  walk_at "dd"
  have hlen : (cutD (ns.map D.int) none (some 63)).length ≤ 63 := by
    unfold cutD
    rw [List.length_take, List.length_drop, List.length_map]
    omega
  have hmem : ∀ (i : Nat) (y : D), (cutD (ns.map D.int) none (some 63))[i]? = some y → ∃ z : Int, y = .int z := fun i y hy => by
    have h1 := List.mem_of_getElem? hy
    have h2 := List.mem_of_mem_drop (List.mem_of_mem_take h1)
    obtain ⟨z, _, rfl⟩ := List.mem_map.mp h2
    exact ⟨z, rfl⟩
  generalize cutD (ns.map D.int) none (some 63) = cut at hlen hmem
  refine ⟨by omega, fun i y hy => ?_, ?_⟩
  · obtain ⟨z, rfl⟩ := hmem i y hy
    walk_at "dd"
    exact ⟨rfl, rfl⟩
  · refine gd_name ?_
    refine sd_retL ?_
    have e : cut.map (fun y => D.int (if toI y < 0 then -toI y else toI y)) = (cut.map fun y => if toI y < 0 then -toI y else toI y).map D.int := by
      rw [List.map_map]
      rfl
    have hc : ∀ z ∈ cut.map (fun y => if toI y < 0 then -toI y else toI y), (0 : Int) ≤ z := fun z hz => by
      obtain ⟨y, _, rfl⟩ := List.mem_map.mp hz
      split <;> omega
    have hl : (cut.map fun y => if toI y < 0 then -toI y else toI y).length ≤ 63 := by rw [List.length_map]; exact hlen
    rw [e]
    generalize cut.map (fun y => if toI y < 0 then -toI y else toI y) = cells at hc hl
    walk_at "dd"
    refine (fun p => ⟨p, cells, _, rfl, rfl, hl, hc, by omega, ?_, by omega⟩)
    have : (0 : Int) ≤ ((cells.map D.int).length : Int) := Int.natCast_nonneg _
    omega
/-! ### items -/
abbrev itemsRes (top : Int) (r : D) : Prop := ∃ items, r = tupN items ∧ GoodN items ∧ ∀ i ∈ items, (i : Int) ≤ top
abbrev sp_items (K : PySem.W.Frag) : Sp := SpH K (fun a : Int × Int => [.int a.1, .int a.2]) (fun a => 0 < a.1 ∧ a.1 ≤ 1000 ∧ 0 < a.2 ∧ a.2 ≤ 10) fun a r => itemsRes a.1 r
theorem asc_of {L : List Nat} {ns : List Int} (h : ns.Perm (L.map fun n : Nat => (n : Int))) (nd : L.Nodup) (hs : ns.Pairwise (· ≤ ·)) : ∃ items : List Nat, ns = items.map (fun n : Nat => (n : Int)) ∧ items.Perm L ∧ items.Pairwise (· < ·) := by
  have e1 : ns = (ns.map Int.toNat).map fun n : Nat => (n : Int) := by
    rw [List.map_map]
    have : ∀ z ∈ ns, ((fun n : Nat => (n : Int)) ∘ Int.toNat) z = id z := fun z hz => by
      obtain ⟨n, _, rfl⟩ := List.mem_map.mp (h.mem_iff.mp hz)
      simp
    rw [List.map_congr_left this, List.map_id]
  have hp : (ns.map Int.toNat).Perm L := by
    have := h.map Int.toNat
    rw [List.map_map] at this
    have e2 : L.map (Int.toNat ∘ fun n : Nat => (n : Int)) = L := by
      have : ∀ z ∈ L, (Int.toNat ∘ fun n : Nat => (n : Int)) z = id z := fun z _ => by simp
      rw [List.map_congr_left this, List.map_id]
    rw [e2] at this
    exact this
  refine ⟨ns.map Int.toNat, e1, hp, ?_⟩
  have nd' := (hp.nodup_iff).mpr nd
  rw [e1, List.pairwise_map] at hs
  refine (hs.and nd').imp fun {a b} h => ?_
  have := h.1
  have := h.2
  omega
theorem ok_items (T : Txt K mg A AI FD) : FnOk P w K mg base CX0 2 (A 35) (FD 35) ["hand", "top", "most_of"] (sp_items K) := by
  have G__law_draw : FnOk P w K mg base CX0 1 (A 31) (FD 31) ["hand", "many"] (sp_draw K) := ok_draw T
  refine okH T.d__law_items sc__law_items (fun _ => rfl) (fun cdv Ar outer s H E hr => ⟨_, (pss_cons (ps_ownL (i := 3) sc__law_items.nd rfl (Or.inl rfl) (pa_cons pe_int pa_nil))
      (pss_cons (ps_for PassesOwn.never rfl (pi_range1 rfl (T.blt "range" (by decide)) (pa_cons (pe_op op_add pe_int (pc0 T.d__law_draw G__law_draw (hr.mono (by first | decide | exact Nat.le_refl _)) (pa_cons (pv 0) (pa_cons (pv 2) pa_nil)))) pa_nil)) (pg_name (i := 4) sc__law_items.nd rfl (Or.inl rfl)) (pss_cons (ps_set (i := 5) sc__law_items.nd rfl (Or.inl rfl) (pe_op op_add pe_int (pc0 T.d__law_draw G__law_draw (hr.mono (by first | decide | exact Nat.le_refl _)) (pa_cons (pv 0) (pa_cons (pv 1) pa_nil)))))
      (pss_one (ps_if (pt_cmpR (op_notInK K) (pv 5) (pv 3) (by rfl)) (pss_one (ps_expr (pe_bm PySem.F.plainAttrs_list PySem.F.slot_list_append PySem.F.type_list_append mt_append (pv 3) (pa_cons (pv 5) pa_nil)))) pss_nil))))
      (pss_one (ps_ret (pbt T.blt (call_tupK K) (by decide +kernel) (pa_cons (pb T.blt (cr_sortedK K) (by decide +kernel) (pa_cons (pv 3) pa_nil)) pa_nil)))))), ?_⟩)
  rintro ⟨top, mo⟩ F0 H0 h ⟨h1, h2, h3, h4⟩
  dsimp only at h1 h2 h3 h4
  show SD _ _ [some (.adr h), some (.int top), some (.int mo), none, none, none] [] _ _ _ _
  walk_at "dd"
  refine sd_ownL ?_
  walk_at "dd"
  intro p
  walk_at "dd"
  refine sd_for (fun i ds' μ' => ∃ (L : List Nat) (t it : Option D), ds' = [some (.adr h), some (.int top), some (.int mo), some (.adr p), t, it] ∧ μ' = [(p, .lst (L.map nI))] ∧ L.Nodup ∧ 0 ∈ L ∧ (∀ x ∈ L, (x : Int) ≤ top) ∧ (1 ≤ i → 2 ≤ L.length) ∧ L.length ≤ i + 1) ?_
  refine id_rng1 ?_
  walk_at "dd"
  refine ⟨_, h, rfl, rfl, ⟨h3, by omega⟩, ?_⟩
  rintro _ ⟨k, rfl, hk⟩
  walk_at "dd"
  refine ⟨_, rfl, by omega, by omega, ⟨[0], none, none, rfl, rfl, by simp, by simp, fun x hx => ?_, fun z => by omega, by simp⟩, ?_, ?_⟩
  · rw [List.mem_singleton] at hx
    subst hx
    omega
  · rintro i y ds' μ' hy ⟨L, t, it, rfl, rfl, nd, h0, hle, h2l, hlen⟩
    have hi : i < (1 + (k : Int)).toNat := by
      have := List.getElem?_eq_some_iff.mp hy
      obtain ⟨q, _⟩ := this
      rwa [rangeD_len] at q
    walk_at "dd"
    refine ⟨_, h, rfl, rfl, ⟨h1, by omega⟩, ?_⟩
    rintro _ ⟨v, rfl, hv⟩
    walk_at "dd"
    have ev : D.int (1 + (v : Int)) = nI (v + 1) := by
      show D.int (1 + (v : Int)) = D.int (((v + 1 : Nat) : Int))
      congr 1
      omega
    rw [ev]
    refine rd_inO (j := 0) rfl rfl rfl (flat_nI L) ?_
    walk_at "dd"
    rw [inD_nI]
    refine isT_of (fun hb => ?_) (fun hb => ?_)
    · have nm : v + 1 ∉ L := by simpa using hb
      refine sd_append (j := 0) rfl rfl rfl ?_
      walk_at "dd"
      refine ⟨_, rfl, by rw [List.length_map]; omega, L ++ [v + 1], _, _, rfl, by show _ = [_]; rw [List.map_append]; rfl, ?_, List.mem_append_left _ h0, fun x hx => ?_, fun _ => ?_, ?_⟩
      · rw [List.nodup_append]
        refine ⟨nd, by simp, ?_⟩
        intro a ha b hb
        rw [List.mem_singleton] at hb
        subst hb
        exact fun z => nm (z ▸ ha)
      · rcases List.mem_append.mp hx with q | q
        · exact hle x q
        · rw [List.mem_singleton] at q
          subst q
          omega
      · rw [List.length_append, List.length_singleton]
        have : 0 < L.length := List.length_pos_of_mem h0
        omega
      · rw [List.length_append, List.length_singleton]
        omega
    · have nm : v + 1 ∈ L := by simpa using hb
      walk_at "dd"
      refine ⟨L, _, _, rfl, rfl, nd, h0, hle, fun _ => ?_, by omega⟩
      have hs : [0, v + 1] ⊆ L := fun x hx => by
        rcases List.mem_cons.mp hx with e | q
        · exact e ▸ h0
        · rw [List.mem_singleton] at q
          exact q ▸ nm
      have := List.Nodup.length_le_of_subset (show [0, v + 1].Nodup by simp) hs
      simpa using this
  · rintro ds' μ' ⟨L, t, it, rfl, rfl, nd, h0, hle, h2l, hlen⟩
    rw [rangeD_len] at h2l hlen
    walk_at "dd"
    refine cd_sortedO (j := 0) (ns := L.map fun n : Nat => (n : Int)) rfl (by rw [List.map_map]; rfl) fun ns' g1 g2 => ?_
    obtain ⟨items, rfl, hp, hs⟩ := asc_of g1 nd g2
    walk_at "dd"
    refine ⟨items, by rw [List.map_map]; rfl, ⟨fun i hi => ?_, hs, ?_, ?_⟩, fun i hi => hle i (hp.mem_iff.mp hi)⟩
    · have := hle i (hp.mem_iff.mp hi)
      omega
    · have hm : 0 ∈ items := hp.mem_iff.mpr h0
      cases items with
      | nil => cases hm
      | cons a r =>
        rcases List.mem_cons.mp hm with e | q
        · rw [← e]; rfl
        · have := (List.pairwise_cons.mp hs).1 0 q
          omega
    · rw [hp.length_eq]
      exact h2l (by omega)
end
end Pf
set_option Elab.async false
set_option linter.all false
set_option maxRecDepth 100000
set_option maxHeartbeats 2000000
namespace Pf
open PySem L2 RZ DL M45
local macro_rules | `(tactic| walk_at "d") => `(tactic| first
  | with_reducible refine sd_seq ?_
  | with_reducible refine sd_if ?_
  | with_reducible refine sd_ret ?_
  | with_reducible refine sd_asg ?_
  | with_reducible refine sd_next ?_
  | with_reducible refine sd_brk ?_
  | with_reducible refine sd_cont ?_
  | with_reducible refine sd_dropC ?_
  | with_reducible refine gd_name ?_
  | with_reducible refine gds_nil ?_
  | with_reducible refine gds_cons ?_
  | with_reducible refine gd_tup rfl rfl ?_
  | with_reducible refine ed_int ?_
  | with_reducible refine ed_bl ?_
  | with_reducible refine ed_str ?_
  | with_reducible refine ed_ty ?_
  | with_reducible refine ed_non ?_
  | with_reducible refine ed_ref ?_
  | ((with_reducible refine rd_catL ?hk ?hl ?_); (case hk => exact rfl); (case hl => exact (Nat.le_of_ble_eq_true rfl)))
  | ((with_reducible refine' cd_isD ?hk ?hh ?hc ?hD ?hkk ?hdd ?_); (case hk => exact rfl); (case hh => exact rfl); (case hc => exact rfl); (case hD => assumption); (case hkk => assumption); (case hdd => assumption))
  | ((with_reducible refine' cd_isDT ?hk ?hh ?hc ?hD ?hkk ?hdd ?_); (case hk => exact rfl); (case hh => exact rfl); (case hc => exact rfl); (case hD => assumption); (case hkk => assumption); (case hdd => assumption))
  | ((with_reducible refine' ed_var ?hv ?_); (case hv => exact rfl))
  | with_reducible refine ed_op ?_
  | with_reducible refine ed_un ?_
  | with_reducible refine rd_orN ?_
  | with_reducible refine rd_andN ?_
  | with_reducible refine rd_and1 ?_
  | with_reducible refine rd_shrN ?_
  | with_reducible refine rd_shr1 ?_
  | with_reducible refine rd_int ?_
  | with_reducible refine rd_bool ?_
  | with_reducible refine rd_mod (by first | assumption | decide) ?_
  | with_reducible refine rd_fdiv (by first | assumption | decide) ?_
  | with_reducible refine rd_mulR (by decide) ?_
  | with_reducible refine rd_mulL (by first | decide | assumption) ?_
  | with_reducible refine ud_int ?_
  | with_reducible refine rd_isN ?_
  | with_reducible refine rd_notN ?_
  | with_reducible refine rd_eq rfl ?_
  | with_reducible refine rd_ne rfl ?_
  | with_reducible refine td_test ?_
  | with_reducible refine td_B ?_
  | with_reducible refine td_not ?_
  | with_reducible refine td_and ?_
  | with_reducible refine td_or ?_
  | with_reducible refine td_yes ?_
  | with_reducible refine ed_andV ?_
  | with_reducible refine ed_orV ?_
  | with_reducible refine ed_notV ?_
  | with_reducible refine ed_if ?_
  | with_reducible refine ed_chain ?_
  | with_reducible refine ed_isTL rfl ?_
  | ((with_reducible refine And.intro (show okD _ from ?hok) ?_); (case hok => first | assumption | exact rfl))
  | with_reducible refine ed_cb ?_
  | with_reducible refine ad_nil ?_
  | with_reducible refine ad_cons ?_
  | ((with_reducible refine ed_tup ?_))
  | ((with_reducible refine ed_lst ?_))
  | with_reducible refine ed_dnew ?_
  | with_reducible refine And.intro (show List.length (_ :: _) ≤ 100000 from Nat.le_of_ble_eq_true rfl) ?_
  | with_reducible refine od_none ?_
  | with_reducible refine od_some ?_
  | with_reducible refine ed_slL rfl ?_
  | with_reducible refine ed_slT rfl ?_
  | with_reducible refine id_list rfl ?_
  | with_reducible refine id_tup rfl ?_
  | ((with_reducible refine cd_isInt rfl ?hok ?_); (case hok => first | assumption | exact rfl))
  | ((with_reducible refine cd_isBool rfl ?hok ?_); (case hok => first | assumption | exact rfl))
  | ((with_reducible refine cd_isStr rfl ?hok ?_); (case hok => first | assumption | exact rfl))
  | ((with_reducible refine cd_isTup rfl ?hok ?_); (case hok => first | assumption | exact rfl))
  | ((with_reducible refine cd_isLst rfl ?hok ?_); (case hok => first | assumption | exact rfl))
  | ((with_reducible refine' cd_len ?hk ?ha ?_); (case hk => exact rfl); (case ha => exact rfl))
  | ((with_reducible refine' cd_tup ?hk ?ha ?_); (case hk => exact rfl); (case ha => exact rfl))
  | with_reducible refine cd_abs ?_
  | with_reducible refine cd_int ?_
  | ((with_reducible refine ed_callP rfl ?_))
  | ((with_reducible refine ed_callE (by assumption) rfl ?_))
  | ((with_reducible refine ed_callX rfl ?_))
  | ((with_reducible refine ed_callH rfl ?_))
  | (show asB (D.bl _) _; dsimp only [asB])
  | (show asI (D.int _) _; dsimp only [asI])
  | (show asU (D.tup _) _; dsimp only [asU])
  | (show asL (D.lst _) _; dsimp only [asL])
  | with_reducible refine isT_t ?_
  | with_reducible refine isT_f ?_)
local macro_rules | `(tactic| walk_at "dd") => `(tactic| (repeat (walk_at "d")))
local macro_rules | `(tactic| walk_at "v") => `(tactic| (repeat (first | walk_at "d" | (refine isT_val (c := true) rfl (isT_t ?_)) | (refine isT_val (c := false) rfl (isT_f ?_)))))

section
variable {P : Program} {w : World} {K : PySem.W.Frag} {mg : Str → Option Value} {base : Heap} {A AI : Nat → Addr} {FD : Nat → FuncData}
/-! ### sums -/
theorem sum_le {items : List Nat} {c : Nat} (h : ∀ i ∈ items, i ≤ c) : ∀ {k n : Nat}, Sum items k n → n ≤ c * k
  | 0, n, e => by
    have e' : n = 0 := e
    omega
  | k + 1, n, ⟨i, hi, m, hm, e⟩ => by
    have h1 := sum_le h hm
    have h2 := h i hi
    rw [Nat.mul_add]
    omega
theorem keys_eq {kvs : List (L2.Key × D)} {kv' : List (L2.Key × V)} {ks : List Nat} (e : kvs.map (·.1) = ks.map (fun n : Nat => Sum.inl (n : Int))) (ek : kvs.map (·.1) = kv'.map (·.1)) : (kv'.map (·.1)).map keyOf = ks.map nI := by
  rw [← ek, e, List.map_map]
  rfl
theorem kcast {kvs : List (L2.Key × D)} {p q : Nat → Prop} (h : KeysAre kvs p) (e : ∀ n, p n ↔ q n) : KeysAre kvs q := by
  obtain ⟨ks, a, b, c⟩ := h
  exact ⟨ks, a, b, fun n => (c n).trans (e n)⟩
theorem mem_take_succ {α : Type} {l : List α} {i : Nat} {a : α} (h : l[i]? = some a) (b : α) : b ∈ l.take (i + 1) ↔ b ∈ l.take i ∨ b = a := by
  rw [List.take_succ, h]
  simp
abbrev sp_sums (K : PySem.W.Frag) : Sp := SpP K (fun a : List Nat × Nat => [tupN a.1, nI a.2]) (fun a => (∃ c, (∀ i ∈ a.1, i ≤ c) ∧ c * a.2 < 90000) ∧ a.2 ≤ 1000) fun a r => r = tupN (bitsOn (foldB a.1 a.2))
abbrev sumsDs (items : List Nat) (often : Nat) (p : Addr) (t l n i : Option D) : DS := [some (tupN items), some (nI often), some (.adr p), t, l, n, i]
theorem getNat {l : List Nat} {i : Nat} {y : D} (h : (l.map nI)[i]? = some y) : ∃ n, l[i]? = some n ∧ y = nI n := by
  rw [List.getElem?_map] at h
  cases q : l[i]? with
  | none => rw [q] at h; cases h
  | some n =>
    rw [q] at h
    exact ⟨n, rfl, (Option.some.inj h).symm⟩
theorem ok_sums (T : Txt K mg A AI FD) : FnOk P w K mg base CX0 1 (A 36) (FD 36) ["items", "often"] (sp_sums K) := by
  refine okP T.d__law_sums sc__law_sums (fun _ => rfl) (fun cdv Ar outer s H E hr => ⟨_, (pss_cons (ps_set (i := 2) sc__law_sums.nd rfl (Or.inl rfl) (pe_disp (pps_cons pe_int pe_bl pps_nil) rfl rfl (by simp) (by decide)))
      (pss_cons (ps_for PassesOwn.never rfl (pi_range1 rfl (T.blt "range" (by decide)) (pa_cons (pv 1) pa_nil)) (pg_name (i := 3) sc__law_sums.nd rfl (Or.inl rfl)) (pss_cons (ps_ownD (i := 4) sc__law_sums.nd rfl (Or.inl rfl))
      (pss_cons (ps_lock (ps_for PassesOwn.never rfl (pi_keys (pv 2)) (pg_name (i := 5) sc__law_sums.nd rfl (Or.inl rfl)) (pss_one (ps_for PassesOwn.never rfl (pi_tupK K (pv 0)) (pg_name (i := 6) sc__law_sums.nd rfl (Or.inl rfl)) (pss_one (ps_dput (hu_of hr) (pv 4) (pe_op op_add (pv 5) (pv 6)) pe_bl rfl))))))
      (pss_one (ps_set (i := 2) sc__law_sums.nd rfl (Or.inl rfl) (pv 4))))))
      (pss_one (ps_ret (pbt T.blt (call_tupK K) (by decide +kernel) (pa_cons (pb T.blt (call_sortedDk rfl) (by decide +kernel) (pa_cons (pv 2) pa_nil)) pa_nil)))))), ?_⟩)
  rintro ⟨items, often⟩ F0 H0 ⟨⟨c, hc, hM⟩, hoft⟩
  dsimp only at hc hM hoft
  show SD _ _ [some (tupN items), some (nI often), none, none, none, none, none] [] _ _ _ _
  refine sd_seq ?_
  refine sd_ownDisp1 fun p0 => ?_
  refine sd_seq ?_
  refine sd_for (fun i ds' μ' => ∃ p kvs t l n it, ds' = sumsDs items often p t l n it ∧ μ' = [(p, .dct kvs)] ∧ KeysAre kvs (Sum items i)) ?_
  refine id_rng1 ?_
  walk_at "dd"
  refine ⟨_, rfl, by omega, by omega, ⟨p0, _, none, none, none, none, rfl, rfl, [0], rfl, by simp, fun n => List.mem_singleton⟩, ?_, ?_⟩
  · rintro i y ds' μ' hy ⟨p, kvs, t, l, n, it, rfl, rfl, hk⟩
    have hi : i < often := by
      obtain ⟨q, _⟩ := List.getElem?_eq_some_iff.mp hy
      rw [rangeD_len] at q
      exact Int.toNat_natCast often ▸ q
    have hci : c * (i + 1) < 90000 := Nat.lt_of_le_of_lt (Nat.mul_le_mul_left c hi) hM
    obtain ⟨ks, ek, nd, hks⟩ := id hk
    walk_at "dd"
    refine sd_ownD fun p2 => ?_
    walk_at "dd"
    refine sd_lock (i := 2) (j := 1) rfl rfl fun F1 H1 ⟨o, kv', hp, ekv⟩ => ?_
    refine sd_for (fun m ds' μ' => ∃ kv2 n it, ds' = sumsDs items often p (some y) (some (.adr p2)) n it ∧ μ' = [(p2, .dct kv2)] ∧ KeysAre kv2 fun z => ∃ q, q ∈ ks.take m ∧ ∃ j, j ∈ items ∧ z = q + j) ?_
    refine id_keys (p := p) rfl hp (by intro z; cases z) ?_
    rw [keys_eq ek ekv]
    refine ⟨⟨[], n, it, rfl, rfl, [], rfl, by simp, fun z => by simp⟩, ?_, ?_⟩
    · rintro m y2 ds' μ' hy2 ⟨kv2, n, it, rfl, rfl, hk2⟩
      obtain ⟨q, hq, rfl⟩ := getNat hy2
      have hqs : Sum items i q := (hks q).mp (List.mem_of_getElem? hq)
      have hqc := sum_le hc hqs
      refine gd_name ?_
      refine sd_for (fun r ds' μ' => ∃ kv3 it, ds' = sumsDs items often p (some y) (some (.adr p2)) (some (nI q)) it ∧ μ' = [(p2, .dct kv3)] ∧ KeysAre kv3 fun z => (∃ q, q ∈ ks.take m ∧ ∃ j, j ∈ items ∧ z = q + j) ∨ ∃ j, j ∈ items.take r ∧ z = q + j) ?_
      refine id_tup rfl ?_
      walk_at "dd"
      refine ⟨⟨kv2, it, rfl, rfl, kcast hk2 fun z => by simp⟩, ?_, ?_⟩
      · rintro r y3 ds' μ' hy3 ⟨kv3, it, rfl, rfl, hk3⟩
        obtain ⟨j, hj, rfl⟩ := getNat hy3
        have hjc := hc j (List.mem_of_getElem? hj)
        refine gd_name ?_
        refine sd_dput (i := 4) (j := 0) (p := p2) rfl ?_
        walk_at "dd"
        have e1 : (q : Int) + (j : Int) = ((q + j : Nat) : Int) := by omega
        rw [e1]
        have hlen : kv3.length ≤ c * (i + 1) + 1 := hk3.len fun z hz => by
          rcases hz with ⟨q', h1, j', h2, rfl⟩ | ⟨j', h2, rfl⟩
          · have := sum_le hc ((hks q').mp (List.mem_of_mem_take h1))
            have := hc j' h2
            rw [Nat.mul_add]
            omega
          · have := hc j' (List.mem_of_mem_take h2)
            rw [Nat.mul_add]
            omega
        refine ⟨_, kv3, rfl, rfl, by omega, _, some (nI j), rfl, rfl, kcast (hk3.put (q + j) _) fun z => ?_⟩
        rw [or_assoc]
        refine or_congr Iff.rfl ?_
        constructor
        · rintro (⟨j', h1, rfl⟩ | rfl)
          · exact ⟨j', (mem_take_succ hj j').mpr (.inl h1), rfl⟩
          · exact ⟨j, (mem_take_succ hj j).mpr (.inr rfl), rfl⟩
        · rintro ⟨j', h1, rfl⟩
          rcases (mem_take_succ hj j').mp h1 with h | rfl
          · exact .inl ⟨j', h, rfl⟩
          · exact .inr rfl
      · rintro ds' μ' ⟨kv3, it, rfl, rfl, hk3⟩
        refine ⟨kv3, _, it, rfl, rfl, kcast hk3 fun z => ?_⟩
        rw [show (items.map nI).length = items.length from List.length_map .., List.take_length]
        constructor
        · rintro (⟨q', h1, j', h2, rfl⟩ | ⟨j', h2, rfl⟩)
          · exact ⟨q', (mem_take_succ hq q').mpr (.inl h1), j', h2, rfl⟩
          · exact ⟨q, (mem_take_succ hq q).mpr (.inr rfl), j', h2, rfl⟩
        · rintro ⟨q', h1, j', h2, rfl⟩
          rcases (mem_take_succ hq q').mp h1 with h | rfl
          · exact .inl ⟨q', h, j', h2, rfl⟩
          · exact .inr ⟨j', h2, rfl⟩
    · rintro ds' μ' ⟨kv2, n, it, rfl, rfl, hk2⟩
      walk_at "dd"
      refine ⟨p2, kv2, _, _, _, _, rfl, rfl, kcast hk2 fun z => ?_⟩
      rw [show (ks.map nI).length = ks.length from List.length_map .., List.take_length]
      constructor
      · rintro ⟨q', h1, j', h2, rfl⟩
        exact ⟨j', h2, q', (hks q').mp h1, rfl⟩
      · rintro ⟨j', h2, q', h1, rfl⟩
        exact ⟨q', (hks q').mpr h1, j', h2, rfl⟩
  · rintro ds' μ' ⟨p, kvs, t, l, n, it, rfl, rfl, hk⟩
    rw [rangeD_len] at hk
    have hk : KeysAre kvs (Sum items often) := hk
    obtain ⟨ks, ek, nd, hks⟩ := id hk
    have hlen : kvs.length ≤ c * often + 1 := hk.len fun z hz => by
      have := sum_le hc hz
      omega
    have hkl : ks.length = kvs.length := by
      have := congrArg List.length ek
      rw [List.length_map, List.length_map] at this
      exact this.symm
    walk_at "dd"
    refine cd_sortedDk (j := 0) (ks := ks.map fun n : Nat => (n : Int)) rfl (by rw [ek, List.map_map]; rfl) (by rw [List.length_map]; omega) fun ns' g1 g2 => ?_
    obtain ⟨out, rfl, hp, hs⟩ := asc_of g1 nd g2
    walk_at "dd"
    have eo : out = bitsOn (foldB items often) := sorted_ext hs (bitsOn_sorted _) fun z => by
      rw [hp.mem_iff, hks, mem_bitsOn, foldB_bit]
    rw [← eo, List.map_map]
    rfl
end
end Pf
set_option Elab.async false
set_option linter.all false
set_option maxRecDepth 100000
set_option maxHeartbeats 1000000
namespace Pf
open PySem L2 RZ DL M45
/-! ### items turned, in plain Lean -/
theorem turn_len (items : List Nat) : (turnN items).length = items.length := by unfold turnN; rw [List.length_map, List.length_reverse]
theorem le_last {items : List Nat} (g : GoodN items) : ∀ i ∈ items, i ≤ items.getLastD 0 := last_maxN g.asc (lastN g)
theorem turn_good {items : List Nat} (g : GoodN items) : GoodN (turnN items) := by
  refine ⟨fun i hi => ?_, turn_asc g, ?_, by rw [turn_len]; exact g.two⟩
  · unfold turnN at hi
    obtain ⟨j, _, rfl⟩ := List.mem_map.mp hi
    have := g.le _ (List.mem_of_getLast? (lastN g))
    omega
  · unfold turnN
    rw [List.head?_map, List.head?_reverse, lastN g]
    show some (items.getLastD 0 - items.getLastD 0) = some 0
    rw [Nat.sub_self]
theorem turn_last {items : List Nat} (g : GoodN items) : (turnN items).getLastD 0 = items.getLastD 0 := by
  rw [List.getLastD_eq_getLast?]
  unfold turnN
  rw [List.getLast?_map, List.getLast?_reverse, g.hd]
  rfl
theorem turn_turn {items : List Nat} (g : GoodN items) : turnN (turnN items) = items := by
  have e : turnN (turnN items) = (turnN items).reverse.map fun i => items.getLastD 0 - i := by
    rw [← turn_last g]
    rfl
  rw [e]
  unfold turnN
  rw [← List.map_reverse, List.reverse_reverse, List.map_map]
  have : ∀ i ∈ items, ((fun i => items.getLastD 0 - i) ∘ fun i => items.getLastD 0 - i) i = id i := fun i hi => by
    have := le_last g i hi
    show items.getLastD 0 - (items.getLastD 0 - i) = i
    omega
  rw [List.map_congr_left this, List.map_id]
theorem sum_turn {items : List Nat} (g : GoodN items) : ∀ k x, Sum (turnN items) k x ↔ ∃ n, Sum items k n ∧ n ≤ k * items.getLastD 0 ∧ x = k * items.getLastD 0 - n
  | 0, x => by
    constructor
    · intro h
      have h' : x = 0 := h
      exact ⟨0, rfl, by omega, by omega⟩
    · rintro ⟨n, h, _, rfl⟩
      show 0 * items.getLastD 0 - n = 0
      omega
  | k + 1, x => by
    constructor
    · rintro ⟨i', hi', m', hm, rfl⟩
      obtain ⟨m, h1, h2, rfl⟩ := (sum_turn g k m').mp hm
      unfold turnN at hi'
      obtain ⟨i, hi, rfl⟩ := List.mem_map.mp hi'
      have hi := List.mem_reverse.mp hi
      have := le_last g i hi
      refine ⟨m + i, ⟨i, hi, m, h1, rfl⟩, ?_, ?_⟩
      · rw [Nat.add_mul]; omega
      · rw [Nat.add_mul]; omega
    · rintro ⟨n, ⟨i, hi, m, hm, rfl⟩, h2, rfl⟩
      have h3 := le_last g i hi
      have h4 := sum_le (le_last g) hm
      rw [Nat.mul_comm] at h4
      refine ⟨items.getLastD 0 - i, ?_, k * items.getLastD 0 - m, (sum_turn g k _).mpr ⟨m, hm, h4, rfl⟩, ?_⟩
      · unfold turnN
        exact List.mem_map.mpr ⟨i, List.mem_reverse.mpr hi, rfl⟩
      · rw [Nat.add_mul]; omega
theorem bits_sum {items : List Nat} {k x : Nat} : x ∈ bitsOn (foldB items k) ↔ Sum items k x := by rw [mem_bitsOn, foldB_bit]
theorem sums_turn {items : List Nat} (g : GoodN items) (k : Nat) : bitsOn (foldB (turnN items) k) = (bitsOn (foldB items k)).reverse.map fun n => k * items.getLastD 0 - n := by
  refine sorted_ext (bitsOn_sorted _) ?_ fun x => ?_
  · rw [List.pairwise_map, List.pairwise_reverse]
    refine (bitsOn_sorted (foldB items k)).imp_of_mem fun {a b} ha hb hab => ?_
    have := sum_le (le_last g) (bits_sum.mp hb)
    rw [Nat.mul_comm] at this
    omega
  · rw [bits_sum, sum_turn g]
    constructor
    · rintro ⟨n, h1, _, rfl⟩
      exact List.mem_map.mpr ⟨n, List.mem_reverse.mpr (bits_sum.mpr h1), rfl⟩
    · intro h
      obtain ⟨n, h1, rfl⟩ := List.mem_map.mp h
      have h2 := bits_sum.mp (List.mem_reverse.mp h1)
      have := sum_le (le_last g) h2
      rw [Nat.mul_comm] at this
      exact ⟨n, h2, this, rfl⟩
theorem sum_zero {items : List Nat} (g : GoodN items) : ∀ k, Sum items k 0
  | 0 => rfl
  | k + 1 => ⟨0, List.mem_of_mem_head? (by rw [g.hd]; rfl), 0, sum_zero g k, rfl⟩
theorem bits_pos {items : List Nat} (g : GoodN items) (k : Nat) : 0 < (bitsOn (foldB items k)).length := List.length_pos_of_mem (bits_sum.mpr (sum_zero g k))
theorem bits_len {items : List Nat} {c : Nat} (h : ∀ i ∈ items, i ≤ c) (k : Nat) : (bitsOn (foldB items k)).length ≤ c * k + 1 := by
  have hs : bitsOn (foldB items k) ⊆ List.range (c * k + 1) := fun n hn => List.mem_range.mpr (Nat.lt_succ_of_le (sum_le h (bits_sum.mp hn)))
  have nd : (bitsOn (foldB items k)).Nodup := (bitsOn_sorted (foldB items k)).imp fun h => Nat.ne_of_lt h
  have := nd.length_le_of_subset hs
  rwa [List.length_range] at this
/-! ### the first gap -/
theorem first_of (p : Nat → Bool) (n : Nat) (h : p n = true) : ∃ f, f ≤ n ∧ p f = true ∧ (∀ i, i < f → p i = false) ∧ ((List.range (n + 1)).filter p).head? = some f := by
  rw [List.head?_filter]
  cases e : (List.range (n + 1)).find? p with
  | none =>
    have := List.find?_eq_none.mp e n (List.mem_range.mpr (Nat.lt_succ_self n))
    exact (this h).elim
  | some f =>
    obtain ⟨h1, h2, h3⟩ := List.find?_range_eq_some.mp e
    have := List.mem_range.mp h2
    exact ⟨f, by omega, h1, fun i hi => by simpa using h3 i hi, rfl⟩
theorem gap_not {S : List Nat} (hs : S.Pairwise (· < ·)) {f : Nat} (h1 : ∀ i, i < f → S[i]? = some i) (h2 : S[f]? ≠ some f) : f ∉ S := fun hm => by
  obtain ⟨j, hj, e⟩ := List.mem_iff_getElem.mp hm
  rw [List.pairwise_iff_getElem] at hs
  rcases Nat.lt_trichotomy j f with q | q | q
  · have := h1 j q
    rw [List.getElem?_eq_getElem hj, e] at this
    have := Option.some.inj this
    omega
  · subst q
    exact h2 (by rw [List.getElem?_eq_getElem hj, e])
  · have hf : f < S.length := by omega
    have a := hs f j hf hj q
    cases f with
    | zero => omega
    | succ k =>
      have b := h1 k (Nat.lt_succ_self k)
      have hk : k < S.length := by omega
      rw [List.getElem?_eq_getElem hk] at b
      have b := Option.some.inj b
      have c := hs k (k + 1) hk hf (Nat.lt_succ_self k)
      omega
theorem reach_eq {M f : Nat} {r : D} (hr : IsReach M r) (h1 : ∀ i, i < f → (bitsOn M)[i]? = some i) (h2 : (bitsOn M)[f]? ≠ some f) : r = .int ((f : Int) - 1) := by
  obtain ⟨k, hk, hk2, rfl⟩ := hr
  have hf : M.testBit f = false := by
    cases e : M.testBit f with
    | false => rfl
    | true => exact (gap_not (bitsOn_sorted M) h1 h2 (mem_bitsOn.mpr e)).elim
  have : k = f := by
    rcases Nat.lt_trichotomy k f with q | q | q
    · have := mem_bitsOn.mp (List.mem_of_getElem? (h1 k q))
      rw [hk2] at this
      cases this
    · exact q
    · rw [hk f q] at hf
      cases hf
  subst this
  rfl
end Pf
set_option Elab.async false
set_option linter.all false
set_option maxRecDepth 100000
set_option maxHeartbeats 2000000
namespace Pf
open PySem L2 RZ DL M45
local macro_rules | `(tactic| walk_at "d") => `(tactic| first
  | with_reducible refine sd_seq ?_
  | with_reducible refine sd_if ?_
  | with_reducible refine sd_ret ?_
  | with_reducible refine sd_asg ?_
  | with_reducible refine sd_next ?_
  | with_reducible refine sd_brk ?_
  | with_reducible refine sd_cont ?_
  | with_reducible refine sd_dropC ?_
  | with_reducible refine gd_name ?_
  | with_reducible refine gds_nil ?_
  | with_reducible refine gds_cons ?_
  | with_reducible refine gd_tup rfl rfl ?_
  | with_reducible refine ed_int ?_
  | with_reducible refine ed_bl ?_
  | with_reducible refine ed_str ?_
  | with_reducible refine ed_ty ?_
  | with_reducible refine ed_non ?_
  | with_reducible refine ed_ref ?_
  | ((with_reducible refine rd_catL ?hk ?hl ?_); (case hk => exact rfl); (case hl => exact (Nat.le_of_ble_eq_true rfl)))
  | ((with_reducible refine' cd_isD ?hk ?hh ?hc ?hD ?hkk ?hdd ?_); (case hk => exact rfl); (case hh => exact rfl); (case hc => exact rfl); (case hD => assumption); (case hkk => assumption); (case hdd => assumption))
  | ((with_reducible refine' cd_isDT ?hk ?hh ?hc ?hD ?hkk ?hdd ?_); (case hk => exact rfl); (case hh => exact rfl); (case hc => exact rfl); (case hD => assumption); (case hkk => assumption); (case hdd => assumption))
  | ((with_reducible refine' ed_var ?hv ?_); (case hv => exact rfl))
  | with_reducible refine ed_op ?_
  | with_reducible refine ed_un ?_
  | with_reducible refine rd_orN ?_
  | with_reducible refine rd_andN ?_
  | with_reducible refine rd_and1 ?_
  | with_reducible refine rd_shrN ?_
  | with_reducible refine rd_shr1 ?_
  | with_reducible refine rd_int ?_
  | with_reducible refine rd_bool ?_
  | with_reducible refine rd_mod (by first | assumption | decide) ?_
  | with_reducible refine rd_fdiv (by first | assumption | decide) ?_
  | with_reducible refine rd_mulR (by decide) ?_
  | with_reducible refine rd_mulL (by first | decide | assumption) ?_
  | with_reducible refine ud_int ?_
  | with_reducible refine rd_isN ?_
  | with_reducible refine rd_notN ?_
  | with_reducible refine rd_eq rfl ?_
  | with_reducible refine rd_ne rfl ?_
  | with_reducible refine td_test ?_
  | with_reducible refine td_B ?_
  | with_reducible refine td_not ?_
  | with_reducible refine td_and ?_
  | with_reducible refine td_or ?_
  | with_reducible refine td_yes ?_
  | with_reducible refine ed_andV ?_
  | with_reducible refine ed_orV ?_
  | with_reducible refine ed_notV ?_
  | with_reducible refine ed_if ?_
  | with_reducible refine ed_chain ?_
  | with_reducible refine ed_isTL rfl ?_
  | ((with_reducible refine And.intro (show okD _ from ?hok) ?_); (case hok => first | assumption | exact rfl))
  | with_reducible refine ed_cb ?_
  | with_reducible refine ad_nil ?_
  | with_reducible refine ad_cons ?_
  | ((with_reducible refine ed_tup ?_))
  | ((with_reducible refine ed_lst ?_))
  | with_reducible refine ed_dnew ?_
  | with_reducible refine And.intro (show List.length (_ :: _) ≤ 100000 from Nat.le_of_ble_eq_true rfl) ?_
  | with_reducible refine od_none ?_
  | with_reducible refine od_some ?_
  | with_reducible refine ed_slL rfl ?_
  | with_reducible refine ed_slT rfl ?_
  | with_reducible refine id_list rfl ?_
  | with_reducible refine id_tup rfl ?_
  | ((with_reducible refine cd_isInt rfl ?hok ?_); (case hok => first | assumption | exact rfl))
  | ((with_reducible refine cd_isBool rfl ?hok ?_); (case hok => first | assumption | exact rfl))
  | ((with_reducible refine cd_isStr rfl ?hok ?_); (case hok => first | assumption | exact rfl))
  | ((with_reducible refine cd_isTup rfl ?hok ?_); (case hok => first | assumption | exact rfl))
  | ((with_reducible refine cd_isLst rfl ?hok ?_); (case hok => first | assumption | exact rfl))
  | ((with_reducible refine' cd_len ?hk ?ha ?_); (case hk => exact rfl); (case ha => exact rfl))
  | ((with_reducible refine' cd_tup ?hk ?ha ?_); (case hk => exact rfl); (case ha => exact rfl))
  | with_reducible refine cd_abs ?_
  | with_reducible refine cd_int ?_
  | ((with_reducible refine ed_callP rfl ?_))
  | ((with_reducible refine ed_callE (by assumption) rfl ?_))
  | ((with_reducible refine ed_callX rfl ?_))
  | ((with_reducible refine ed_callH rfl ?_))
  | (show asB (D.bl _) _; dsimp only [asB])
  | (show asI (D.int _) _; dsimp only [asI])
  | (show asU (D.tup _) _; dsimp only [asU])
  | (show asL (D.lst _) _; dsimp only [asL])
  | with_reducible refine isT_t ?_
  | with_reducible refine isT_f ?_)
local macro_rules | `(tactic| walk_at "dd") => `(tactic| (repeat (walk_at "d")))
local macro_rules | `(tactic| walk_at "v") => `(tactic| (repeat (first | walk_at "d" | (refine isT_val (c := true) rfl (isT_t ?_)) | (refine isT_val (c := false) rfl (isT_f ?_)))))

section
variable {P : Program} {w : World} {K : PySem.W.Frag} {mg : Str → Option Value} {base : Heap} {A AI : Nat → Addr} {FD : Nat → FuncData}
theorem plain_nat (n : Nat) : ∀ k, PlainN k (nI n)
  | 0 => by show scalD (nI n) (nI n) = true; rfl
  | k + 1 => .inl rfl
theorem plain_tup (l : List Nat) (h : l.length ≤ 100000) (k : Nat) : PlainN (k + 1) (tupN l) := .inr ⟨_, .inl rfl, by rw [List.length_map]; exact h, fun y hy => by
  obtain ⟨n, _, rfl⟩ := List.mem_map.mp hy
  exact plain_nat n k⟩
theorem okD_nat (n : Nat) : okD (nI n) := rfl
theorem domI_tup (l : List Nat) (h : l.length ≤ 100000) : domI (tupN l) := ⟨rfl, fun l' e => by
  cases e
  rw [List.length_map]
  exact ⟨h, fun y hy => by
    obtain ⟨n, _, rfl⟩ := List.mem_map.mp hy
    rfl⟩⟩
theorem good_len {items : List Nat} (g : GoodN items) : items.length ≤ 1001 := by
  have hs : items ⊆ List.range 1001 := fun n hn => List.mem_range.mpr (Nat.lt_succ_of_le (g.le n hn))
  have nd : items.Nodup := g.asc.imp fun h => Nat.ne_of_lt h
  have := nd.length_le_of_subset hs
  rwa [List.length_range] at this
theorem within200 {n : Nat} (h : n ≤ 200) : withinD (nI n) 0 200 = true := by
  unfold withinD
  simp
  omega
theorem no_exc {items : List Nat} (g : GoodN items) {n : Nat} (hn : n ≤ 200) (cls : Value) (fo : Option (List (Str × V))) : ¬ excF A (tupN items, nI n) cls fo := by
  rintro (⟨h, _⟩ | ⟨_, h, _⟩)
  · rw [show (tupN items, nI n).1 = tupN items from rfl, good_of g] at h
    cases h
  · rw [show (tupN items, nI n).2 = nI n from rfl, within200 hn] at h
    cases h
theorem no_excI {items : List Nat} (g : GoodN items) (cls : Value) (fo : Option (List (Str × V))) : ¬ excI A (tupN items) cls fo := by
  rintro ⟨h, _⟩
  rw [good_of g] at h
  cases h
theorem small_of {items : List Nat} (g : GoodN items) {n : Nat} (hn : n ≤ 10) : small (tupN items, nI n) := fun its m e1 e2 _ _ => by
  have e1' := tupN_inj e1
  have e2' : n = m := Int.ofNat.inj (D.int.inj e2)
  subst e1' e2'
  exact ⟨1000, g.le, by omega⟩
theorem pair_inj {a b : List Nat} {m n : Nat} (h : (tupN a, nI m) = (tupN b, nI n)) : a = b ∧ m = n := ⟨tupN_inj (Prod.mk.inj h).1, Int.ofNat.inj (D.int.inj (Prod.mk.inj h).2)⟩
theorem plain_lst {l : List D} {k : Nat} (h : l.length ≤ 100000) (hp : ∀ y ∈ l, PlainN k y) : PlainN (k + 1) (.lst l) := .inr ⟨_, .inr rfl, h, hp⟩
theorem plain_bl (b : Bool) : ∀ k, PlainN k (.bl b)
  | 0 => by show scalD (.bl b) (.bl b) = true; rfl
  | k + 1 => .inl rfl
theorem plain_int (b : Int) : ∀ k, PlainN k (.int b)
  | 0 => by show scalD (.int b) (.int b) = true; rfl
  | k + 1 => .inl rfl
theorem inD_bit {M : Nat} {i : Int} : inD (.int i) ((bitsOn M).map nI) = bitD M (.int i) := by
  by_cases h : 0 ≤ i
  · obtain ⟨n, rfl⟩ := Int.eq_ofNat_of_zero_le h
    have e := inD_nI (n := n) (L := bitsOn M)
    rw [show inD (.int (n : Int)) ((bitsOn M).map nI) = inD (nI n) ((bitsOn M).map nI) from rfl, e]
    show decide (n ∈ bitsOn M) = (decide ((0 : Int) ≤ (n : Int)) && M.testBit (n : Int).toNat)
    rw [decide_eq_true h, Bool.true_and, Int.toNat_natCast, Bool.eq_iff_iff, decide_eq_true_eq, mem_bitsOn]
  · have e : bitD M (.int i) = false := by
      show (decide (0 ≤ i) && _) = false
      rw [decide_eq_false h, Bool.false_and]
    rw [e]
    unfold inD inV
    rw [List.map_map, List.any_map, List.any_eq_false]
    intro n _
    show ¬ eqV (.int (n : Int)) (.int i) = true
    unfold eqV
    simp
    omega
abbrev sp_right (K : PySem.W.Frag) : Sp := SpH K (fun a : List Nat × Nat => [tupN a.1, nI a.2]) (fun a => GoodN a.1 ∧ a.2 ≤ 10) fun _ r => r = .bl true
theorem ok_right (T : Txt K mg A AI FD) : FnOk P w K mg base CX0 7 (A 38) (FD 38) ["hand", "items", "often"] (sp_right K) := by
  have G__law_sums : FnOk P w K mg base CX0 1 (A 36) (FD 36) ["items", "often"] (sp_sums K) := ok_sums T
  have G__law_is : FnOk P w K mg base CX0 4 (A 33) (FD 33) ["answer", "due"] (sp_is K 3) := ok_is T 3
  have G__law_any : FnOk P w K mg base CX0 2 (A 32) (FD 32) ["hand", "some"] (sp_any K) := ok_any T
  have G__law_draw : FnOk P w K mg base CX0 1 (A 31) (FD 31) ["hand", "many"] (sp_draw K) := ok_draw T
  have G_item_sums : FnOk P w K mg base (L2.CX P w) 6 (A 21) (FD 21) ["items", "often"] (sp_item_sums K A) := ok_item_sums T
  have G_item_sums_number : FnOk P w K mg base (L2.CX P w) 6 (A 22) (FD 22) ["items", "often"] (sp_item_sums_number K A) := ok_item_sums_number T
  have G_reach : FnOk P w K mg base (L2.CX P w) 6 (A 24) (FD 24) ["items", "often"] (sp_reach K A) := ok_reach T
  have G_turned_items : FnOk P w K mg base (L2.CX P w) 5 (A 26) (FD 26) ["items"] (sp_turned_items K A) := ok_turned_items T
  have G_is_folded : FnOk P w K mg base (L2.CX P w) 6 (A 25) (FD 25) ["items", "often", "number"] (sp_is_folded K A) := ok_is_folded T
  refine okH T.d__law_is_right sc__law_is_right (fun _ => rfl) (fun cdv Ar outer s H E hr => ⟨_, (pss_cons (ps_set (i := 3) sc__law_is_right.nd rfl (Or.inr rfl) (pc0 T.d__law_sums G__law_sums (hr.mono (by first | decide | exact Nat.le_refl _)) (pa_cons (pv 1) (pa_cons (pv 2) pa_nil))))
      (pss_cons (ps_if (pt_not (pt_val (pc0 T.d__law_is G__law_is (hr.mono (by first | decide | exact Nat.le_refl _)) (pa_cons (pe_lst (pa_cons (pcN T.d_item_sums G_item_sums (hr.mono (by first | decide | exact Nat.le_refl _)) (pa_cons (pv 1) (pa_cons (pv 2) pa_nil))) (pa_cons (pcN T.d_item_sums_number G_item_sums_number (hr.mono (by first | decide | exact Nat.le_refl _)) (pa_cons (pv 1) (pa_cons (pv 2) pa_nil))) pa_nil))) (pa_cons (pe_lst (pa_cons (pv 3) (pa_cons (pb T.blt (call_lenK K) (by decide +kernel) (pa_cons (pv 3) pa_nil)) pa_nil))) pa_nil))))) (pss_one (ps_ret pe_bl)) pss_nil)
      (pss_cons (ps_set (i := 4) sc__law_is_right.nd rfl (Or.inl rfl) (pe_op op_sub (pe_ix (ix_seqK K) (pe_lc (own := [("number", 12)]) (g := gName 12) rfl sc__law_is_right.nd (pi_range1 rfl (T.blt "range" (by decide)) (pa_cons (pe_op op_add (pb T.blt (call_lenK K) (by decide +kernel) (pa_cons (pv 3) pa_nil)) pe_int) pa_nil)) (blkOk_by (own := [("number", 12)]) (N := N__law_is_right) (sc := defScope s__law_is_right) (by decide +kernel)) (fun _ _ _ _ _ => pg_name (i := 12) sc__law_is_right.nd rfl (Or.inl rfl)) (fun _ _ _ _ _ => pts_one (PW.pt (pw_or (pt_cmpR op_ge (pv 12) (pb T.blt (call_lenK K) (by decide +kernel) (pa_cons (pv 3) pa_nil)) (nomark _)) (pw_or1 (pt_cmpR op_ne (pe_ix (ix_seqK K) (pv 3) (pv 12) (fun _ _ => rfl)) (pv 12) (nomark _)))))) (fun _ _ _ _ _ => (pv 12))) pe_int (fun _ _ => rfl)) pe_int))
      (pss_cons (ps_if (pt_not (pt_val (pc0 T.d__law_is G__law_is (hr.mono (by first | decide | exact Nat.le_refl _)) (pa_cons (pcN T.d_reach G_reach (hr.mono (by first | decide | exact Nat.le_refl _)) (pa_cons (pv 1) (pa_cons (pv 2) pa_nil))) (pa_cons (pv 4) pa_nil))))) (pss_one (ps_ret pe_bl)) pss_nil)
      (pss_cons (ps_set (i := 5) sc__law_is_right.nd rfl (Or.inl rfl) (pbt T.blt (call_tupK K) (by decide +kernel) (pa_cons (pe_lc (own := [("item", 11)]) (g := gName 11) (tt := tYes) rfl sc__law_is_right.nd (pi_tupK K (pe_revTK K (pv 1))) (blkOk_by (own := [("item", 11)]) (N := N__law_is_right) (sc := defScope s__law_is_right) (by decide +kernel)) (fun _ _ _ _ _ => pg_name (i := 11) sc__law_is_right.nd rfl (Or.inl rfl)) (fun _ _ _ _ _ => pts_nil) (fun _ _ _ _ _ => (pe_op op_sub (pe_ix (ix_seqK K) (pv 1) (pe_un un_neg pe_int) (fun _ _ => rfl)) (pv 11)))) pa_nil)))
      (pss_cons (ps_set (i := 6) sc__law_is_right.nd rfl (Or.inr rfl) (pe_op op_mul (pv 2) (pe_ix (ix_seqK K) (pv 1) (pe_un un_neg pe_int) (fun _ _ => rfl))))
      (pss_cons (ps_set (i := 7) sc__law_is_right.nd rfl (Or.inl rfl) (pbt T.blt (call_tupK K) (by decide +kernel) (pa_cons (pe_lc (own := [("number", 12)]) (g := gName 12) (tt := tYes) rfl sc__law_is_right.nd (pi_tupK K (pe_revTK K (pv 3))) (blkOk_by (own := [("number", 12)]) (N := N__law_is_right) (sc := defScope s__law_is_right) (by decide +kernel)) (fun _ _ _ _ _ => pg_name (i := 12) sc__law_is_right.nd rfl (Or.inl rfl)) (fun _ _ _ _ _ => pts_nil) (fun _ _ _ _ _ => (pe_op op_sub (pv 6) (pv 12)))) pa_nil)))
      (pss_cons (ps_if (pt_not (pt_val (pc0 T.d__law_is G__law_is (hr.mono (by first | decide | exact Nat.le_refl _)) (pa_cons (pe_lst (pa_cons (pcN T.d_turned_items G_turned_items (hr.mono (by first | decide | exact Nat.le_refl _)) (pa_cons (pv 1) pa_nil)) (pa_cons (pcN T.d_turned_items G_turned_items (hr.mono (by first | decide | exact Nat.le_refl _)) (pa_cons (pv 5) pa_nil)) (pa_cons (pcN T.d_item_sums G_item_sums (hr.mono (by first | decide | exact Nat.le_refl _)) (pa_cons (pv 5) (pa_cons (pv 2) pa_nil))) pa_nil)))) (pa_cons (pe_lst (pa_cons (pv 5) (pa_cons (pv 1) (pa_cons (pv 7) pa_nil)))) pa_nil))))) (pss_one (ps_ret pe_bl)) pss_nil)
      (pss_cons (ps_set (i := 8) sc__law_is_right.nd rfl (Or.inl rfl) (pe_lst (pa_cons pe_int (pa_cons (pv 6) (pa_cons (pe_op op_add (pv 6) pe_int) (pa_cons (pe_un un_neg pe_int) (pa_cons pe_non (pa_cons pe_bl (pa_cons pe_str (pa_cons (pe_tup (pa_cons pe_int pa_nil)) (pa_cons (pc0 T.d__law_any G__law_any (hr.mono (by first | decide | exact Nat.le_refl _)) (pa_cons (pv 0) (pa_cons (pv 3) pa_nil))) (pa_cons (pc0 T.d__law_draw G__law_draw (hr.mono (by first | decide | exact Nat.le_refl _)) (pa_cons (pv 0) (pa_cons (pe_op op_add (pv 6) pe_int) pa_nil))) (pa_cons (pe_lst (pa_cons pe_int pa_nil)) (pa_cons pe_dnewK (pa_cons pe_bl (pa_cons (pe_op op_pow pe_int pe_int) pa_nil))))))))))))))))
      (pss_cons (ps_for PassesOwn.never rfl (pi_listK K (pv 8)) (pg_name (i := 9) sc__law_is_right.nd rfl (Or.inl rfl)) (pss_cons (ps_set (i := 10) sc__law_is_right.nd rfl (Or.inl rfl) (pe_and (pb T.blt (call_isiK1 K) (by decide +kernel) (pa_cons (pv 9) (pa_cons (pty T.blt PyProof.Rows.boot_int) pa_nil))) (pe_and (pe_not (pb T.blt (call_isiK1 K) (by decide +kernel) (pa_cons (pv 9) (pa_cons (pty T.blt PyProof.Rows.boot_bool) pa_nil)))) (pe_one (pe_cmpR (op_inK K) (pv 9) (pv 3) (by rfl))))))
      (pss_one (ps_if (pt_not (pt_val (pc0 T.d__law_is G__law_is (hr.mono (by first | decide | exact Nat.le_refl _)) (pa_cons (pcN T.d_is_folded G_is_folded (hr.mono (by first | decide | exact Nat.le_refl _)) (pa_cons (pv 1) (pa_cons (pv 2) (pa_cons (pv 9) pa_nil)))) (pa_cons (pv 10) pa_nil))))) (pss_one (ps_ret pe_bl)) pss_nil))))
      (pss_one (ps_ret pe_bl)))))))))))), ?_⟩)
  rintro ⟨items, often⟩ F0 H0 h ⟨g, ho⟩
  dsimp only at g ho
  show SD _ _ [some (.adr h), some (tupN items), some (nI often), none, none, none, none, none, none, none, none, none, none] [] _ _ _ _
  have gl := good_len g
  have Sl := bits_len g.le often
  have S0 := bits_pos g often
  walk_at "dd"
  refine ⟨(items, often), rfl, ⟨⟨1000, g.le, by show 1000 * often < 90000; omega⟩, by show often ≤ 1000; omega⟩, ?_⟩
  rintro _ rfl
  dsimp only
  walk_at "dd"
  refine ⟨(tupN items, nI often), rfl, ⟨⟨domI_tup items (by omega), rfl⟩, small_of g ho⟩, no_exc g (by omega), ?_⟩
  rintro _ ⟨its, n, e, _, _, rfl⟩
  obtain ⟨rfl, rfl⟩ := pair_inj e
  walk_at "dd"
  refine ⟨(tupN items, nI often), rfl, ⟨⟨domI_tup items (by omega), rfl⟩, small_of g ho⟩, no_exc g (by omega), ?_⟩
  rintro _ ⟨its, n, e, _, _, rfl⟩
  obtain ⟨rfl, rfl⟩ := pair_inj e
  walk_at "dd"
  refine ⟨.lst [tupN (bitsOn (foldB items often)), nI (bitsOn (foldB items often)).length], by rw [List.length_map], plain_lst (Nat.le_of_ble_eq_true rfl) fun y hy => ?_, ?_⟩
  · rcases List.mem_cons.mp hy with rfl | hy
    · exact plain_tup _ (by omega) 1
    · rw [List.mem_singleton] at hy
      subst hy
      exact plain_nat _ 2
  rintro _ rfl
  walk_at "v"
  generalize hSS : bitsOn (foldB items often) = S at Sl S0
  have hn : ((((S.map nI).length : Nat) : Int) + 1).toNat = S.length + 1 := by rw [List.length_map]; omega
  obtain ⟨f, hf, hpf, hlow, hhd⟩ := first_of (fun i => !decide (S[i]? = some i)) S.length (by simp)
  refine ed_filtermap (gown_name 12) (fun y => !decide (S[(toI y).toNat]? = some (toI y).toNat)) id ?_
  refine id_rng1 ?_
  walk_at "dd"
  refine ⟨_, rfl, by omega, by rw [List.length_map]; omega, ?_⟩
  rw [hn]
  refine ⟨by rw [rangeD_len]; omega, fun i y hy => ?_, ?_⟩
  · have hi : i < S.length + 1 := by
      obtain ⟨q, _⟩ := List.getElem?_eq_some_iff.mp hy
      rwa [rangeD_len] at q
    rw [rangeD_get hi] at hy
    cases hy
    have e0 : (0 : Int) + (i : Int) = (i : Int) := by omega
    rw [e0]
    walk_at "dd"
    refine isT_of (fun hb => ⟨?_, isT_t ?_⟩) (fun hb => ?_)
    · have hle : S.length ≤ i := by
        have := of_decide_eq_true hb
        rw [List.length_map] at this
        omega
      show true = !decide (S[i]? = some i)
      rw [List.getElem?_eq_none hle]
      rfl
    · walk_at "dd"
      exact ⟨rfl, rfl⟩
    · have hlt : i < S.length := by
        have := of_decide_eq_false hb
        rw [List.length_map] at this
        omega
      walk_at "dd"
      refine rd_ix rfl rfl (atI_nat (j := i) (v := nI S[i]) (by rw [List.getElem?_map, List.getElem?_eq_getElem hlt]; rfl)) ?_
      walk_at "dd"
      have eb : (!eqS (nI S[i]) (nI i)) = !decide (S[i]? = some i) := by
        rw [List.getElem?_eq_getElem hlt]
        congr 1
        rw [Bool.eq_iff_iff]
        simp [eqS]
        omega
      refine ⟨eb, isT_of (fun _ => ?_) (fun _ => rfl)⟩
      walk_at "dd"
      exact ⟨rfl, rfl⟩
  · walk_at "dd"
    have hd : (((rangeD 0 (S.length + 1)).filter fun y => !decide (S[(toI y).toNat]? = some (toI y).toNat)).map id).head? = some (nI f) := by
      rw [List.map_id]
      unfold rangeD
      rw [List.filter_map, List.head?_map]
      have : (List.range (S.length + 1)).filter ((fun y => !decide (S[(toI y).toNat]? = some (toI y).toNat)) ∘ fun (i : Nat) => D.int (0 + (i : Int))) = (List.range (S.length + 1)).filter fun i => !decide (S[i]? = some i) := by
        refine List.filter_congr fun j _ => ?_
        have e : ((0 : Int) + (j : Int)).toNat = j := by omega
        show (!decide (S[((0 : Int) + (j : Int)).toNat]? = some ((0 : Int) + (j : Int)).toNat)) = _
        rw [e]
      rw [this, hhd]
      show some (D.int (0 + (f : Int))) = some (D.int (f : Int))
      rw [Int.zero_add]
    refine rd_ix rfl rfl (atI_head hd) ?_
    walk_at "dd"
    refine ⟨(tupN items, nI often), rfl, ⟨domI_tup items (by omega), rfl⟩, no_exc g (by omega), ?_⟩
    rintro _ ⟨its, n, e, _, _, hr⟩
    obtain ⟨rfl, rfl⟩ := pair_inj e
    obtain rfl := reach_eq hr (f := f) (fun i hi => by rw [hSS]; simpa using hlow i hi) (by rw [hSS]; simpa using hpf)
    walk_at "dd"
    refine ⟨.int ((f : Int) - 1), rfl, plain_int _ 3, ?_⟩
    rintro _ rfl
    walk_at "v"
    have hz := lastN g
    have hmax := le_last g
    have hst := sums_turn g often
    have hSl : ∀ n ∈ S, n ≤ often * items.getLastD 0 := fun n hn => by
      rw [← hSS] at hn
      have := sum_le hmax (bits_sum.mp hn)
      rwa [Nat.mul_comm] at this
    have hz10 : items.getLastD 0 ≤ 1000 := g.le _ (List.mem_of_getLast? hz)
    have htl := turn_last g
    rw [hSS] at hst
    have eT : ((items.map nI).reverse).map (fun y => D.int ((items.getLastD 0 : Int) - toI y)) = (turnN items).map nI := by
      unfold turnN
      rw [← List.map_reverse, List.map_map, List.map_map]
      refine List.map_congr_left fun x hx => ?_
      have := hmax x (List.mem_reverse.mp hx)
      show D.int ((items.getLastD 0 : Int) - (x : Int)) = D.int ((items.getLastD 0 - x : Nat) : Int)
      congr 1
      omega
    have eO : ((S.map nI).reverse).map (fun y => D.int ((((often * items.getLastD 0 : Nat)) : Int) - toI y)) = (S.reverse.map fun n => often * items.getLastD 0 - n).map nI := by
      rw [← List.map_reverse, List.map_map, List.map_map]
      refine List.map_congr_left fun x hx => ?_
      have := hSl x (List.mem_reverse.mp hx)
      show D.int (((often * items.getLastD 0 : Nat) : Int) - (x : Int)) = D.int ((often * items.getLastD 0 - x : Nat) : Int)
      congr 1
      omega
    have eW : (often : Int) * (items.getLastD 0 : Int) = ((often * items.getLastD 0 : Nat) : Int) := (Int.natCast_mul _ _).symm
    have hw : often * items.getLastD 0 ≤ 10 * 1000 := Nat.mul_le_mul ho hz10
    generalize items.getLastD 0 = z at *
    refine ed_map (gown_name 11) (fun y => .int ((z : Int) - toI y)) ?_
    refine id_tup rfl ?_
    refine ed_revT rfl ?_
    walk_at "dd"
    refine ⟨by rw [List.length_reverse, List.length_map]; omega, fun i y hy => ?_, ?_⟩
    · have hm := List.mem_of_getElem? hy
      rw [List.mem_reverse] at hm
      obtain ⟨n, _, rfl⟩ := List.mem_map.mp hm
      walk_at "dd"
      refine rd_ix rfl rfl (atI_neg1 (l := items.map nI) (v := nI z) (by rw [List.getLast?_map, hz]; rfl)) ?_
      walk_at "dd"
      exact ⟨rfl, rfl⟩
    rw [eT]
    walk_at "dd"
    refine rd_ix rfl rfl (atI_neg1 (l := items.map nI) (v := nI z) (by rw [List.getLast?_map, hz]; rfl)) ?_
    refine rd_mulL ⟨by omega, by omega⟩ ?_
    rw [eW]
    walk_at "dd"
    refine ed_map (gown_name 12) (fun y => .int ((((often * z : Nat)) : Int) - toI y)) ?_
    refine id_tup rfl ?_
    refine ed_revT rfl ?_
    walk_at "dd"
    refine ⟨by rw [List.length_reverse, List.length_map]; omega, fun i y hy => ?_, ?_⟩
    · have hm := List.mem_of_getElem? hy
      rw [List.mem_reverse] at hm
      obtain ⟨n, _, rfl⟩ := List.mem_map.mp hm
      walk_at "dd"
      exact ⟨rfl, rfl⟩
    rw [eO]
    walk_at "dd"
    refine ⟨tupN items, rfl, domI_tup items (by omega), no_excI g, ?_⟩
    rintro _ ⟨its, e, _, rfl⟩
    obtain rfl := tupN_inj e
    walk_at "dd"
    refine ⟨tupN (turnN items), rfl, domI_tup _ (by rw [turn_len]; omega), no_excI (turn_good g), ?_⟩
    rintro _ ⟨its, e, _, rfl⟩
    obtain rfl := tupN_inj e
    rw [turn_turn g]
    walk_at "dd"
    refine ⟨(tupN (turnN items), nI often), rfl, ⟨⟨domI_tup _ (by rw [turn_len]; omega), rfl⟩, small_of (turn_good g) ho⟩, no_exc (turn_good g) (by omega), ?_⟩
    rintro _ ⟨its, n, e, _, _, rfl⟩
    obtain ⟨rfl, rfl⟩ := pair_inj e
    rw [hst]
    walk_at "dd"
    refine ⟨.lst [tupN (turnN items), tupN items, tupN (S.reverse.map fun n => often * z - n)], rfl, plain_lst (Nat.le_of_ble_eq_true rfl) fun y hy => ?_, ?_⟩
    · rcases List.mem_cons.mp hy with rfl | hy
      · exact plain_tup _ (by rw [turn_len]; omega) 1
      rcases List.mem_cons.mp hy with rfl | hy
      · exact plain_tup _ (by omega) 1
      rw [List.mem_singleton] at hy
      subst hy
      exact plain_tup _ (by rw [List.length_map, List.length_reverse]; omega) 1
    rintro _ rfl
    walk_at "v"
    refine ⟨(tupN S, S.map nI), h, rfl, rfl, ⟨rfl, by rw [List.length_map]; exact S0, by rw [List.length_map]; omega⟩, ?_⟩
    intro r hr
    obtain ⟨sm, hsm, rfl⟩ := List.mem_map.mp hr
    walk_at "dd"
    refine ⟨_, h, rfl, rfl, ⟨by omega, by omega⟩, ?_⟩
    rintro _ ⟨dr, rfl, hdr⟩
    walk_at "dd"
    refine rd_intC ⟨by decide, by decide, by decide⟩ ?_
    generalize hbig : (10 : Int) ^ (30 : Int).toNat = big
    clear hbig
    walk_at "dd"
    refine sd_for (fun i ds' μ' => ∃ t o, ds' = [some (.adr h), some (tupN items), some (nI often), some (tupN S), some (.int ((f : Int) - 1)), some (tupN (turnN items)), some (nI (often * z)), some (tupN (S.reverse.map fun n => often * z - n)),
      some (.lst [.int 0, nI (often * z), .int ((often * z : Nat) + 1), .int (-1), .non, .bl true, .str "0", .tup [.int 0], nI sm, nI dr, .lst [.int 0], .dct [] [], .bl false, .int big]), t, o, none, none] ∧ μ' = []) ?_
    walk_at "dd"
    refine ⟨⟨none, none, rfl, rfl⟩, ?_, ?_⟩
    · rintro i y ds' μ' hy ⟨t, o, rfl, rfl⟩
      have hok : okD y := by
        have hm := List.mem_of_getElem? hy
        simp only [List.mem_cons, List.not_mem_nil, or_false] at hm
        rcases hm with rfl | rfl | rfl | rfl | rfl | rfl | rfl | rfl | rfl | rfl | rfl | rfl | rfl | rfl <;> rfl
      clear hy
      refine gd_name ?_
      refine sd_seqM (fun ds' μ' => ds' = [some (.adr h), some (tupN items), some (nI often), some (tupN S), some (.int ((f : Int) - 1)), some (tupN (turnN items)), some (nI (often * z)), some (tupN (S.reverse.map fun n => often * z - n)),
        some (.lst [.int 0, nI (often * z), .int ((often * z : Nat) + 1), .int (-1), .non, .bl true, .str "0", .tup [.int 0], nI sm, nI dr, .lst [.int 0], .dct [] [], .bl false, .int big]), some y, some (.bl (bitD (foldB items often) y)), none, none] ∧ μ' = []) ?_ ?_
      · cases y <;> first | (exact absurd hok Bool.false_ne_true) | skip
        · walk_at "v"
          exact ⟨rfl, rfl⟩
        · walk_at "v"
          exact ⟨rfl, rfl⟩
        · walk_at "v"
          refine rd_in rfl rfl rfl (flat_nI S) ?_
          rw [if_neg Bool.false_ne_true, ← hSS, inD_bit]
          walk_at "v"
          exact ⟨rfl, rfl⟩
        · walk_at "v"
          exact ⟨rfl, rfl⟩
        · walk_at "v"
          exact ⟨rfl, rfl⟩
        · walk_at "v"
          exact ⟨rfl, rfl⟩
        · walk_at "v"
          exact ⟨rfl, rfl⟩
      · rintro ds' μ' ⟨rfl, rfl⟩
        walk_at "dd"
        refine ⟨(tupN items, nI often, y), rfl, ⟨⟨domI_tup items (by omega), rfl⟩, hok⟩, no_exc g (by omega), ?_⟩
        rintro _ ⟨its, n, e, _, _, rfl⟩
        obtain ⟨rfl, rfl⟩ := pair_inj e
        walk_at "dd"
        refine ⟨.bl _, rfl, plain_bl _ 3, ?_⟩
        rintro _ rfl
        walk_at "v"
        exact ⟨_, _, rfl, rfl⟩
    · rintro ds' μ' ⟨t, o, rfl, rfl⟩
      walk_at "dd"
      rfl
end
end Pf
set_option Elab.async false
set_option linter.all false
set_option maxRecDepth 100000
set_option maxHeartbeats 2000000
namespace Pf
open PySem L2 RZ DL M45
local macro_rules | `(tactic| walk_at "d") => `(tactic| first
  | with_reducible refine sd_seq ?_
  | with_reducible refine sd_if ?_
  | with_reducible refine sd_ret ?_
  | with_reducible refine sd_asg ?_
  | with_reducible refine sd_next ?_
  | with_reducible refine sd_brk ?_
  | with_reducible refine sd_cont ?_
  | with_reducible refine sd_dropC ?_
  | with_reducible refine gd_name ?_
  | with_reducible refine gds_nil ?_
  | with_reducible refine gds_cons ?_
  | with_reducible refine gd_tup rfl rfl ?_
  | with_reducible refine ed_int ?_
  | with_reducible refine ed_bl ?_
  | with_reducible refine ed_str ?_
  | with_reducible refine ed_ty ?_
  | with_reducible refine ed_non ?_
  | with_reducible refine ed_ref ?_
  | ((with_reducible refine rd_catL ?hk ?hl ?_); (case hk => exact rfl); (case hl => exact (Nat.le_of_ble_eq_true rfl)))
  | ((with_reducible refine' cd_isD ?hk ?hh ?hc ?hD ?hkk ?hdd ?_); (case hk => exact rfl); (case hh => exact rfl); (case hc => exact rfl); (case hD => assumption); (case hkk => assumption); (case hdd => assumption))
  | ((with_reducible refine' cd_isDT ?hk ?hh ?hc ?hD ?hkk ?hdd ?_); (case hk => exact rfl); (case hh => exact rfl); (case hc => exact rfl); (case hD => assumption); (case hkk => assumption); (case hdd => assumption))
  | ((with_reducible refine' ed_var ?hv ?_); (case hv => exact rfl))
  | with_reducible refine ed_rep ?_
  | with_reducible refine ed_op ?_
  | with_reducible refine ed_un ?_
  | with_reducible refine rd_orN ?_
  | with_reducible refine rd_andN ?_
  | with_reducible refine rd_and1 ?_
  | with_reducible refine rd_shrN ?_
  | with_reducible refine rd_shr1 ?_
  | with_reducible refine rd_int ?_
  | with_reducible refine rd_bool ?_
  | with_reducible refine rd_mod (by first | assumption | decide) ?_
  | with_reducible refine rd_fdiv (by first | assumption | decide) ?_
  | with_reducible refine rd_mulR (by decide) ?_
  | with_reducible refine rd_mulL (by first | decide | assumption) ?_
  | with_reducible refine ud_int ?_
  | with_reducible refine rd_isN ?_
  | with_reducible refine rd_notN ?_
  | with_reducible refine rd_eq rfl ?_
  | with_reducible refine rd_ne rfl ?_
  | with_reducible refine td_test ?_
  | with_reducible refine td_B ?_
  | with_reducible refine td_not ?_
  | with_reducible refine td_and ?_
  | with_reducible refine td_or ?_
  | with_reducible refine td_yes ?_
  | with_reducible refine ed_andV ?_
  | with_reducible refine ed_orV ?_
  | with_reducible refine ed_notV ?_
  | with_reducible refine ed_if ?_
  | with_reducible refine ed_chain ?_
  | with_reducible refine ed_isTL rfl ?_
  | ((with_reducible refine And.intro (show okD _ from ?hok) ?_); (case hok => first | assumption | exact rfl))
  | with_reducible refine ed_cb ?_
  | with_reducible refine ad_nil ?_
  | with_reducible refine ad_cons ?_
  | ((with_reducible refine ed_tup ?_))
  | ((with_reducible refine ed_lst ?_))
  | with_reducible refine ed_dnew ?_
  | with_reducible refine And.intro (show List.length [] ≤ 100000 from Nat.le_of_ble_eq_true rfl) ?_
  | with_reducible refine And.intro (show List.length (_ :: _) ≤ 100000 from Nat.le_of_ble_eq_true rfl) ?_
  | with_reducible refine od_none ?_
  | with_reducible refine od_some ?_
  | with_reducible refine ed_slL rfl ?_
  | with_reducible refine ed_slT rfl ?_
  | with_reducible refine id_list rfl ?_
  | with_reducible refine id_tup rfl ?_
  | ((with_reducible refine cd_isInt rfl ?hok ?_); (case hok => first | assumption | exact rfl))
  | ((with_reducible refine cd_isBool rfl ?hok ?_); (case hok => first | assumption | exact rfl))
  | ((with_reducible refine cd_isStr rfl ?hok ?_); (case hok => first | assumption | exact rfl))
  | ((with_reducible refine cd_isTup rfl ?hok ?_); (case hok => first | assumption | exact rfl))
  | ((with_reducible refine cd_isLst rfl ?hok ?_); (case hok => first | assumption | exact rfl))
  | ((with_reducible refine' cd_len ?hk ?ha ?_); (case hk => exact rfl); (case ha => exact rfl))
  | ((with_reducible refine' cd_tup ?hk ?ha ?_); (case hk => exact rfl); (case ha => exact rfl))
  | with_reducible refine cd_abs ?_
  | with_reducible refine cd_int ?_
  | ((with_reducible refine ed_callP rfl ?_))
  | ((with_reducible refine ed_callE (by assumption) rfl ?_))
  | ((with_reducible refine ed_callX rfl ?_))
  | ((with_reducible refine ed_callH rfl ?_))
  | (show asB (D.bl _) _; dsimp only [asB])
  | (show asI (D.int _) _; dsimp only [asI])
  | (show asU (D.tup _) _; dsimp only [asU])
  | (show asL (D.lst _) _; dsimp only [asL])
  | with_reducible refine isT_t ?_
  | with_reducible refine isT_f ?_)
local macro_rules | `(tactic| walk_at "dd") => `(tactic| (repeat (walk_at "d")))
local macro_rules | `(tactic| walk_at "v") => `(tactic| (repeat (first | walk_at "d" | (refine isT_val (c := true) rfl (isT_t ?_)) | (refine isT_val (c := false) rfl (isT_f ?_)))))

section
variable {P : Program} {w : World} {K : PySem.W.Frag} {mg : Str → Option Value} {base : Heap} {A AI : Nat → Addr} {FD : Nat → FuncData}
/-! ### what are no items -/
def badL : List D := [.non, .tup [], .tup [.int 0], .tup [.int 1, .int 2], .lst [.int 0, .int 1], .tup [.int 0, .int 1, .int 1], .tup [.int 0, .int 3, .int 2], .tup [.int 0, .int 1001], .tup [.int 0, .int (-1)], .tup [.int 0, .non], .tup [.int 0, .bl true], .tup [.bl false, .int 1], .tup [.int 0, .str "1"], .int 0, .dct [] [], .tup [.int 0, .int 1, .tup [.int 2]], .tup [.int (-1), .int 0, .int 1]]
abbrev sp_no_items (K : PySem.W.Frag) : Sp := SpH K (fun _ : Unit => []) (fun _ => True) fun _ r => r ∈ badL
theorem ok_no_items (T : Txt K mg A AI FD) : FnOk P w K mg base CX0 3 (A 37) (FD 37) ["hand"] (sp_no_items K) := by
  have G__law_any : FnOk P w K mg base CX0 2 (A 32) (FD 32) ["hand", "some"] (sp_any K) := ok_any T
  refine okH T.d__law_no_items sc__law_no_items (fun _ => rfl) (fun cdv Ar outer s H E hr => ⟨_, (pss_cons (ps_set (i := 1) sc__law_no_items.nd rfl (Or.inl rfl) (pe_lst (pa_cons pe_non (pa_cons (pe_tup pa_nil) (pa_cons (pe_tup (pa_cons pe_int pa_nil)) (pa_cons (pe_tup (pa_cons pe_int (pa_cons pe_int pa_nil))) (pa_cons (pe_lst (pa_cons pe_int (pa_cons pe_int pa_nil))) (pa_cons (pe_tup (pa_cons pe_int (pa_cons pe_int (pa_cons pe_int pa_nil)))) (pa_cons (pe_tup (pa_cons pe_int (pa_cons pe_int (pa_cons pe_int pa_nil)))) (pa_cons (pe_tup (pa_cons pe_int (pa_cons pe_int pa_nil))) (pa_cons (pe_tup (pa_cons pe_int (pa_cons (pe_un un_neg pe_int) pa_nil))) (pa_cons (pe_tup (pa_cons pe_int (pa_cons pe_non pa_nil))) (pa_cons (pe_tup (pa_cons pe_int (pa_cons pe_bl pa_nil))) (pa_cons (pe_tup (pa_cons pe_bl (pa_cons pe_int pa_nil))) (pa_cons (pe_tup (pa_cons pe_int (pa_cons pe_str pa_nil))) (pa_cons pe_int (pa_cons pe_dnewK pa_nil)))))))))))))))))
      (pss_one (ps_ret (pc0 T.d__law_any G__law_any (hr.mono (by first | decide | exact Nat.le_refl _)) (pa_cons (pv 0) (pa_cons (pe_op (op_catLK K) (pv 1) (pe_lst (pa_cons (pe_tup (pa_cons pe_int (pa_cons pe_int (pa_cons (pe_tup (pa_cons pe_int pa_nil)) pa_nil)))) (pa_cons (pe_tup (pa_cons (pe_un un_neg pe_int) (pa_cons pe_int (pa_cons pe_int pa_nil)))) pa_nil)))) pa_nil)))))), ?_⟩)
  rintro _ F0 H0 h _
  show SD _ _ [some (.adr h), none] [] _ _ _ _
  walk_at "dd"
  refine ⟨(.lst badL, badL), h, rfl, rfl, ⟨rfl, Nat.le_of_ble_eq_true rfl, Nat.le_of_ble_eq_true rfl⟩, ?_⟩
  intro r hr
  exact hr
theorem bad_ok : ∀ d ∈ badL, domI d ∧ goodD d = false := by
  intro d hd
  unfold badL at hd
  simp only [List.mem_cons, List.not_mem_nil, or_false] at hd
  have tup : ∀ l : List D, l.length ≤ 100000 → (∀ y ∈ l, okD y) → domI (.tup l) := fun l h1 h2 => ⟨rfl, fun l' e => by cases e; exact ⟨h1, h2⟩⟩
  have non : ∀ d : D, okD d → (∀ l, d ≠ .tup l) → domI d := fun d h1 h2 => ⟨h1, fun l e => (h2 l e).elim⟩
  have two : ∀ a b : D, okD a → okD b → domI (.tup [a, b]) := fun a b ha hb => tup _ (Nat.le_of_ble_eq_true rfl) fun y hy => by
    simp only [List.mem_cons, List.not_mem_nil, or_false] at hy
    rcases hy with rfl | rfl <;> assumption
  have three : ∀ a b c : D, okD a → okD b → okD c → domI (.tup [a, b, c]) := fun a b c ha hb hc => tup _ (Nat.le_of_ble_eq_true rfl) fun y hy => by
    simp only [List.mem_cons, List.not_mem_nil, or_false] at hy
    rcases hy with rfl | rfl | rfl <;> assumption
  rcases hd with rfl | rfl | rfl | rfl | rfl | rfl | rfl | rfl | rfl | rfl | rfl | rfl | rfl | rfl | rfl | rfl | rfl
  · exact ⟨non _ rfl (fun l e => by cases e), rfl⟩
  · exact ⟨tup _ (Nat.zero_le _) (fun y hy => by cases hy), by decide +kernel⟩
  · exact ⟨tup _ (Nat.le_of_ble_eq_true rfl) (fun y hy => by rw [List.mem_singleton] at hy; subst hy; rfl), by decide +kernel⟩
  · exact ⟨two _ _ rfl rfl, by decide +kernel⟩
  · exact ⟨non _ rfl (fun l e => by cases e), rfl⟩
  · exact ⟨three _ _ _ rfl rfl rfl, by decide +kernel⟩
  · exact ⟨three _ _ _ rfl rfl rfl, by decide +kernel⟩
  · exact ⟨two _ _ rfl rfl, by decide +kernel⟩
  · exact ⟨two _ _ rfl rfl, by decide +kernel⟩
  · exact ⟨two _ _ rfl rfl, by decide +kernel⟩
  · exact ⟨two _ _ rfl rfl, by decide +kernel⟩
  · exact ⟨two _ _ rfl rfl, by decide +kernel⟩
  · exact ⟨two _ _ rfl rfl, by decide +kernel⟩
  · exact ⟨non _ rfl (fun l e => by cases e), rfl⟩
  · exact ⟨non _ rfl (fun l e => by cases e), rfl⟩
  · exact ⟨three _ _ _ rfl rfl rfl, by decide +kernel⟩
  · exact ⟨three _ _ _ rfl rfl rfl, by decide +kernel⟩
def oddL : List D := [.int (-1), .int 201, .non, .bl true, .str "3", .tup [.int 3]]
theorem odd_ok : ∀ d ∈ oddL, okD d ∧ withinD d 0 200 = false := by
  intro d hd
  unfold oddL at hd
  simp only [List.mem_cons, List.not_mem_nil, or_false] at hd
  rcases hd with rfl | rfl | rfl | rfl | rfl | rfl <;> exact ⟨rfl, by decide +kernel⟩
def lamQ : Str := (PyProof.Rows.envOfC "_law_are_refused_right" (defScope s__law_are_refused_right) 0 0 .none).qual ++ "<lambda>"
abbrev coinsD : D := .tup [.str "coins", .int (-1)]
abbrev numD : D := .str "number"
theorem wd_coins {d o : D} (hb : goodD d = false) {cls : Value} {fo : Option (List (Str × V))} (h : excF A (d, o) cls fo) : Wd A cls fo coinsD := by
  rcases h with ⟨_, h2, h3⟩ | ⟨h1, _⟩
  · exact .inl ⟨-1, h2, h3, rfl⟩
  · rw [show (d, o).1 = d from rfl, hb] at h1
    cases h1
theorem wd_coinsI {d : D} {cls : Value} {fo : Option (List (Str × V))} (h : excI A d cls fo) : Wd A cls fo coinsD := .inl ⟨-1, h.2.1, h.2.2, rfl⟩
theorem wd_num {d o : D} (hb : goodD d = true) {cls : Value} {fo : Option (List (Str × V))} (h : excF A (d, o) cls fo) : Wd A cls fo numD := by
  rcases h with ⟨h1, _⟩ | ⟨_, _, h2, h3⟩
  · rw [show (d, o).1 = d from rfl, hb] at h1
    cases h1
  · exact .inr ⟨h2, h3, rfl⟩
theorem no_bad {d o : D} (hb : goodD d = false) {X : List Nat → Nat → Prop} : ¬ ∃ items n, (d, o) = (tupN items, nI n) ∧ GoodN items ∧ X items n := fun ⟨items, n, e, g, _⟩ => by
  rw [(Prod.mk.inj e).1, good_of g] at hb
  cases hb
theorem no_odd {d o : D} (hb : withinD o 0 200 = false) {X : List Nat → Nat → Prop} : ¬ ∃ items n, (d, o) = (tupN items, nI n) ∧ GoodN items ∧ n ≤ 200 ∧ X items n := fun ⟨items, n, e, g, hn, _⟩ => by
  rw [(Prod.mk.inj e).2, within200 hn] at hb
  cases hb
theorem no_badI {d : D} (hb : goodD d = false) {X : List Nat → Prop} : ¬ ∃ items, d = tupN items ∧ GoodN items ∧ X items := fun ⟨items, e, g, _⟩ => by
  rw [e, good_of g] at hb
  cases hb
theorem small_bad {d o : D} (hb : goodD d = false) : small (d, o) := fun _ _ _ _ h _ => by
  rw [show (d, o).1 = d from rfl, hb] at h
  cases h
theorem small_odd {d o : D} (hb : withinD o 0 200 = false) : small (d, o) := fun _ n _ e _ hn => by
  rw [show o = nI n from e, within200 hn] at hb
  cases hb
theorem good01 : goodD (tupN [0, 1]) = true := by decide +kernel
theorem ok_refused (T : Txt K mg A AI FD) {c Pt : Addr} (L : DefC K mg "_law_are_refused_right" s__law_are_refused_right (A 39) (FD 39) ["hand"] c) (TB : LamX.TabB base mg c Pt) :
    FnOk P w K mg base CX0 9 (A 39) (FD 39) ["hand"] (SpHT K [(Pt, lamQ)]) := by
  have G__law_any : FnOk P w K mg base CX0 2 (A 32) (FD 32) ["hand", "some"] (sp_any K) := ok_any T
  have G__law_no_items : FnOk P w K mg base CX0 3 (A 37) (FD 37) ["hand"] (sp_no_items K) := ok_no_items T
  have G_item_sums : FnOk P w K mg base (L2.CX P w) 6 (A 21) (FD 21) ["items", "often"] (sp_item_sums K A) := ok_item_sums T
  have G_item_sums_number : FnOk P w K mg base (L2.CX P w) 6 (A 22) (FD 22) ["items", "often"] (sp_item_sums_number K A) := ok_item_sums_number T
  have G_folded_sizes : FnOk P w K mg base (L2.CX P w) 6 (A 27) (FD 27) ["items", "most"] (sp_folded_sizes K A) := ok_folded_sizes T
  have G_reach : FnOk P w K mg base (L2.CX P w) 6 (A 24) (FD 24) ["items", "often"] (sp_reach K A) := ok_reach T
  have G_turned_items : FnOk P w K mg base (L2.CX P w) 5 (A 26) (FD 26) ["items"] (sp_turned_items K A) := ok_turned_items T
  have G_is_folded : FnOk P w K mg base (L2.CX P w) 6 (A 25) (FD 25) ["items", "often", "number"] (sp_is_folded K A) := ok_is_folded T
  refine okHT L sc__law_are_refused_right (fun Ar outer s H E hr => ⟨_, (pss_cons (ps_asg (pe_tup (pa_cons (pc0 T.d__law_no_items G__law_no_items (hr.mono (by first | decide | exact Nat.le_refl _)) (pa_cons (pv 0) pa_nil)) (pa_cons (pc0 T.d__law_any G__law_any (hr.mono (by first | decide | exact Nat.le_refl _)) (pa_cons (pv 0) (pa_cons (pe_lst (pa_cons (pe_un un_neg pe_int) (pa_cons pe_int (pa_cons pe_non (pa_cons pe_bl (pa_cons pe_str (pa_cons (pe_tup (pa_cons pe_int pa_nil)) pa_nil))))))) pa_nil))) pa_nil))) (pg_tup (by rfl) (pgs_cons (pg_name (i := 2) sc__law_are_refused_right.nd rfl (Or.inr rfl)) (pgs_cons (pg_name (i := 3) sc__law_are_refused_right.nd rfl (Or.inr rfl)) pgs_nil))))
      (pss_cons (ps_ownL (i := 1) sc__law_are_refused_right.nd rfl (Or.inl rfl) (pa_cons (pe_word (k := 6) T.d__law_word sc__law_word (fun cdv => word_gives T _ cdv _) TB rfl (hr.mono (by decide)) (LamX.lamS_by (sc := defScope s__law_are_refused_right) (by decide +kernel)) (fun _ _ _ _ _ _ _ hr => (pcE (takes_of rfl rfl rfl rfl) T.d_item_sums G_item_sums (hr.mono (by first | decide | exact Nat.le_refl _)) (pa_cons (pv 2) (pa_cons (pv 3) pa_nil))))) pa_nil))
      (pss_cons (ps_expr (pe_bm PySem.F.plainAttrs_list PySem.F.slot_list_append PySem.F.type_list_append mt_append (pv 1) (pa_cons (pe_word (k := 6) T.d__law_word sc__law_word (fun cdv => word_gives T _ cdv _) TB rfl (hr.mono (by decide)) (LamX.lamS_by (sc := defScope s__law_are_refused_right) (by decide +kernel)) (fun _ _ _ _ _ _ _ hr => (pcE (takes_of rfl rfl rfl rfl) T.d_item_sums_number G_item_sums_number (hr.mono (by first | decide | exact Nat.le_refl _)) (pa_cons (pv 2) (pa_cons (pv 3) pa_nil))))) pa_nil)))
      (pss_cons (ps_expr (pe_bm PySem.F.plainAttrs_list PySem.F.slot_list_append PySem.F.type_list_append mt_append (pv 1) (pa_cons (pe_word (k := 6) T.d__law_word sc__law_word (fun cdv => word_gives T _ cdv _) TB rfl (hr.mono (by decide)) (LamX.lamS_by (sc := defScope s__law_are_refused_right) (by decide +kernel)) (fun _ _ _ _ _ _ _ hr => (pcE (takes_of rfl rfl rfl rfl) T.d_folded_sizes G_folded_sizes (hr.mono (by first | decide | exact Nat.le_refl _)) (pa_cons (pv 2) (pa_cons (pv 3) pa_nil))))) pa_nil)))
      (pss_cons (ps_expr (pe_bm PySem.F.plainAttrs_list PySem.F.slot_list_append PySem.F.type_list_append mt_append (pv 1) (pa_cons (pe_word (k := 6) T.d__law_word sc__law_word (fun cdv => word_gives T _ cdv _) TB rfl (hr.mono (by decide)) (LamX.lamS_by (sc := defScope s__law_are_refused_right) (by decide +kernel)) (fun _ _ _ _ _ _ _ hr => (pcE (takes_of rfl rfl rfl rfl) T.d_is_folded G_is_folded (hr.mono (by first | decide | exact Nat.le_refl _)) (pa_cons (pv 2) (pa_cons (pv 3) (pa_cons pe_non pa_nil)))))) pa_nil)))
      (pss_cons (ps_expr (pe_bm PySem.F.plainAttrs_list PySem.F.slot_list_append PySem.F.type_list_append mt_append (pv 1) (pa_cons (pe_word (k := 6) T.d__law_word sc__law_word (fun cdv => word_gives T _ cdv _) TB rfl (hr.mono (by decide)) (LamX.lamS_by (sc := defScope s__law_are_refused_right) (by decide +kernel)) (fun _ _ _ _ _ _ _ hr => (pcE (takes_of rfl rfl rfl rfl) T.d_reach G_reach (hr.mono (by first | decide | exact Nat.le_refl _)) (pa_cons (pv 2) (pa_cons (pv 3) pa_nil))))) pa_nil)))
      (pss_cons (ps_expr (pe_bm PySem.F.plainAttrs_list PySem.F.slot_list_append PySem.F.type_list_append mt_append (pv 1) (pa_cons (pe_word (k := 6) T.d__law_word sc__law_word (fun cdv => word_gives T _ cdv _) TB rfl (hr.mono (by decide)) (LamX.lamS_by (sc := defScope s__law_are_refused_right) (by decide +kernel)) (fun _ _ _ _ _ _ _ hr => (pcE (takes_of rfl rfl rfl rfl) T.d_turned_items G_turned_items (hr.mono (by first | decide | exact Nat.le_refl _)) (pa_cons (pv 2) pa_nil)))) pa_nil)))
      (pss_cons (ps_expr (pe_bm PySem.F.plainAttrs_list PySem.F.slot_list_append PySem.F.type_list_append mt_append (pv 1) (pa_cons (pe_word (k := 6) T.d__law_word sc__law_word (fun cdv => word_gives T _ cdv _) TB rfl (hr.mono (by decide)) (LamX.lamS_by (sc := defScope s__law_are_refused_right) (by decide +kernel)) (fun _ _ _ _ _ _ _ hr => (pcE (takes_of rfl rfl rfl rfl) T.d_item_sums G_item_sums (hr.mono (by first | decide | exact Nat.le_refl _)) (pa_cons (pe_tup (pa_cons pe_int (pa_cons pe_int pa_nil))) (pa_cons (pv 3) pa_nil))))) pa_nil)))
      (pss_cons (ps_expr (pe_bm PySem.F.plainAttrs_list PySem.F.slot_list_append PySem.F.type_list_append mt_append (pv 1) (pa_cons (pe_word (k := 6) T.d__law_word sc__law_word (fun cdv => word_gives T _ cdv _) TB rfl (hr.mono (by decide)) (LamX.lamS_by (sc := defScope s__law_are_refused_right) (by decide +kernel)) (fun _ _ _ _ _ _ _ hr => (pcE (takes_of rfl rfl rfl rfl) T.d_item_sums_number G_item_sums_number (hr.mono (by first | decide | exact Nat.le_refl _)) (pa_cons (pe_tup (pa_cons pe_int (pa_cons pe_int pa_nil))) (pa_cons (pv 3) pa_nil))))) pa_nil)))
      (pss_cons (ps_expr (pe_bm PySem.F.plainAttrs_list PySem.F.slot_list_append PySem.F.type_list_append mt_append (pv 1) (pa_cons (pe_word (k := 6) T.d__law_word sc__law_word (fun cdv => word_gives T _ cdv _) TB rfl (hr.mono (by decide)) (LamX.lamS_by (sc := defScope s__law_are_refused_right) (by decide +kernel)) (fun _ _ _ _ _ _ _ hr => (pcE (takes_of rfl rfl rfl rfl) T.d_folded_sizes G_folded_sizes (hr.mono (by first | decide | exact Nat.le_refl _)) (pa_cons (pe_tup (pa_cons pe_int (pa_cons pe_int pa_nil))) (pa_cons (pv 3) pa_nil))))) pa_nil)))
      (pss_cons (ps_expr (pe_bm PySem.F.plainAttrs_list PySem.F.slot_list_append PySem.F.type_list_append mt_append (pv 1) (pa_cons (pe_word (k := 6) T.d__law_word sc__law_word (fun cdv => word_gives T _ cdv _) TB rfl (hr.mono (by decide)) (LamX.lamS_by (sc := defScope s__law_are_refused_right) (by decide +kernel)) (fun _ _ _ _ _ _ _ hr => (pcE (takes_of rfl rfl rfl rfl) T.d_is_folded G_is_folded (hr.mono (by first | decide | exact Nat.le_refl _)) (pa_cons (pe_tup (pa_cons pe_int (pa_cons pe_int pa_nil))) (pa_cons (pv 3) (pa_cons pe_non pa_nil)))))) pa_nil)))
      (pss_cons (ps_expr (pe_bm PySem.F.plainAttrs_list PySem.F.slot_list_append PySem.F.type_list_append mt_append (pv 1) (pa_cons (pe_word (k := 6) T.d__law_word sc__law_word (fun cdv => word_gives T _ cdv _) TB rfl (hr.mono (by decide)) (LamX.lamS_by (sc := defScope s__law_are_refused_right) (by decide +kernel)) (fun _ _ _ _ _ _ _ hr => (pcE (takes_of rfl rfl rfl rfl) T.d_reach G_reach (hr.mono (by first | decide | exact Nat.le_refl _)) (pa_cons (pe_tup (pa_cons pe_int (pa_cons pe_int pa_nil))) (pa_cons (pv 3) pa_nil))))) pa_nil)))
      (pss_one (ps_ret (pe_cmpR (op_eqDK K hr.units) (pv 1) (pe_op (op_catLK K) (pe_op op_rep (pe_lst (pa_cons (pe_tup (pa_cons pe_str (pa_cons (pe_un un_neg pe_int) pa_nil))) pa_nil)) pe_int) (pe_op op_rep (pe_lst (pa_cons pe_str pa_nil)) pe_int)) (nomark _)))))))))))))))), ?_⟩)
  intro F0 H0 h
  show SD _ _ [some (.adr h), none, none, none] [(Pt, .tab lamQ)] _ _ _ _
  walk_at "dd"
  refine ⟨(), h, rfl, rfl, trivial, ?_⟩
  intro bad hbad
  obtain ⟨hb1, hbg⟩ := bad_ok bad hbad
  walk_at "dd"
  refine ⟨(.lst oddL, oddL), h, rfl, rfl, ⟨rfl, Nat.le_of_ble_eq_true rfl, Nat.le_of_ble_eq_true rfl⟩, ?_⟩
  intro odd hodd
  obtain ⟨ho1, how⟩ := odd_ok odd hodd
  walk_at "dd"
  refine sd_ownL ?_
  refine ad_cons ?_
  refine ed_lamX (j := 0) rfl rfl fun F1 H1 => ?_
  walk_at "dd"
  refine ⟨(bad, odd), rfl, ⟨⟨hb1, ho1⟩, small_bad hbg⟩, fun cls fo hx => ⟨coinsD, wd_coins hbg hx, ?_⟩, fun d hd => (no_bad hbg hd).elim⟩
  walk_at "dd"
  intro pw
  walk_at "dd"
  refine sd_append (j := 0) (p := pw) rfl rfl rfl ?_
  refine ed_lamX (j := 1) rfl rfl fun F1 H1 => ?_
  walk_at "dd"
  refine ⟨(bad, odd), rfl, ⟨⟨hb1, ho1⟩, small_bad hbg⟩, fun cls fo hx => ⟨coinsD, wd_coins hbg hx, ?_⟩, fun d hd => (no_bad hbg hd).elim⟩
  refine ⟨_, rfl, Nat.le_of_ble_eq_true rfl, ?_⟩
  walk_at "dd"
  refine sd_append (j := 0) (p := pw) rfl rfl rfl ?_
  refine ed_lamX (j := 1) rfl rfl fun F1 H1 => ?_
  walk_at "dd"
  refine ⟨(bad, odd), rfl, ⟨⟨hb1, ho1⟩, small_bad hbg⟩, fun cls fo hx => ⟨coinsD, wd_coins hbg hx, ?_⟩, fun d hd => (no_bad hbg hd).elim⟩
  refine ⟨_, rfl, Nat.le_of_ble_eq_true rfl, ?_⟩
  walk_at "dd"
  refine sd_append (j := 0) (p := pw) rfl rfl rfl ?_
  refine ed_lamX (j := 1) rfl rfl fun F1 H1 => ?_
  walk_at "dd"
  refine ⟨(bad, odd, .non), rfl, ⟨⟨hb1, ho1⟩, rfl⟩, fun cls fo hx => ⟨coinsD, wd_coins hbg hx, ?_⟩, fun d hd => (no_bad hbg hd).elim⟩
  refine ⟨_, rfl, Nat.le_of_ble_eq_true rfl, ?_⟩
  walk_at "dd"
  refine sd_append (j := 0) (p := pw) rfl rfl rfl ?_
  refine ed_lamX (j := 1) rfl rfl fun F1 H1 => ?_
  walk_at "dd"
  refine ⟨(bad, odd), rfl, ⟨hb1, ho1⟩, fun cls fo hx => ⟨coinsD, wd_coins hbg hx, ?_⟩, fun d hd => (no_bad hbg hd).elim⟩
  refine ⟨_, rfl, Nat.le_of_ble_eq_true rfl, ?_⟩
  walk_at "dd"
  refine sd_append (j := 0) (p := pw) rfl rfl rfl ?_
  refine ed_lamX (j := 1) rfl rfl fun F1 H1 => ?_
  walk_at "dd"
  refine ⟨bad, rfl, hb1, fun cls fo hx => ⟨coinsD, wd_coinsI hx, ?_⟩, fun d hd => (no_badI hbg hd).elim⟩
  refine ⟨_, rfl, Nat.le_of_ble_eq_true rfl, ?_⟩
  walk_at "dd"
  refine sd_append (j := 0) (p := pw) rfl rfl rfl ?_
  refine ed_lamX (j := 1) rfl rfl fun F1 H1 => ?_
  walk_at "dd"
  refine ⟨(tupN [0, 1], odd), rfl, ⟨⟨domI_tup _ (Nat.le_of_ble_eq_true rfl), ho1⟩, small_odd how⟩, fun cls fo hx => ⟨numD, wd_num good01 hx, ?_⟩, fun d hd => (no_odd how hd).elim⟩
  refine ⟨_, rfl, Nat.le_of_ble_eq_true rfl, ?_⟩
  walk_at "dd"
  refine sd_append (j := 0) (p := pw) rfl rfl rfl ?_
  refine ed_lamX (j := 1) rfl rfl fun F1 H1 => ?_
  walk_at "dd"
  refine ⟨(tupN [0, 1], odd), rfl, ⟨⟨domI_tup _ (Nat.le_of_ble_eq_true rfl), ho1⟩, small_odd how⟩, fun cls fo hx => ⟨numD, wd_num good01 hx, ?_⟩, fun d hd => (no_odd how hd).elim⟩
  refine ⟨_, rfl, Nat.le_of_ble_eq_true rfl, ?_⟩
  walk_at "dd"
  refine sd_append (j := 0) (p := pw) rfl rfl rfl ?_
  refine ed_lamX (j := 1) rfl rfl fun F1 H1 => ?_
  walk_at "dd"
  refine ⟨(tupN [0, 1], odd), rfl, ⟨⟨domI_tup _ (Nat.le_of_ble_eq_true rfl), ho1⟩, small_odd how⟩, fun cls fo hx => ⟨numD, wd_num good01 hx, ?_⟩, fun d hd => (no_odd how hd).elim⟩
  refine ⟨_, rfl, Nat.le_of_ble_eq_true rfl, ?_⟩
  walk_at "dd"
  refine sd_append (j := 0) (p := pw) rfl rfl rfl ?_
  refine ed_lamX (j := 1) rfl rfl fun F1 H1 => ?_
  walk_at "dd"
  refine ⟨(tupN [0, 1], odd, .non), rfl, ⟨⟨domI_tup _ (Nat.le_of_ble_eq_true rfl), ho1⟩, rfl⟩, fun cls fo hx => ⟨numD, wd_num good01 hx, ?_⟩, fun d hd => (no_odd how hd).elim⟩
  refine ⟨_, rfl, Nat.le_of_ble_eq_true rfl, ?_⟩
  walk_at "dd"
  refine sd_append (j := 0) (p := pw) rfl rfl rfl ?_
  refine ed_lamX (j := 1) rfl rfl fun F1 H1 => ?_
  walk_at "dd"
  refine ⟨(tupN [0, 1], odd), rfl, ⟨domI_tup _ (Nat.le_of_ble_eq_true rfl), ho1⟩, fun cls fo hx => ⟨numD, wd_num good01 hx, ?_⟩, fun d hd => (no_odd how hd).elim⟩
  refine ⟨_, rfl, Nat.le_of_ble_eq_true rfl, ?_⟩
  refine sd_freeze (i := 1) (j := 0) rfl rfl ?_
  show SD _ _ [some (.adr h), some (.lst [coinsD, coinsD, coinsD, coinsD, coinsD, coinsD, numD, numD, numD, numD, numD]), some bad, some odd] [(Pt, .tab lamQ)] _ _ _ _
  walk_at "dd"
  refine ⟨by decide, Nat.le_of_ble_eq_true rfl, by decide, by decide, ?_⟩
  walk_at "dd"
  refine ⟨by decide, Nat.le_of_ble_eq_true rfl, by decide, by decide, ?_⟩
  walk_at "dd"
  have pc : PyOf coinsD (.tuple [.str "coins", .int (-1)]) := .tup (.cons (.str _) (.cons (.int _) .nil))
  have pn : PyOf numD (.str "number") := .str _
  have pw : PyOf (.lst [coinsD, coinsD, coinsD, coinsD, coinsD, coinsD, numD, numD, numD, numD, numD]) (.list [.tuple [.str "coins", .int (-1)], .tuple [.str "coins", .int (-1)], .tuple [.str "coins", .int (-1)], .tuple [.str "coins", .int (-1)], .tuple [.str "coins", .int (-1)], .tuple [.str "coins", .int (-1)], .str "number", .str "number", .str "number", .str "number", .str "number"]) :=
    .lst (.cons pc (.cons pc (.cons pc (.cons pc (.cons pc (.cons pc (.cons pn (.cons pn (.cons pn (.cons pn (.cons pn .nil)))))))))))
  refine rd_eqD rfl pw (show PyOf (.lst [coinsD, coinsD, coinsD, coinsD, coinsD, coinsD, numD, numD, numD, numD, numD]) _ from pw) (by decide +kernel) (by decide +kernel) ?_
  refine ⟨?_, fun q hq => ?_⟩
  · exact congrArg D.bl (by decide +kernel)
  · rw [List.mem_singleton] at hq
    subst hq
    exact List.mem_singleton.mpr rfl
end
end Pf
set_option Elab.async false
set_option linter.all false
set_option maxRecDepth 100000
set_option maxHeartbeats 2000000
namespace Pf
open PySem L2 RZ DL M45
local macro_rules | `(tactic| walk_at "d") => `(tactic| first
  | with_reducible refine sd_seq ?_
  | with_reducible refine sd_if ?_
  | with_reducible refine sd_ret ?_
  | with_reducible refine sd_asg ?_
  | with_reducible refine sd_next ?_
  | with_reducible refine sd_brk ?_
  | with_reducible refine sd_cont ?_
  | with_reducible refine sd_dropC ?_
  | with_reducible refine gd_name ?_
  | with_reducible refine gds_nil ?_
  | with_reducible refine gds_cons ?_
  | with_reducible refine gd_tup rfl rfl ?_
  | with_reducible refine ed_int ?_
  | with_reducible refine ed_bl ?_
  | with_reducible refine ed_str ?_
  | with_reducible refine ed_ty ?_
  | with_reducible refine ed_non ?_
  | with_reducible refine ed_ref ?_
  | ((with_reducible refine rd_catL ?hk ?hl ?_); (case hk => exact rfl); (case hl => exact (Nat.le_of_ble_eq_true rfl)))
  | ((with_reducible refine' cd_isD ?hk ?hh ?hc ?hD ?hkk ?hdd ?_); (case hk => exact rfl); (case hh => exact rfl); (case hc => exact rfl); (case hD => assumption); (case hkk => assumption); (case hdd => assumption))
  | ((with_reducible refine' cd_isDT ?hk ?hh ?hc ?hD ?hkk ?hdd ?_); (case hk => exact rfl); (case hh => exact rfl); (case hc => exact rfl); (case hD => assumption); (case hkk => assumption); (case hdd => assumption))
  | ((with_reducible refine' ed_var ?hv ?_); (case hv => exact rfl))
  | with_reducible refine ed_rep ?_
  | with_reducible refine ed_op ?_
  | with_reducible refine ed_un ?_
  | with_reducible refine rd_orN ?_
  | with_reducible refine rd_andN ?_
  | with_reducible refine rd_and1 ?_
  | with_reducible refine rd_shrN ?_
  | with_reducible refine rd_shr1 ?_
  | with_reducible refine rd_int ?_
  | with_reducible refine rd_bool ?_
  | with_reducible refine rd_mod (by first | assumption | decide) ?_
  | with_reducible refine rd_fdiv (by first | assumption | decide) ?_
  | with_reducible refine rd_mulR (by decide) ?_
  | with_reducible refine rd_mulL (by first | decide | assumption) ?_
  | with_reducible refine ud_int ?_
  | with_reducible refine rd_isN ?_
  | with_reducible refine rd_notN ?_
  | with_reducible refine rd_eq rfl ?_
  | with_reducible refine rd_ne rfl ?_
  | with_reducible refine td_test ?_
  | with_reducible refine td_B ?_
  | with_reducible refine td_not ?_
  | with_reducible refine td_and ?_
  | with_reducible refine td_or ?_
  | with_reducible refine td_yes ?_
  | with_reducible refine ed_andV ?_
  | with_reducible refine ed_orV ?_
  | with_reducible refine ed_notV ?_
  | with_reducible refine ed_if ?_
  | with_reducible refine ed_chain ?_
  | with_reducible refine ed_isTL rfl ?_
  | ((with_reducible refine And.intro (show okD _ from ?hok) ?_); (case hok => first | assumption | exact rfl))
  | with_reducible refine ed_cb ?_
  | with_reducible refine ad_nil ?_
  | with_reducible refine ad_cons ?_
  | ((with_reducible refine ed_tup ?_))
  | ((with_reducible refine ed_lst ?_))
  | with_reducible refine ed_dnew ?_
  | with_reducible refine And.intro (show List.length [] ≤ 100000 from Nat.le_of_ble_eq_true rfl) ?_
  | with_reducible refine And.intro (show List.length (_ :: _) ≤ 100000 from Nat.le_of_ble_eq_true rfl) ?_
  | with_reducible refine od_none ?_
  | with_reducible refine od_some ?_
  | with_reducible refine ed_slL rfl ?_
  | with_reducible refine ed_slT rfl ?_
  | with_reducible refine id_list rfl ?_
  | with_reducible refine id_tup rfl ?_
  | ((with_reducible refine cd_isInt rfl ?hok ?_); (case hok => first | assumption | exact rfl))
  | ((with_reducible refine cd_isBool rfl ?hok ?_); (case hok => first | assumption | exact rfl))
  | ((with_reducible refine cd_isStr rfl ?hok ?_); (case hok => first | assumption | exact rfl))
  | ((with_reducible refine cd_isTup rfl ?hok ?_); (case hok => first | assumption | exact rfl))
  | ((with_reducible refine cd_isLst rfl ?hok ?_); (case hok => first | assumption | exact rfl))
  | ((with_reducible refine' cd_len ?hk ?ha ?_); (case hk => exact rfl); (case ha => exact rfl))
  | ((with_reducible refine' cd_tup ?hk ?ha ?_); (case hk => exact rfl); (case ha => exact rfl))
  | with_reducible refine cd_abs ?_
  | with_reducible refine cd_int ?_
  | ((with_reducible refine ed_callP rfl ?_))
  | ((with_reducible refine ed_callE (by assumption) rfl ?_))
  | ((with_reducible refine ed_callX rfl ?_))
  | ((with_reducible refine ed_callH rfl ?_))
  | (show asB (D.bl _) _; dsimp only [asB])
  | (show asI (D.int _) _; dsimp only [asI])
  | (show asU (D.tup _) _; dsimp only [asU])
  | (show asL (D.lst _) _; dsimp only [asL])
  | with_reducible refine isT_t ?_
  | with_reducible refine isT_f ?_)
local macro_rules | `(tactic| walk_at "dd") => `(tactic| (repeat (walk_at "d")))
local macro_rules | `(tactic| walk_at "v") => `(tactic| (repeat (first | walk_at "d" | (refine isT_val (c := true) rfl (isT_t ?_)) | (refine isT_val (c := false) rfl (isT_f ?_)))))

/-! ### all items from 0 to s -/
theorem sum_range (s : Nat) : ∀ k n, Sum (List.range (s + 1)) k n ↔ n ≤ k * s
  | 0, n => by
    show n = 0 ↔ n ≤ 0 * s
    omega
  | k + 1, n => by
    constructor
    · rintro ⟨i, hi, m, hm, rfl⟩
      have h1 := List.mem_range.mp hi
      have h2 := (sum_range s k m).mp hm
      rw [Nat.add_mul]
      omega
    · intro h
      rw [Nat.add_mul] at h
      refine ⟨n - min n (k * s), List.mem_range.mpr ?_, min n (k * s), (sum_range s k _).mpr (Nat.min_le_right _ _), ?_⟩
      · omega
      · omega
theorem bits_range (s k : Nat) : bitsOn (foldB (List.range (s + 1)) k) = List.range (k * s + 1) :=
  sorted_ext (bitsOn_sorted _) List.pairwise_lt_range fun x => by
    rw [bits_sum, sum_range, List.mem_range]
    omega
theorem good_range {s : Nat} (h1 : 1 ≤ s) (h2 : s ≤ 5) : GoodN (List.range (s + 1)) := by
  refine ⟨fun i hi => by have := List.mem_range.mp hi; omega, List.pairwise_lt_range, ?_, by rw [List.length_range]; omega⟩
  rw [List.range_succ_eq_map]
  rfl
theorem reach_range {s k : Nat} {r : D} (h : IsReach (foldB (List.range (s + 1)) k) r) : r = nI (k * s) := by
  have h1 := bits_range s k
  have e := reach_eq h (f := k * s + 1) (fun i hi => by rw [h1, List.getElem?_range hi]) (by rw [h1, List.getElem?_eq_none (by rw [List.length_range]; omega)]; intro z; cases z)
  rw [e]
  show D.int (((k * s + 1 : Nat) : Int) - 1) = D.int ((k * s : Nat) : Int)
  congr 1
  omega
section
variable {P : Program} {w : World} {K : PySem.W.Frag} {mg : Str → Option Value} {base : Heap} {A AI : Nat → Addr} {FD : Nat → FuncData}
theorem ok_law (T : Txt K mg A AI FD) {c Pt : Addr} (L : DefC K mg "_law_are_refused_right" s__law_are_refused_right (A 39) (FD 39) ["hand"] c) (TB : LamX.TabB base mg c Pt) :
    FnOk P w K mg base CX0 10 (A 40) (FD 40) ["script"] (spLaw K [(Pt, lamQ)]) := by
  have G__law_hand : FnOk P w K mg base CX0 1 (A 30) (FD 30) ["script"] (spHand K) := ok_hand T
  have G__law_items : FnOk P w K mg base CX0 2 (A 35) (FD 35) ["hand", "top", "most_of"] (sp_items K) := ok_items T
  have G__law_sums : FnOk P w K mg base CX0 1 (A 36) (FD 36) ["items", "often"] (sp_sums K) := ok_sums T
  have G__law_is : FnOk P w K mg base CX0 4 (A 33) (FD 33) ["answer", "due"] (sp_is K 3) := ok_is T 3
  have G__law_draw : FnOk P w K mg base CX0 1 (A 31) (FD 31) ["hand", "many"] (sp_draw K) := ok_draw T
  have G__law_is_right : FnOk P w K mg base CX0 7 (A 38) (FD 38) ["hand", "items", "often"] (sp_right K) := ok_right T
  have G__law_are_refused_right : FnOk P w K mg base CX0 9 (A 39) (FD 39) ["hand"] (SpHT K [(Pt, lamQ)]) := ok_refused T L TB
  have G_item_sums_number : FnOk P w K mg base (L2.CX P w) 6 (A 22) (FD 22) ["items", "often"] (sp_item_sums_number K A) := ok_item_sums_number T
  have G_folded_sizes : FnOk P w K mg base (L2.CX P w) 6 (A 27) (FD 27) ["items", "most"] (sp_folded_sizes K A) := ok_folded_sizes T
  have G_reach : FnOk P w K mg base (L2.CX P w) 6 (A 24) (FD 24) ["items", "often"] (sp_reach K A) := ok_reach T
  refine T.d_law.fn.ok sc_law (fun vs H Q E h => ?_) (fun cdv Ar outer s H vs Q E hr h => ⟨_, (pss_cons (ps_set (i := 1) sc_law.nd rfl (Or.inl rfl) (pc0 T.d__law_hand G__law_hand (hr.mono (by first | decide | exact Nat.le_refl _)) (pa_cons (pv 0) pa_nil)))
      (pss_cons (ps_for PassesOwn.never rfl (pi_range1 rfl (T.blt "range" (by decide)) (pa_cons pe_int pa_nil)) (pg_name (i := 2) sc_law.nd rfl (Or.inl rfl)) (pss_cons (ps_set (i := 3) sc_law.nd rfl (Or.inr rfl) (pc0 T.d__law_items G__law_items (hr.mono (by first | decide | exact Nat.le_refl _)) (pa_cons (pv 1) (pa_cons pe_int (pa_cons pe_int pa_nil)))))
      (pss_cons (ps_if (PW.pt (pw_or (pt_not (pt_val (pc0 T.d__law_is_right G__law_is_right (hr.mono (by first | decide | exact Nat.le_refl _)) (pa_cons (pv 1) (pa_cons (pv 3) (pa_cons (pc0 T.d__law_draw G__law_draw (hr.mono (by first | decide | exact Nat.le_refl _)) (pa_cons (pv 1) (pa_cons pe_int pa_nil))) pa_nil)))))) (pw_or1 (pt_not (pt_val (pc0 T.d__law_are_refused_right G__law_are_refused_right (hr.mono (by first | decide | exact Nat.le_refl _)) (pa_cons (pv 1) pa_nil))))))) (pss_one (ps_ret pe_bl)) pss_nil)
      (pss_cons (ps_set (i := 4) sc_law.nd rfl (Or.inl rfl) (pc0 T.d__law_draw G__law_draw (hr.mono (by first | decide | exact Nat.le_refl _)) (pa_cons (pv 1) (pa_cons pe_int pa_nil))))
      (pss_cons (ps_set (i := 5) sc_law.nd rfl (Or.inl rfl) (pbt T.blt (call_tupK K) (by decide +kernel) (pa_cons (pe_lc (own := [("often", 10)]) (g := gName 10) (tt := tYes) rfl sc_law.nd (pi_range1 rfl (T.blt "range" (by decide)) (pa_cons (pe_op op_add (pv 4) pe_int) pa_nil)) (blkOk_by (own := [("often", 10)]) (N := N_law) (sc := defScope s_law) (by decide +kernel)) (fun _ _ _ _ _ => pg_name (i := 10) sc_law.nd rfl (Or.inl rfl)) (fun _ _ _ _ _ => pts_nil) (fun _ _ _ _ _ => (pb T.blt (call_lenK K) (by decide +kernel) (pa_cons (pc0 T.d__law_sums G__law_sums (hr.mono (by first | decide | exact Nat.le_refl _)) (pa_cons (pv 3) (pa_cons (pv 10) pa_nil))) pa_nil)))) pa_nil)))
      (pss_one (ps_if (pt_not (pt_val (pc0 T.d__law_is G__law_is (hr.mono (by first | decide | exact Nat.le_refl _)) (pa_cons (pcN T.d_folded_sizes G_folded_sizes (hr.mono (by first | decide | exact Nat.le_refl _)) (pa_cons (pv 3) (pa_cons (pv 4) pa_nil))) (pa_cons (pv 5) pa_nil))))) (pss_one (ps_ret pe_bl)) pss_nil)))))))
      (pss_cons (ps_set (i := 6) sc_law.nd rfl (Or.inl rfl) (pc0 T.d__law_items G__law_items (hr.mono (by first | decide | exact Nat.le_refl _)) (pa_cons (pv 1) (pa_cons pe_int (pa_cons pe_int pa_nil)))))
      (pss_cons (ps_if (pt_not (pt_val (pc0 T.d__law_is_right G__law_is_right (hr.mono (by first | decide | exact Nat.le_refl _)) (pa_cons (pv 1) (pa_cons (pv 6) (pa_cons (pc0 T.d__law_draw G__law_draw (hr.mono (by first | decide | exact Nat.le_refl _)) (pa_cons (pv 1) (pa_cons pe_int pa_nil))) pa_nil)))))) (pss_one (ps_ret pe_bl)) pss_nil)
      (pss_cons (ps_set (i := 7) sc_law.nd rfl (Or.inr rfl) (pe_op op_add pe_int (pc0 T.d__law_draw G__law_draw (hr.mono (by first | decide | exact Nat.le_refl _)) (pa_cons (pv 1) (pa_cons pe_int pa_nil)))))
      (pss_cons (ps_set (i := 8) sc_law.nd rfl (Or.inl rfl) (pe_tupRg rfl (by rfl) (T.blt "tuple" (by decide)) (prg_1 (by rfl) (T.blt "range" (by decide)) (pe_op op_add (pv 7) pe_int))))
      (pss_cons (ps_set (i := 9) sc_law.nd rfl (Or.inl rfl) (pe_lst (pa_cons (pcN T.d_item_sums_number G_item_sums_number (hr.mono (by first | decide | exact Nat.le_refl _)) (pa_cons (pv 8) (pa_cons pe_int pa_nil))) (pa_cons (pcN T.d_reach G_reach (hr.mono (by first | decide | exact Nat.le_refl _)) (pa_cons (pv 8) (pa_cons pe_int pa_nil))) (pa_cons (pcN T.d_folded_sizes G_folded_sizes (hr.mono (by first | decide | exact Nat.le_refl _)) (pa_cons (pv 8) (pa_cons pe_int pa_nil))) pa_nil)))))
      (pss_one (ps_ret (pc0 T.d__law_is G__law_is (hr.mono (by first | decide | exact Nat.le_refl _)) (pa_cons (pv 9) (pa_cons (pe_lst (pa_cons (pe_op op_add (pe_op op_mul pe_int (pv 7)) pe_int) (pa_cons (pe_op op_mul pe_int (pv 7)) (pa_cons (pbt T.blt (call_tupK K) (by decide +kernel) (pa_cons (pe_lc (own := [("often", 10)]) (g := gName 10) (tt := tYes) rfl sc_law.nd (pi_range1 rfl (T.blt "range" (by decide)) (pa_cons pe_int pa_nil)) (blkOk_by (own := [("often", 10)]) (N := N_law) (sc := defScope s_law) (by decide +kernel)) (fun _ _ _ _ _ => pg_name (i := 10) sc_law.nd rfl (Or.inl rfl)) (fun _ _ _ _ _ => pts_nil) (fun _ _ _ _ _ => (pe_op op_add (pe_op op_mul (pv 10) (pv 7)) pe_int))) pa_nil)) pa_nil)))) pa_nil)))))))))))), ?_⟩)
  · obtain ⟨a, ns, rfl, _⟩ := h
    rfl
  refine fnLaw (i := 1) h (by decide) (by decide) fun F0 H0 h => ?_
  show SD _ _ [none, some (.adr h), none, none, none, none, none, none, none, none, none] [(Pt, .tab lamQ)] _ _ _ _
  refine sd_seq ?_
  refine sd_for (fun i ds' μ' => ∃ t it mo du, ds' = [none, some (.adr h), t, it, mo, du, none, none, none, none, none] ∧ μ' = [(Pt, OO.tab lamQ)]) ?_
  refine id_rng1 ?_
  walk_at "dd"
  refine ⟨_, rfl, by decide, by decide, ⟨none, none, none, none, rfl, rfl⟩, ?_, ?_⟩
  · rintro i y ds' μ' hy ⟨t, it, mo, du, rfl, rfl⟩
    clear hy
    walk_at "dd"
    refine ⟨(30, 4), h, rfl, rfl, ⟨by decide, by decide, by decide, by decide⟩, ?_⟩
    rintro _ ⟨items, rfl, g, hle⟩
    walk_at "dd"
    refine ⟨10, h, rfl, rfl, ⟨by decide, by decide⟩, ?_⟩
    rintro _ ⟨of, rfl, hof⟩
    walk_at "dd"
    refine ⟨(items, of), h, rfl, rfl, ⟨g, by show of ≤ 10; omega⟩, ?_⟩
    rintro _ rfl
    walk_at "v"
    refine ed_callT rfl (by simp) ?_
    walk_at "dd"
    refine ⟨h, rfl, rfl, fun q hq => ?_, ?_⟩
    · rw [List.mem_singleton] at hq
      subst hq
      exact List.mem_singleton.mpr rfl
    walk_at "v"
    refine ⟨8, h, rfl, rfl, ⟨by decide, by decide⟩, ?_⟩
    rintro _ ⟨k, rfl, hk⟩
    walk_at "dd"
    refine ed_map (gown_name 10) (fun y => nI (bitsOn (foldB items (toI y).toNat)).length) ?_
    refine id_rng1 ?_
    walk_at "dd"
    refine ⟨_, rfl, by omega, by omega, ?_⟩
    have ek : ((k : Int) + 1).toNat = k + 1 := by omega
    rw [ek]
    refine ⟨by rw [rangeD_len]; omega, fun i y hy => ?_, ?_⟩
    · have hi : i < k + 1 := by
        obtain ⟨q, _⟩ := List.getElem?_eq_some_iff.mp hy
        rwa [rangeD_len] at q
      rw [rangeD_get hi] at hy
      cases hy
      have e0 : (0 : Int) + (i : Int) = (i : Int) := by omega
      rw [e0]
      walk_at "dd"
      refine ⟨(items, i), rfl, ⟨⟨1000, g.le, by show 1000 * i < 90000; omega⟩, by show i ≤ 1000; omega⟩, ?_⟩
      rintro _ rfl
      walk_at "dd"
      refine ⟨?_, rfl⟩
      rw [List.length_map]
      rfl
    have eD : (rangeD 0 (k + 1)).map (fun y => nI (bitsOn (foldB items (toI y).toNat)).length) = (sizesN items (k + 1)).map nI := by
      unfold rangeD sizesN
      rw [List.map_map, List.map_map]
      refine List.map_congr_left fun j _ => ?_
      show nI (bitsOn (foldB items ((0 : Int) + (j : Int)).toNat)).length = nI (bitsOn (foldB items j)).length
      have e0 : ((0 : Int) + (j : Int)).toNat = j := by omega
      rw [e0]
    rw [eD]
    walk_at "dd"
    have gl := good_len g
    refine ⟨(tupN items, nI k), rfl, ⟨⟨domI_tup items (by omega), rfl⟩, small_of g (by omega)⟩, no_exc g (by omega), ?_⟩
    rintro _ ⟨its, n, e, _, _, rfl⟩
    obtain ⟨rfl, rfl⟩ := pair_inj e
    walk_at "dd"
    refine ⟨tupN (sizesN items (k + 1)), rfl, plain_tup _ (by unfold sizesN; rw [List.length_map, List.length_range]; omega) 2, ?_⟩
    rintro _ rfl
    walk_at "v"
    exact ⟨_, _, _, _, rfl, rfl⟩
  · rintro ds' μ' ⟨t, it, mo, du, rfl, rfl⟩
    walk_at "dd"
    refine ⟨(1000, 3), h, rfl, rfl, ⟨by decide, by decide, by decide, by decide⟩, ?_⟩
    rintro _ ⟨items, rfl, g, hle⟩
    walk_at "dd"
    refine ⟨4, h, rfl, rfl, ⟨by decide, by decide⟩, ?_⟩
    rintro _ ⟨of, rfl, hof⟩
    walk_at "dd"
    refine ⟨(items, of), h, rfl, rfl, ⟨g, by show of ≤ 10; omega⟩, ?_⟩
    rintro _ rfl
    walk_at "v"
    refine ⟨5, h, rfl, rfl, ⟨by decide, by decide⟩, ?_⟩
    rintro _ ⟨j, rfl, hj⟩
    walk_at "dd"
    have es : D.int (1 + (j : Int)) = nI (j + 1) := by
      show D.int (1 + (j : Int)) = D.int ((j + 1 : Nat) : Int)
      congr 1
      omega
    rw [es]
    have g1 : 1 ≤ j + 1 := by omega
    have g2 : j + 1 ≤ 5 := by omega
    generalize j + 1 = s at g1 g2
    clear hj es
    have gr := good_range g1 g2
    refine ed_tupRg1 ?_
    walk_at "dd"
    refine ⟨by omega, by omega, ?_⟩
    have er : D.tup (rangeD 0 ((s : Int) + 1).toNat) = tupN (List.range (s + 1)) := by
      have e1 : ((s : Int) + 1).toNat = s + 1 := by omega
      rw [e1]
      show D.tup _ = D.tup _
      congr 1
      unfold rangeD
      refine List.map_congr_left fun i _ => ?_
      show D.int ((0 : Int) + (i : Int)) = D.int (i : Int)
      rw [Int.zero_add]
    rw [er]
    have ll : (List.range (s + 1)).length ≤ 100000 := by rw [List.length_range]; omega
    walk_at "dd"
    refine ⟨(tupN (List.range (s + 1)), nI 200), rfl, ⟨⟨domI_tup _ ll, rfl⟩, fun its n e1 e2 _ _ => ?_⟩, no_exc gr (by decide), ?_⟩
    · have e1' := tupN_inj e1
      have e2' : 200 = n := Int.ofNat.inj (D.int.inj e2)
      subst e1' e2'
      exact ⟨5, fun i hi => by have := List.mem_range.mp hi; omega, by decide⟩
    rintro _ ⟨its, n, e, _, _, rfl⟩
    obtain ⟨rfl, rfl⟩ := pair_inj e
    rw [bits_range, List.length_range]
    walk_at "dd"
    refine ⟨(tupN (List.range (s + 1)), nI 200), rfl, ⟨domI_tup _ ll, rfl⟩, no_exc gr (by decide), ?_⟩
    rintro _ ⟨its, n, e, _, _, hrr⟩
    obtain ⟨rfl, rfl⟩ := pair_inj e
    obtain rfl := reach_range hrr
    walk_at "dd"
    refine ⟨(tupN (List.range (s + 1)), nI 3), rfl, ⟨⟨domI_tup _ ll, rfl⟩, small_of gr (by decide)⟩, no_exc gr (by decide), ?_⟩
    rintro _ ⟨its, n, e, _, _, rfl⟩
    obtain ⟨rfl, rfl⟩ := pair_inj e
    walk_at "dd"
    refine ed_map (gown_name 10) (fun y => nI ((toI y).toNat * s + 1)) ?_
    refine id_rng1 ?_
    walk_at "dd"
    refine ⟨_, rfl, by decide, by decide, ?_⟩
    refine ⟨by rw [rangeD_len]; decide, fun i y hy => ?_, ?_⟩
    · have hi : i < 4 := by
        obtain ⟨q, _⟩ := List.getElem?_eq_some_iff.mp hy
        rw [rangeD_len] at q
        exact q
      rw [show (4 : Int).toNat = 4 from rfl, rangeD_get hi] at hy
      cases hy
      have e0 : (0 : Int) + (i : Int) = (i : Int) := by omega
      rw [e0]
      walk_at "dd"
      refine rd_mulL ⟨by omega, by omega⟩ ?_
      walk_at "dd"
      refine ⟨?_, rfl⟩
      show D.int ((i : Int) * (s : Int) + 1) = D.int (((i : Int).toNat * s + 1 : Nat) : Int)
      rw [Int.toNat_natCast]
      congr 1
    have eD : (rangeD 0 (4 : Int).toNat).map (fun y => nI ((toI y).toNat * s + 1)) = (sizesN (List.range (s + 1)) (3 + 1)).map nI := by
      unfold rangeD sizesN
      rw [List.map_map, List.map_map]
      refine List.map_congr_left fun j _ => ?_
      show nI (((0 : Int) + (j : Int)).toNat * s + 1) = nI (bitsOn (foldB (List.range (s + 1)) j)).length
      have e0 : ((0 : Int) + (j : Int)).toNat = j := by omega
      rw [e0, bits_range, List.length_range]
    rw [eD]
    walk_at "dd"
    have ea : D.int (200 * (s : Int) + 1) = nI (200 * s + 1) := by
      show D.int _ = D.int ((200 * s + 1 : Nat) : Int)
      congr 1
    have eb : D.int (200 * (s : Int)) = nI (200 * s) := by
      show D.int _ = D.int ((200 * s : Nat) : Int)
      congr 1
    rw [ea, eb]
    refine ⟨.lst [nI (200 * s + 1), nI (200 * s), tupN (sizesN (List.range (s + 1)) (3 + 1))], rfl, plain_lst (Nat.le_of_ble_eq_true rfl) fun y hy => ?_, fun d hd => hd⟩
    rcases List.mem_cons.mp hy with rfl | hy
    · exact plain_nat _ 2
    rcases List.mem_cons.mp hy with rfl | hy
    · exact plain_nat _ 2
    rw [List.mem_singleton] at hy
    subst hy
    exact plain_tup _ (by unfold sizesN; rw [List.length_map, List.length_range]; decide) 1
end
end Pf
set_option Elab.async false
set_option linter.all false
set_option maxRecDepth 100000
set_option maxHeartbeats 4000000
namespace Pf
open PySem PySem.Spec PyProof.Rows L2 RZ DL
theorem walk_T {l : PySem.W.OpenLaw} {n k : Nat} {q : Program} {loose : List Str} {XP : (Str → Option Value) → Heap → Prop} {YP : World → Heap → Prop} {d : DefRec} {K : Params → PySem.W.Frag} {CX : World → CXT} {x : Str}
    (hn : l.most = some n) (hn2 : n ≤ sizeLine) (hdf : d.params.defaults = []) (hr : Room k callerA) (hY : ∀ (w : World) (h : Heap), YP w h → (K w.params).In h)
    (F : ∀ (w : World) (s₀ : Shared) (mg mb : Str → Option Value) (fa : Addr) (h : Heap), PySem.W.Ground q loose [] XP w s₀ mg mb h → (K w.params).In h → mg d.name = some (.ref fa) → LamX.LawAtS l w (K w.params) (CX w) k n x mg fa h)
    (hCX : ∀ (w : World) (H : Hp) (s : Shared) (e : Value) (s' : Shared), CX w [] H s (fun _ _ _ => False) e s' → False) :
    PySem.W.WalkO q loose XP YP l.row.toRowW d [] (fun f vs => PySem.call f vs) := by
  refine Att.attach_callB hn hdf fun w s₀ s₁ mg mb fa o pm cd doc a vs ns G Y ho hd hcd hmg hobj hints hlen hbits hg => ?_
  have KX := hY w _ Y
  obtain ⟨fd, cs, sp, hT, nT, C, hb, hsp, hF⟩ := F w s₀ mg mb fa _ G KX hmg
  exact LamX.law_callTs KX G.T.g G.T.b G.T.builtins G.T.nolimit hg hT nT C G.T.bmain hobj hints (Nat.le_trans hlen hn2) hr hF hb (fun H hH hS => hsp H a ns hlen hbits hH hS) fun H e s' => hCX w H s₁ e s'
theorem all_mk {l : PySem.W.OpenLaw} {w : World} {K : PySem.W.Frag} {h : Heap} {mg mb : Str → Option Value} {fa : Addr} {p : Program} {loose : List Str} {XP : (Str → Option Value) → Heap → Prop} {s₀ : Shared} (X : K.In h) (GR : PySem.W.Ground p loose [] XP w s₀ mg mb h) (hfa : mg "law" = some (.ref fa))
    {C6 : Addr} {C7 : Addr} {C8 : Addr} {C9 : Addr} {C10 : Addr} {C11 : Addr} {C12 : Addr} {fi12 : Addr} {oc12 kV12 dc12 pm12 cd12 ct12 : Value} {od12 an12 : Option Addr} {sl12 : Array (Option Value)} {nm12 q12 : Str} {Nx12 : Addr} {bs12 bm12 sub12 : List Value} {sn12 : List Str} {ab12 : Bool} {col12 : Option Bool} {dd12 : Option Addr} {m012 m112 m212 m312 m512 : Option Value} {C13 : Addr} {fi13 : Addr} {oc13 kV13 dc13 pm13 cd13 ct13 : Value} {od13 an13 : Option Addr} {sl13 : Array (Option Value)} {nm13 q13 : Str} {Nx13 : Addr} {bs13 bm13 sub13 : List Value} {sn13 : List Str} {ab13 : Bool} {col13 : Option Bool} {dd13 : Option Addr} {m013 m113 m213 m313 m513 : Option Value} {tk15 : Tok} {tk16 : Tok} {f1 : Addr} {oc1 kV1 dc1 pm1 cd1 ct1 : Value} {od1 an1 : Option Addr} {sl1 : Array (Option Value)} {f2 : Addr} {oc2 kV2 dc2 pm2 cd2 ct2 : Value} {od2 an2 : Option Addr} {sl2 : Array (Option Value)} {f3 : Addr} {oc3 kV3 dc3 pm3 cd3 ct3 : Value} {od3 an3 : Option Addr} {sl3 : Array (Option Value)} {f4 : Addr} {oc4 kV4 dc4 pm4 cd4 ct4 : Value} {od4 an4 : Option Addr} {sl4 : Array (Option Value)} {f17 : Addr} {oc17 kV17 dc17 pm17 cd17 ct17 : Value} {od17 an17 : Option Addr} {sl17 : Array (Option Value)} {f18 : Addr} {oc18 kV18 dc18 pm18 cd18 ct18 : Value} {od18 an18 : Option Addr} {sl18 : Array (Option Value)} {f19 : Addr} {oc19 kV19 dc19 pm19 cd19 ct19 : Value} {od19 an19 : Option Addr} {sl19 : Array (Option Value)} {f20 : Addr} {oc20 kV20 dc20 pm20 cd20 ct20 : Value} {od20 an20 : Option Addr} {sl20 : Array (Option Value)} {f21 : Addr} {oc21 kV21 dc21 pm21 cd21 ct21 : Value} {od21 an21 : Option Addr} {sl21 : Array (Option Value)} {f22 : Addr} {oc22 kV22 dc22 pm22 cd22 ct22 : Value} {od22 an22 : Option Addr} {sl22 : Array (Option Value)} {f23 : Addr} {oc23 kV23 dc23 pm23 cd23 ct23 : Value} {od23 an23 : Option Addr} {sl23 : Array (Option Value)} {f24 : Addr} {oc24 kV24 dc24 pm24 cd24 ct24 : Value} {od24 an24 : Option Addr} {sl24 : Array (Option Value)} {f25 : Addr} {oc25 kV25 dc25 pm25 cd25 ct25 : Value} {od25 an25 : Option Addr} {sl25 : Array (Option Value)} {f26 : Addr} {oc26 kV26 dc26 pm26 cd26 ct26 : Value} {od26 an26 : Option Addr} {sl26 : Array (Option Value)} {f27 : Addr} {oc27 kV27 dc27 pm27 cd27 ct27 : Value} {od27 an27 : Option Addr} {sl27 : Array (Option Value)} {f28 : Addr} {oc28 kV28 dc28 pm28 cd28 ct28 : Value} {od28 an28 : Option Addr} {sl28 : Array (Option Value)} {f30 : Addr} {oc30 kV30 dc30 pm30 cd30 ct30 : Value} {od30 an30 : Option Addr} {sl30 : Array (Option Value)} {f31 : Addr} {oc31 kV31 dc31 pm31 cd31 ct31 : Value} {od31 an31 : Option Addr} {sl31 : Array (Option Value)} {f32 : Addr} {oc32 kV32 dc32 pm32 cd32 ct32 : Value} {od32 an32 : Option Addr} {sl32 : Array (Option Value)} {f33 : Addr} {oc33 kV33 dc33 pm33 cd33 ct33 : Value} {od33 an33 : Option Addr} {sl33 : Array (Option Value)} {f34 : Addr} {oc34 kV34 dc34 pm34 cd34 ct34 : Value} {od34 an34 : Option Addr} {sl34 : Array (Option Value)} {f35 : Addr} {oc35 kV35 dc35 pm35 cd35 ct35 : Value} {od35 an35 : Option Addr} {sl35 : Array (Option Value)} {f36 : Addr} {oc36 kV36 dc36 pm36 cd36 ct36 : Value} {od36 an36 : Option Addr} {sl36 : Array (Option Value)} {f37 : Addr} {oc37 kV37 dc37 pm37 cd37 ct37 : Value} {od37 an37 : Option Addr} {sl37 : Array (Option Value)} {f38 : Addr} {oc38 kV38 dc38 pm38 cd38 ct38 : Value} {od38 an38 : Option Addr} {sl38 : Array (Option Value)} {f39 : Addr} {oc39 kV39 dc39 pm39 ct39 : Value} {od39 an39 : Option Addr} {sl39 : Array (Option Value)} {cc39 : Addr} {f40 : Addr} {oc40 kV40 dc40 pm40 cd40 ct40 : Value} {od40 an40 : Option Addr} {sl40 : Array (Option Value)} {P39 : Addr} {tcl39 : Value} {tod39 : Option Addr} {tvs39 : Array Value} {tsl39 : Array (Option Value)} {dR39 : DefRec}
    (g6 : PySem.W.nsIn K mainGlobals "CoinError" = some (some (.ref C6)))
    (kc6 : PySem.W.keepIn K (.ref C6) = true)
    (sb6 : PySem.W.subIn K (.ref C6) (.type "BaseException") = some true)
    (ty6 : PySem.W.typeIn K (.ref C6) = some (.type "type"))
    (ex6 : PySem.W.excIn K C6 veBases "ValueError.__new__" = true)
    (g7 : PySem.W.nsIn K mainGlobals "BadNumber" = some (some (.ref C7)))
    (kc7 : PySem.W.keepIn K (.ref C7) = true)
    (sb7 : PySem.W.subIn K (.ref C7) (.type "BaseException") = some true)
    (ty7 : PySem.W.typeIn K (.ref C7) = some (.type "type"))
    (ex7 : PySem.W.excIn K C7 veBases "ValueError.__new__" = true)
    (g8 : PySem.W.nsIn K mainGlobals "BadPurse" = some (some (.ref C8)))
    (kc8 : PySem.W.keepIn K (.ref C8) = true)
    (sb8 : PySem.W.subIn K (.ref C8) (.type "BaseException") = some true)
    (ty8 : PySem.W.typeIn K (.ref C8) = some (.type "type"))
    (ex8 : PySem.W.excIn K C8 veBases "ValueError.__new__" = true)
    (g9 : PySem.W.nsIn K mainGlobals "BadSpan" = some (some (.ref C9)))
    (kc9 : PySem.W.keepIn K (.ref C9) = true)
    (sb9 : PySem.W.subIn K (.ref C9) (.type "BaseException") = some true)
    (ty9 : PySem.W.typeIn K (.ref C9) = some (.type "type"))
    (ex9 : PySem.W.excIn K C9 veBases "ValueError.__new__" = true)
    (g10 : PySem.W.nsIn K mainGlobals "NoSystem" = some (some (.ref C10)))
    (kc10 : PySem.W.keepIn K (.ref C10) = true)
    (sb10 : PySem.W.subIn K (.ref C10) (.type "BaseException") = some true)
    (ty10 : PySem.W.typeIn K (.ref C10) = some (.type "type"))
    (ex10 : PySem.W.excIn K C10 veBases "ValueError.__new__" = true)
    (g11 : PySem.W.nsIn K mainGlobals "NotPayable" = some (some (.ref C11)))
    (kc11 : PySem.W.keepIn K (.ref C11) = true)
    (sb11 : PySem.W.subIn K (.ref C11) (.type "BaseException") = some true)
    (ty11 : PySem.W.typeIn K (.ref C11) = some (.type "type"))
    (ex11 : PySem.W.excIn K C11 veBases "ValueError.__new__" = true)
    (g12 : PySem.W.nsIn K mainGlobals "BadCoins" = some (some (.ref C12)))
    (kc12 : PySem.W.keepIn K (.ref C12) = true)
    (sb12 : PySem.W.subIn K (.ref C12) (.type "BaseException") = some true)
    (ty12 : PySem.W.typeIn K (.ref C12) = some (.type "type"))
    (xL12 : K.lookup C12 = some (excClassObj nm12 q12 C12 Nx12 bs12 bm12 true sn12 sub12 ab12 col12 dd12 m012 m112 m212 m312 m512 "ValueError.__new__"))
    (rf12 : PySem.HandSPX.refsVE bm12 = true)
    (sa12 : PySem.W.findIn K (.ref C12) "__setattr__" = some (some (.builtin "object.__setattr__")))
    (ii12 : PySem.W.findIn K (.ref C12) "__init__" = some (some (.ref fi12)))
    (ti12 : PySem.W.typeIn K (.ref fi12) = some (.type "function"))
    (no12 : PySem.W.findIn K (.ref C12) "at" = some none)
    (li12 : K.lookup fi12 = some ⟨oc12, od12, .func (PySem.W.fnOf "__init__" "BadCoins.__init__" (defArgs (inClass (topS 12) 0)) (defBody (inClass (topS 12) 0)) (defScope (inClass (topS 12) 0)) .none kV12 dc12 pm12 an12 cd12 ct12), sl12⟩)
    (ci12 : PySem.W.codeIn K cd12 "BadCoins.__init__" = true)
    (ki12 : PySem.W.keepIn K (.ref fi12) = true)
    (g13 : PySem.W.nsIn K mainGlobals "TooMany" = some (some (.ref C13)))
    (kc13 : PySem.W.keepIn K (.ref C13) = true)
    (sb13 : PySem.W.subIn K (.ref C13) (.type "BaseException") = some true)
    (ty13 : PySem.W.typeIn K (.ref C13) = some (.type "type"))
    (xL13 : K.lookup C13 = some (excClassObj nm13 q13 C13 Nx13 bs13 bm13 true sn13 sub13 ab13 col13 dd13 m013 m113 m213 m313 m513 "ValueError.__new__"))
    (rf13 : PySem.HandSPX.refsVE bm13 = true)
    (sa13 : PySem.W.findIn K (.ref C13) "__setattr__" = some (some (.builtin "object.__setattr__")))
    (ii13 : PySem.W.findIn K (.ref C13) "__init__" = some (some (.ref fi13)))
    (ti13 : PySem.W.typeIn K (.ref fi13) = some (.type "function"))
    (no13 : PySem.W.findIn K (.ref C13) "most" = some none)
    (li13 : K.lookup fi13 = some ⟨oc13, od13, .func (PySem.W.fnOf "__init__" "TooMany.__init__" (defArgs (inClass (topS 13) 0)) (defBody (inClass (topS 13) 0)) (defScope (inClass (topS 13) 0)) .none kV13 dc13 pm13 an13 cd13 ct13), sl13⟩)
    (ci13 : PySem.W.codeIn K cd13 "TooMany.__init__" = true)
    (ki13 : PySem.W.keepIn K (.ref fi13) = true)
    (wn : PySem.W.specialIn K (.builtin "object.__class__") "__get__" = some (some (.builtin "getset_descriptor.__get__")))
    (wt : PySem.W.takesIn K (.builtin "object.__class__") = some true)
    (wd6 : PySem.W.hasDictIn K C6 = true)
    (xc7 : PySem.W.isClsIn K C7 = true)
    (xg7 : PySem.W.findIn K (.ref C7) "__getattribute__" = some (some (.builtin "BaseException.__getattribute__")))
    (xk7 : PySem.W.findIn K (.ref C7) "__getattr__" = some none)
    (xa7 : PySem.W.findIn K (.ref C7) "__class__" = some (some (.builtin "object.__class__")))
    (xm7 : PySem.W.mroIn K C7 (.type "object") = some true)
    (xv7 : PySem.W.kitOne K (.ref C7) (.type "ValueError") = some true)
    (xs7 : PySem.W.subIn K (.ref C7) (.ref C6) = some true)
    (xx7_7 : PySem.W.kitOne K (.ref C7) (.ref C7) = some true)
    (xx7_8 : PySem.W.kitOne K (.ref C7) (.ref C8) = some false)
    (xx7_9 : PySem.W.kitOne K (.ref C7) (.ref C9) = some false)
    (xx7_10 : PySem.W.kitOne K (.ref C7) (.ref C10) = some false)
    (xx7_11 : PySem.W.kitOne K (.ref C7) (.ref C11) = some false)
    (xx7_12 : PySem.W.kitOne K (.ref C7) (.ref C12) = some false)
    (xx7_13 : PySem.W.kitOne K (.ref C7) (.ref C13) = some false)
    (xc8 : PySem.W.isClsIn K C8 = true)
    (xg8 : PySem.W.findIn K (.ref C8) "__getattribute__" = some (some (.builtin "BaseException.__getattribute__")))
    (xk8 : PySem.W.findIn K (.ref C8) "__getattr__" = some none)
    (xa8 : PySem.W.findIn K (.ref C8) "__class__" = some (some (.builtin "object.__class__")))
    (xm8 : PySem.W.mroIn K C8 (.type "object") = some true)
    (xv8 : PySem.W.kitOne K (.ref C8) (.type "ValueError") = some true)
    (xs8 : PySem.W.subIn K (.ref C8) (.ref C6) = some true)
    (xx8_7 : PySem.W.kitOne K (.ref C8) (.ref C7) = some false)
    (xx8_8 : PySem.W.kitOne K (.ref C8) (.ref C8) = some true)
    (xx8_9 : PySem.W.kitOne K (.ref C8) (.ref C9) = some false)
    (xx8_10 : PySem.W.kitOne K (.ref C8) (.ref C10) = some false)
    (xx8_11 : PySem.W.kitOne K (.ref C8) (.ref C11) = some false)
    (xx8_12 : PySem.W.kitOne K (.ref C8) (.ref C12) = some false)
    (xx8_13 : PySem.W.kitOne K (.ref C8) (.ref C13) = some false)
    (xc9 : PySem.W.isClsIn K C9 = true)
    (xg9 : PySem.W.findIn K (.ref C9) "__getattribute__" = some (some (.builtin "BaseException.__getattribute__")))
    (xk9 : PySem.W.findIn K (.ref C9) "__getattr__" = some none)
    (xa9 : PySem.W.findIn K (.ref C9) "__class__" = some (some (.builtin "object.__class__")))
    (xm9 : PySem.W.mroIn K C9 (.type "object") = some true)
    (xv9 : PySem.W.kitOne K (.ref C9) (.type "ValueError") = some true)
    (xs9 : PySem.W.subIn K (.ref C9) (.ref C6) = some true)
    (xx9_7 : PySem.W.kitOne K (.ref C9) (.ref C7) = some false)
    (xx9_8 : PySem.W.kitOne K (.ref C9) (.ref C8) = some false)
    (xx9_9 : PySem.W.kitOne K (.ref C9) (.ref C9) = some true)
    (xx9_10 : PySem.W.kitOne K (.ref C9) (.ref C10) = some false)
    (xx9_11 : PySem.W.kitOne K (.ref C9) (.ref C11) = some false)
    (xx9_12 : PySem.W.kitOne K (.ref C9) (.ref C12) = some false)
    (xx9_13 : PySem.W.kitOne K (.ref C9) (.ref C13) = some false)
    (xc10 : PySem.W.isClsIn K C10 = true)
    (xg10 : PySem.W.findIn K (.ref C10) "__getattribute__" = some (some (.builtin "BaseException.__getattribute__")))
    (xk10 : PySem.W.findIn K (.ref C10) "__getattr__" = some none)
    (xa10 : PySem.W.findIn K (.ref C10) "__class__" = some (some (.builtin "object.__class__")))
    (xm10 : PySem.W.mroIn K C10 (.type "object") = some true)
    (xv10 : PySem.W.kitOne K (.ref C10) (.type "ValueError") = some true)
    (xs10 : PySem.W.subIn K (.ref C10) (.ref C6) = some true)
    (xx10_7 : PySem.W.kitOne K (.ref C10) (.ref C7) = some false)
    (xx10_8 : PySem.W.kitOne K (.ref C10) (.ref C8) = some false)
    (xx10_9 : PySem.W.kitOne K (.ref C10) (.ref C9) = some false)
    (xx10_10 : PySem.W.kitOne K (.ref C10) (.ref C10) = some true)
    (xx10_11 : PySem.W.kitOne K (.ref C10) (.ref C11) = some false)
    (xx10_12 : PySem.W.kitOne K (.ref C10) (.ref C12) = some false)
    (xx10_13 : PySem.W.kitOne K (.ref C10) (.ref C13) = some false)
    (xc11 : PySem.W.isClsIn K C11 = true)
    (xg11 : PySem.W.findIn K (.ref C11) "__getattribute__" = some (some (.builtin "BaseException.__getattribute__")))
    (xk11 : PySem.W.findIn K (.ref C11) "__getattr__" = some none)
    (xa11 : PySem.W.findIn K (.ref C11) "__class__" = some (some (.builtin "object.__class__")))
    (xm11 : PySem.W.mroIn K C11 (.type "object") = some true)
    (xv11 : PySem.W.kitOne K (.ref C11) (.type "ValueError") = some true)
    (xs11 : PySem.W.subIn K (.ref C11) (.ref C6) = some true)
    (xx11_7 : PySem.W.kitOne K (.ref C11) (.ref C7) = some false)
    (xx11_8 : PySem.W.kitOne K (.ref C11) (.ref C8) = some false)
    (xx11_9 : PySem.W.kitOne K (.ref C11) (.ref C9) = some false)
    (xx11_10 : PySem.W.kitOne K (.ref C11) (.ref C10) = some false)
    (xx11_11 : PySem.W.kitOne K (.ref C11) (.ref C11) = some true)
    (xx11_12 : PySem.W.kitOne K (.ref C11) (.ref C12) = some false)
    (xx11_13 : PySem.W.kitOne K (.ref C11) (.ref C13) = some false)
    (xc12 : PySem.W.isClsIn K C12 = true)
    (xg12 : PySem.W.findIn K (.ref C12) "__getattribute__" = some (some (.builtin "BaseException.__getattribute__")))
    (xk12 : PySem.W.findIn K (.ref C12) "__getattr__" = some none)
    (xa12 : PySem.W.findIn K (.ref C12) "__class__" = some (some (.builtin "object.__class__")))
    (xm12 : PySem.W.mroIn K C12 (.type "object") = some true)
    (xv12 : PySem.W.kitOne K (.ref C12) (.type "ValueError") = some true)
    (xs12 : PySem.W.subIn K (.ref C12) (.ref C6) = some true)
    (xh12 : PySem.W.hasDictIn K C12 = true)
    (xx12_7 : PySem.W.kitOne K (.ref C12) (.ref C7) = some false)
    (xx12_8 : PySem.W.kitOne K (.ref C12) (.ref C8) = some false)
    (xx12_9 : PySem.W.kitOne K (.ref C12) (.ref C9) = some false)
    (xx12_10 : PySem.W.kitOne K (.ref C12) (.ref C10) = some false)
    (xx12_11 : PySem.W.kitOne K (.ref C12) (.ref C11) = some false)
    (xx12_12 : PySem.W.kitOne K (.ref C12) (.ref C12) = some true)
    (xx12_13 : PySem.W.kitOne K (.ref C12) (.ref C13) = some false)
    (xc13 : PySem.W.isClsIn K C13 = true)
    (xg13 : PySem.W.findIn K (.ref C13) "__getattribute__" = some (some (.builtin "BaseException.__getattribute__")))
    (xk13 : PySem.W.findIn K (.ref C13) "__getattr__" = some none)
    (xa13 : PySem.W.findIn K (.ref C13) "__class__" = some (some (.builtin "object.__class__")))
    (xm13 : PySem.W.mroIn K C13 (.type "object") = some true)
    (xv13 : PySem.W.kitOne K (.ref C13) (.type "ValueError") = some true)
    (xs13 : PySem.W.subIn K (.ref C13) (.ref C6) = some true)
    (xh13 : PySem.W.hasDictIn K C13 = true)
    (xx13_7 : PySem.W.kitOne K (.ref C13) (.ref C7) = some false)
    (xx13_8 : PySem.W.kitOne K (.ref C13) (.ref C8) = some false)
    (xx13_9 : PySem.W.kitOne K (.ref C13) (.ref C9) = some false)
    (xx13_10 : PySem.W.kitOne K (.ref C13) (.ref C10) = some false)
    (xx13_11 : PySem.W.kitOne K (.ref C13) (.ref C11) = some false)
    (xx13_12 : PySem.W.kitOne K (.ref C13) (.ref C12) = some false)
    (xx13_13 : PySem.W.kitOne K (.ref C13) (.ref C13) = some true)
    (cn15 : PySem.W.nsIn K mainGlobals "MOST_FOLD" = some (some (.int 200 tk15)))
    (cn16 : PySem.W.nsIn K mainGlobals "MOST_ITEM" = some (some (.int 1000 tk16)))
    (a1 : PySem.W.nsIn K mainGlobals "is_integer" = some (some (.ref f1)))
    (l1 : K.lookup f1 = some ⟨oc1, od1, .func (PySem.W.fnOf "is_integer" "is_integer" (defArgs s_is_integer) (defBody s_is_integer) (defScope s_is_integer) .none kV1 dc1 pm1 an1 cd1 ct1), sl1⟩)
    (c1 : PySem.W.codeIn K cd1 "is_integer" = true)
    (k1 : PySem.W.keepIn K (.ref f1) = true)
    (a2 : PySem.W.nsIn K mainGlobals "is_within" = some (some (.ref f2)))
    (l2 : K.lookup f2 = some ⟨oc2, od2, .func (PySem.W.fnOf "is_within" "is_within" (defArgs s_is_within) (defBody s_is_within) (defScope s_is_within) .none kV2 dc2 pm2 an2 cd2 ct2), sl2⟩)
    (c2 : PySem.W.codeIn K cd2 "is_within" = true)
    (k2 : PySem.W.keepIn K (.ref f2) = true)
    (a3 : PySem.W.nsIn K mainGlobals "are_integers" = some (some (.ref f3)))
    (l3 : K.lookup f3 = some ⟨oc3, od3, .func (PySem.W.fnOf "are_integers" "are_integers" (defArgs s_are_integers) (defBody s_are_integers) (defScope s_are_integers) .none kV3 dc3 pm3 an3 cd3 ct3), sl3⟩)
    (c3 : PySem.W.codeIn K cd3 "are_integers" = true)
    (k3 : PySem.W.keepIn K (.ref f3) = true)
    (a4 : PySem.W.nsIn K mainGlobals "is_rising" = some (some (.ref f4)))
    (l4 : K.lookup f4 = some ⟨oc4, od4, .func (PySem.W.fnOf "is_rising" "is_rising" (defArgs s_is_rising) (defBody s_is_rising) (defScope s_is_rising) .none kV4 dc4 pm4 an4 cd4 ct4), sl4⟩)
    (c4 : PySem.W.codeIn K cd4 "is_rising" = true)
    (k4 : PySem.W.keepIn K (.ref f4) = true)
    (a17 : PySem.W.nsIn K mainGlobals "check_items" = some (some (.ref f17)))
    (l17 : K.lookup f17 = some ⟨oc17, od17, .func (PySem.W.fnOf "check_items" "check_items" (defArgs s_check_items) (defBody s_check_items) (defScope s_check_items) .none kV17 dc17 pm17 an17 cd17 ct17), sl17⟩)
    (c17 : PySem.W.codeIn K cd17 "check_items" = true)
    (k17 : PySem.W.keepIn K (.ref f17) = true)
    (a18 : PySem.W.nsIn K mainGlobals "fold_bits" = some (some (.ref f18)))
    (l18 : K.lookup f18 = some ⟨oc18, od18, .func (PySem.W.fnOf "fold_bits" "fold_bits" (defArgs s_fold_bits) (defBody s_fold_bits) (defScope s_fold_bits) .none kV18 dc18 pm18 an18 cd18 ct18), sl18⟩)
    (c18 : PySem.W.codeIn K cd18 "fold_bits" = true)
    (k18 : PySem.W.keepIn K (.ref f18) = true)
    (a19 : PySem.W.nsIn K mainGlobals "check_fold" = some (some (.ref f19)))
    (l19 : K.lookup f19 = some ⟨oc19, od19, .func (PySem.W.fnOf "check_fold" "check_fold" (defArgs s_check_fold) (defBody s_check_fold) (defScope s_check_fold) .none kV19 dc19 pm19 an19 cd19 ct19), sl19⟩)
    (c19 : PySem.W.codeIn K cd19 "check_fold" = true)
    (k19 : PySem.W.keepIn K (.ref f19) = true)
    (a20 : PySem.W.nsIn K mainGlobals "bits_on" = some (some (.ref f20)))
    (l20 : K.lookup f20 = some ⟨oc20, od20, .func (PySem.W.fnOf "bits_on" "bits_on" (defArgs s_bits_on) (defBody s_bits_on) (defScope s_bits_on) .none kV20 dc20 pm20 an20 cd20 ct20), sl20⟩)
    (c20 : PySem.W.codeIn K cd20 "bits_on" = true)
    (k20 : PySem.W.keepIn K (.ref f20) = true)
    (a21 : PySem.W.nsIn K mainGlobals "item_sums" = some (some (.ref f21)))
    (l21 : K.lookup f21 = some ⟨oc21, od21, .func (PySem.W.fnOf "item_sums" "item_sums" (defArgs s_item_sums) (defBody s_item_sums) (defScope s_item_sums) .none kV21 dc21 pm21 an21 cd21 ct21), sl21⟩)
    (c21 : PySem.W.codeIn K cd21 "item_sums" = true)
    (k21 : PySem.W.keepIn K (.ref f21) = true)
    (a22 : PySem.W.nsIn K mainGlobals "item_sums_number" = some (some (.ref f22)))
    (l22 : K.lookup f22 = some ⟨oc22, od22, .func (PySem.W.fnOf "item_sums_number" "item_sums_number" (defArgs s_item_sums_number) (defBody s_item_sums_number) (defScope s_item_sums_number) .none kV22 dc22 pm22 an22 cd22 ct22), sl22⟩)
    (c22 : PySem.W.codeIn K cd22 "item_sums_number" = true)
    (k22 : PySem.W.keepIn K (.ref f22) = true)
    (a23 : PySem.W.nsIn K mainGlobals "reach_of" = some (some (.ref f23)))
    (l23 : K.lookup f23 = some ⟨oc23, od23, .func (PySem.W.fnOf "reach_of" "reach_of" (defArgs s_reach_of) (defBody s_reach_of) (defScope s_reach_of) .none kV23 dc23 pm23 an23 cd23 ct23), sl23⟩)
    (c23 : PySem.W.codeIn K cd23 "reach_of" = true)
    (k23 : PySem.W.keepIn K (.ref f23) = true)
    (a24 : PySem.W.nsIn K mainGlobals "reach" = some (some (.ref f24)))
    (l24 : K.lookup f24 = some ⟨oc24, od24, .func (PySem.W.fnOf "reach" "reach" (defArgs s_reach) (defBody s_reach) (defScope s_reach) .none kV24 dc24 pm24 an24 cd24 ct24), sl24⟩)
    (c24 : PySem.W.codeIn K cd24 "reach" = true)
    (k24 : PySem.W.keepIn K (.ref f24) = true)
    (a25 : PySem.W.nsIn K mainGlobals "is_folded" = some (some (.ref f25)))
    (l25 : K.lookup f25 = some ⟨oc25, od25, .func (PySem.W.fnOf "is_folded" "is_folded" (defArgs s_is_folded) (defBody s_is_folded) (defScope s_is_folded) .none kV25 dc25 pm25 an25 cd25 ct25), sl25⟩)
    (c25 : PySem.W.codeIn K cd25 "is_folded" = true)
    (k25 : PySem.W.keepIn K (.ref f25) = true)
    (a26 : PySem.W.nsIn K mainGlobals "turned_items" = some (some (.ref f26)))
    (l26 : K.lookup f26 = some ⟨oc26, od26, .func (PySem.W.fnOf "turned_items" "turned_items" (defArgs s_turned_items) (defBody s_turned_items) (defScope s_turned_items) .none kV26 dc26 pm26 an26 cd26 ct26), sl26⟩)
    (c26 : PySem.W.codeIn K cd26 "turned_items" = true)
    (k26 : PySem.W.keepIn K (.ref f26) = true)
    (a27 : PySem.W.nsIn K mainGlobals "folded_sizes" = some (some (.ref f27)))
    (l27 : K.lookup f27 = some ⟨oc27, od27, .func (PySem.W.fnOf "folded_sizes" "folded_sizes" (defArgs s_folded_sizes) (defBody s_folded_sizes) (defScope s_folded_sizes) .none kV27 dc27 pm27 an27 cd27 ct27), sl27⟩)
    (c27 : PySem.W.codeIn K cd27 "folded_sizes" = true)
    (k27 : PySem.W.keepIn K (.ref f27) = true)
    (a28 : PySem.W.nsIn K mainGlobals "next_fold" = some (some (.ref f28)))
    (l28 : K.lookup f28 = some ⟨oc28, od28, .func (PySem.W.fnOf "next_fold" "next_fold" (defArgs s_next_fold) (defBody s_next_fold) (defScope s_next_fold) .none kV28 dc28 pm28 an28 cd28 ct28), sl28⟩)
    (c28 : PySem.W.codeIn K cd28 "next_fold" = true)
    (k28 : PySem.W.keepIn K (.ref f28) = true)
    (a30 : PySem.W.nsIn K mainGlobals "_law_hand" = some (some (.ref f30)))
    (l30 : K.lookup f30 = some ⟨oc30, od30, .func (PySem.W.fnOf "_law_hand" "_law_hand" (defArgs s__law_hand) (defBody s__law_hand) (defScope s__law_hand) .none kV30 dc30 pm30 an30 cd30 ct30), sl30⟩)
    (c30 : PySem.W.codeIn K cd30 "_law_hand" = true)
    (k30 : PySem.W.keepIn K (.ref f30) = true)
    (a31 : PySem.W.nsIn K mainGlobals "_law_draw" = some (some (.ref f31)))
    (l31 : K.lookup f31 = some ⟨oc31, od31, .func (PySem.W.fnOf "_law_draw" "_law_draw" (defArgs s__law_draw) (defBody s__law_draw) (defScope s__law_draw) .none kV31 dc31 pm31 an31 cd31 ct31), sl31⟩)
    (c31 : PySem.W.codeIn K cd31 "_law_draw" = true)
    (k31 : PySem.W.keepIn K (.ref f31) = true)
    (a32 : PySem.W.nsIn K mainGlobals "_law_any" = some (some (.ref f32)))
    (l32 : K.lookup f32 = some ⟨oc32, od32, .func (PySem.W.fnOf "_law_any" "_law_any" (defArgs s__law_any) (defBody s__law_any) (defScope s__law_any) .none kV32 dc32 pm32 an32 cd32 ct32), sl32⟩)
    (c32 : PySem.W.codeIn K cd32 "_law_any" = true)
    (k32 : PySem.W.keepIn K (.ref f32) = true)
    (a33 : PySem.W.nsIn K mainGlobals "_law_is" = some (some (.ref f33)))
    (l33 : K.lookup f33 = some ⟨oc33, od33, .func (PySem.W.fnOf "_law_is" "_law_is" (defArgs s__law_is) (defBody s__law_is) (defScope s__law_is) .none kV33 dc33 pm33 an33 cd33 ct33), sl33⟩)
    (c33 : PySem.W.codeIn K cd33 "_law_is" = true)
    (k33 : PySem.W.keepIn K (.ref f33) = true)
    (a34 : PySem.W.nsIn K mainGlobals "_law_word" = some (some (.ref f34)))
    (l34 : K.lookup f34 = some ⟨oc34, od34, .func (PySem.W.fnOf "_law_word" "_law_word" (defArgs s__law_word) (defBody s__law_word) (defScope s__law_word) .none kV34 dc34 pm34 an34 cd34 ct34), sl34⟩)
    (c34 : PySem.W.codeIn K cd34 "_law_word" = true)
    (k34 : PySem.W.keepIn K (.ref f34) = true)
    (a35 : PySem.W.nsIn K mainGlobals "_law_items" = some (some (.ref f35)))
    (l35 : K.lookup f35 = some ⟨oc35, od35, .func (PySem.W.fnOf "_law_items" "_law_items" (defArgs s__law_items) (defBody s__law_items) (defScope s__law_items) .none kV35 dc35 pm35 an35 cd35 ct35), sl35⟩)
    (c35 : PySem.W.codeIn K cd35 "_law_items" = true)
    (k35 : PySem.W.keepIn K (.ref f35) = true)
    (a36 : PySem.W.nsIn K mainGlobals "_law_sums" = some (some (.ref f36)))
    (l36 : K.lookup f36 = some ⟨oc36, od36, .func (PySem.W.fnOf "_law_sums" "_law_sums" (defArgs s__law_sums) (defBody s__law_sums) (defScope s__law_sums) .none kV36 dc36 pm36 an36 cd36 ct36), sl36⟩)
    (c36 : PySem.W.codeIn K cd36 "_law_sums" = true)
    (k36 : PySem.W.keepIn K (.ref f36) = true)
    (a37 : PySem.W.nsIn K mainGlobals "_law_no_items" = some (some (.ref f37)))
    (l37 : K.lookup f37 = some ⟨oc37, od37, .func (PySem.W.fnOf "_law_no_items" "_law_no_items" (defArgs s__law_no_items) (defBody s__law_no_items) (defScope s__law_no_items) .none kV37 dc37 pm37 an37 cd37 ct37), sl37⟩)
    (c37 : PySem.W.codeIn K cd37 "_law_no_items" = true)
    (k37 : PySem.W.keepIn K (.ref f37) = true)
    (a38 : PySem.W.nsIn K mainGlobals "_law_is_right" = some (some (.ref f38)))
    (l38 : K.lookup f38 = some ⟨oc38, od38, .func (PySem.W.fnOf "_law_is_right" "_law_is_right" (defArgs s__law_is_right) (defBody s__law_is_right) (defScope s__law_is_right) .none kV38 dc38 pm38 an38 cd38 ct38), sl38⟩)
    (c38 : PySem.W.codeIn K cd38 "_law_is_right" = true)
    (k38 : PySem.W.keepIn K (.ref f38) = true)
    (a39 : PySem.W.nsIn K mainGlobals "_law_are_refused_right" = some (some (.ref f39)))
    (l39 : K.lookup f39 = some ⟨oc39, od39, .func (PySem.W.fnOf "_law_are_refused_right" "_law_are_refused_right" (defArgs s__law_are_refused_right) (defBody s__law_are_refused_right) (defScope s__law_are_refused_right) .none kV39 dc39 pm39 an39 (.ref cc39) ct39), sl39⟩)
    (c39 : PySem.W.codeIn K (.ref cc39) "_law_are_refused_right" = true)
    (k39 : PySem.W.keepIn K (.ref f39) = true)
    (a40 : PySem.W.nsIn K mainGlobals "law" = some (some (.ref f40)))
    (l40 : K.lookup f40 = some ⟨oc40, od40, .func (PySem.W.fnOf "law" "law" (defArgs s_law) (defBody s_law) (defScope s_law) .none kV40 dc40 pm40 an40 cd40 ct40), sl40⟩)
    (c40 : PySem.W.codeIn K cd40 "law" = true)
    (k40 : PySem.W.keepIn K (.ref f40) = true)
    (z0 : PySem.W.nsIn K mainGlobals "len" = some none)
    (z1 : PySem.W.nsIn K mainGlobals "range" = some none)
    (z2 : PySem.W.nsIn K mainGlobals "int" = some none)
    (z3 : PySem.W.nsIn K mainGlobals "tuple" = some none)
    (z4 : PySem.W.nsIn K mainGlobals "list" = some none)
    (z5 : PySem.W.nsIn K mainGlobals "bool" = some none)
    (z6 : PySem.W.nsIn K mainGlobals "str" = some none)
    (z7 : PySem.W.nsIn K mainGlobals "isinstance" = some none)
    (z8 : PySem.W.nsIn K mainGlobals "all" = some none)
    (z9 : PySem.W.nsIn K mainGlobals "any" = some none)
    (z10 : PySem.W.nsIn K mainGlobals "zip" = some none)
    (z11 : PySem.W.nsIn K mainGlobals "sorted" = some none)
    (z12 : PySem.W.nsIn K mainGlobals "abs" = some none)
    (z13 : PySem.W.nsIn K mainGlobals "max" = some none)
    (z14 : PySem.W.nsIn K mainGlobals "min" = some none)
    (z15 : PySem.W.nsIn K mainGlobals "sum" = some none)
    (z16 : PySem.W.nsIn K mainGlobals "set" = some none)
    (z17 : PySem.W.nsIn K mainGlobals "dict" = some none)
    (z18 : PySem.W.nsIn K mainGlobals "enumerate" = some none)
    (z19 : PySem.W.nsIn K mainGlobals "repr" = some none)
    (z20 : PySem.W.nsIn K mainGlobals "reversed" = some none)
    (z21 : PySem.W.nsIn K mainGlobals "ValueError" = some none)
    (tl39 : K.lookup cc39 = some ⟨tcl39, tod39, .fields tvs39, tsl39⟩)
    (tv39 : tvs39[11]? = some (.ref P39))
    (tn39 : K.lookup P39 = none)
    (tr39 : (recsOf p).find? (fun e => e.name == ("_law_are_refused_right" : Str)) = some dR39) :
    LamX.LawAtS l w K CX0 10 63 "script" mg fa h := by
  have G := GR.T.g
  have e := hfa.symm.trans (PySem.W.mg_of X G a40)
  obtain rfl : f40 = fa := by cases e; rfl
  clear e
  have FI12 := fun_mk (x := "__init__") (st := (inClass (topS 12) 0)) li12 ci12 ki12
  have BI12 := FI12.binds (ps := ["self", "at"]) fun _ _ _ _ _ _ us hl => match us, hl with | [_, _], _ => rfl
  have FI13 := fun_mk (x := "__init__") (st := (inClass (topS 13) 0)) li13 ci13 ki13
  have BI13 := FI13.binds (ps := ["self", "most"]) fun _ _ _ _ _ _ us hl => match us, hl with | [_, _], _ => rfl
  have F1 := fun_mk (x := "is_integer") (st := s_is_integer) l1 c1 k1
  have B1 := F1.binds (ps := ["thing"]) fun _ _ _ _ _ _ us hl => match us, hl with | [_], _ => rfl
  have F2 := fun_mk (x := "is_within") (st := s_is_within) l2 c2 k2
  have B2 := F2.binds (ps := ["thing", "low", "high"]) fun _ _ _ _ _ _ us hl => match us, hl with | [_, _, _], _ => rfl
  have F3 := fun_mk (x := "are_integers") (st := s_are_integers) l3 c3 k3
  have B3 := F3.binds (ps := ["thing"]) fun _ _ _ _ _ _ us hl => match us, hl with | [_], _ => rfl
  have F4 := fun_mk (x := "is_rising") (st := s_is_rising) l4 c4 k4
  have B4 := F4.binds (ps := ["thing"]) fun _ _ _ _ _ _ us hl => match us, hl with | [_], _ => rfl
  have F17 := fun_mk (x := "check_items") (st := s_check_items) l17 c17 k17
  have B17 := F17.binds (ps := ["items"]) fun _ _ _ _ _ _ us hl => match us, hl with | [_], _ => rfl
  have F18 := fun_mk (x := "fold_bits") (st := s_fold_bits) l18 c18 k18
  have B18 := F18.binds (ps := ["items", "often"]) fun _ _ _ _ _ _ us hl => match us, hl with | [_, _], _ => rfl
  have F19 := fun_mk (x := "check_fold") (st := s_check_fold) l19 c19 k19
  have B19 := F19.binds (ps := ["items", "often"]) fun _ _ _ _ _ _ us hl => match us, hl with | [_, _], _ => rfl
  have F20 := fun_mk (x := "bits_on") (st := s_bits_on) l20 c20 k20
  have B20 := F20.binds (ps := ["told"]) fun _ _ _ _ _ _ us hl => match us, hl with | [_], _ => rfl
  have F21 := fun_mk (x := "item_sums") (st := s_item_sums) l21 c21 k21
  have B21 := F21.binds (ps := ["items", "often"]) fun _ _ _ _ _ _ us hl => match us, hl with | [_, _], _ => rfl
  have F22 := fun_mk (x := "item_sums_number") (st := s_item_sums_number) l22 c22 k22
  have B22 := F22.binds (ps := ["items", "often"]) fun _ _ _ _ _ _ us hl => match us, hl with | [_, _], _ => rfl
  have F23 := fun_mk (x := "reach_of") (st := s_reach_of) l23 c23 k23
  have B23 := F23.binds (ps := ["items", "often"]) fun _ _ _ _ _ _ us hl => match us, hl with | [_, _], _ => rfl
  have F24 := fun_mk (x := "reach") (st := s_reach) l24 c24 k24
  have B24 := F24.binds (ps := ["items", "often"]) fun _ _ _ _ _ _ us hl => match us, hl with | [_, _], _ => rfl
  have F25 := fun_mk (x := "is_folded") (st := s_is_folded) l25 c25 k25
  have B25 := F25.binds (ps := ["items", "often", "number"]) fun _ _ _ _ _ _ us hl => match us, hl with | [_, _, _], _ => rfl
  have F26 := fun_mk (x := "turned_items") (st := s_turned_items) l26 c26 k26
  have B26 := F26.binds (ps := ["items"]) fun _ _ _ _ _ _ us hl => match us, hl with | [_], _ => rfl
  have F27 := fun_mk (x := "folded_sizes") (st := s_folded_sizes) l27 c27 k27
  have B27 := F27.binds (ps := ["items", "most"]) fun _ _ _ _ _ _ us hl => match us, hl with | [_, _], _ => rfl
  have F28 := fun_mk (x := "next_fold") (st := s_next_fold) l28 c28 k28
  have B28 := F28.binds (ps := ["items", "told"]) fun _ _ _ _ _ _ us hl => match us, hl with | [_, _], _ => rfl
  have F30 := fun_mk (x := "_law_hand") (st := s__law_hand) l30 c30 k30
  have B30 := F30.binds (ps := ["script"]) fun _ _ _ _ _ _ us hl => match us, hl with | [_], _ => rfl
  have F31 := fun_mk (x := "_law_draw") (st := s__law_draw) l31 c31 k31
  have B31 := F31.binds (ps := ["hand", "many"]) fun _ _ _ _ _ _ us hl => match us, hl with | [_, _], _ => rfl
  have F32 := fun_mk (x := "_law_any") (st := s__law_any) l32 c32 k32
  have B32 := F32.binds (ps := ["hand", "some"]) fun _ _ _ _ _ _ us hl => match us, hl with | [_, _], _ => rfl
  have F33 := fun_mk (x := "_law_is") (st := s__law_is) l33 c33 k33
  have B33 := F33.binds (ps := ["answer", "due"]) fun _ _ _ _ _ _ us hl => match us, hl with | [_, _], _ => rfl
  have F34 := fun_mk (x := "_law_word") (st := s__law_word) l34 c34 k34
  have B34 := F34.binds (ps := ["call"]) fun _ _ _ _ _ _ us hl => match us, hl with | [_], _ => rfl
  have F35 := fun_mk (x := "_law_items") (st := s__law_items) l35 c35 k35
  have B35 := F35.binds (ps := ["hand", "top", "most_of"]) fun _ _ _ _ _ _ us hl => match us, hl with | [_, _, _], _ => rfl
  have F36 := fun_mk (x := "_law_sums") (st := s__law_sums) l36 c36 k36
  have B36 := F36.binds (ps := ["items", "often"]) fun _ _ _ _ _ _ us hl => match us, hl with | [_, _], _ => rfl
  have F37 := fun_mk (x := "_law_no_items") (st := s__law_no_items) l37 c37 k37
  have B37 := F37.binds (ps := ["hand"]) fun _ _ _ _ _ _ us hl => match us, hl with | [_], _ => rfl
  have F38 := fun_mk (x := "_law_is_right") (st := s__law_is_right) l38 c38 k38
  have B38 := F38.binds (ps := ["hand", "items", "often"]) fun _ _ _ _ _ _ us hl => match us, hl with | [_, _, _], _ => rfl
  have F39 := fun_mk (x := "_law_are_refused_right") (st := s__law_are_refused_right) l39 c39 k39
  have B39 := F39.binds (ps := ["hand"]) fun _ _ _ _ _ _ us hl => match us, hl with | [_], _ => rfl
  have F40 := fun_mk (x := "law") (st := s_law) l40 c40 k40
  have B40 := F40.binds (ps := ["script"]) fun _ _ _ _ _ _ us hl => match us, hl with | [_], _ => rfl
  let A : Nat → Addr := fun j => match j with | 1 => f1 | 2 => f2 | 3 => f3 | 4 => f4 | 6 => C6 | 7 => C7 | 8 => C8 | 9 => C9 | 10 => C10 | 11 => C11 | 12 => C12 | 13 => C13 | 17 => f17 | 18 => f18 | 19 => f19 | 20 => f20 | 21 => f21 | 22 => f22 | 23 => f23 | 24 => f24 | 25 => f25 | 26 => f26 | 27 => f27 | 28 => f28 | 30 => f30 | 31 => f31 | 32 => f32 | 33 => f33 | 34 => f34 | 35 => f35 | 36 => f36 | 37 => f37 | 38 => f38 | 39 => f39 | 40 => f40 | _ => 0
  let AI : Nat → Addr := fun j => match j with | 12 => fi12 | 13 => fi13 | _ => 0
  let FD : Nat → FuncData := fun j => match j with | 1 => PySem.W.fnOf "is_integer" "is_integer" (defArgs s_is_integer) (defBody s_is_integer) (defScope s_is_integer) .none kV1 dc1 pm1 an1 cd1 ct1 | 2 => PySem.W.fnOf "is_within" "is_within" (defArgs s_is_within) (defBody s_is_within) (defScope s_is_within) .none kV2 dc2 pm2 an2 cd2 ct2 | 3 => PySem.W.fnOf "are_integers" "are_integers" (defArgs s_are_integers) (defBody s_are_integers) (defScope s_are_integers) .none kV3 dc3 pm3 an3 cd3 ct3 | 4 => PySem.W.fnOf "is_rising" "is_rising" (defArgs s_is_rising) (defBody s_is_rising) (defScope s_is_rising) .none kV4 dc4 pm4 an4 cd4 ct4 | 12 => PySem.W.fnOf "__init__" "BadCoins.__init__" (defArgs (inClass (topS 12) 0)) (defBody (inClass (topS 12) 0)) (defScope (inClass (topS 12) 0)) .none kV12 dc12 pm12 an12 cd12 ct12 | 13 => PySem.W.fnOf "__init__" "TooMany.__init__" (defArgs (inClass (topS 13) 0)) (defBody (inClass (topS 13) 0)) (defScope (inClass (topS 13) 0)) .none kV13 dc13 pm13 an13 cd13 ct13 | 17 => PySem.W.fnOf "check_items" "check_items" (defArgs s_check_items) (defBody s_check_items) (defScope s_check_items) .none kV17 dc17 pm17 an17 cd17 ct17 | 18 => PySem.W.fnOf "fold_bits" "fold_bits" (defArgs s_fold_bits) (defBody s_fold_bits) (defScope s_fold_bits) .none kV18 dc18 pm18 an18 cd18 ct18 | 19 => PySem.W.fnOf "check_fold" "check_fold" (defArgs s_check_fold) (defBody s_check_fold) (defScope s_check_fold) .none kV19 dc19 pm19 an19 cd19 ct19 | 20 => PySem.W.fnOf "bits_on" "bits_on" (defArgs s_bits_on) (defBody s_bits_on) (defScope s_bits_on) .none kV20 dc20 pm20 an20 cd20 ct20 | 21 => PySem.W.fnOf "item_sums" "item_sums" (defArgs s_item_sums) (defBody s_item_sums) (defScope s_item_sums) .none kV21 dc21 pm21 an21 cd21 ct21 | 22 => PySem.W.fnOf "item_sums_number" "item_sums_number" (defArgs s_item_sums_number) (defBody s_item_sums_number) (defScope s_item_sums_number) .none kV22 dc22 pm22 an22 cd22 ct22 | 23 => PySem.W.fnOf "reach_of" "reach_of" (defArgs s_reach_of) (defBody s_reach_of) (defScope s_reach_of) .none kV23 dc23 pm23 an23 cd23 ct23 | 24 => PySem.W.fnOf "reach" "reach" (defArgs s_reach) (defBody s_reach) (defScope s_reach) .none kV24 dc24 pm24 an24 cd24 ct24 | 25 => PySem.W.fnOf "is_folded" "is_folded" (defArgs s_is_folded) (defBody s_is_folded) (defScope s_is_folded) .none kV25 dc25 pm25 an25 cd25 ct25 | 26 => PySem.W.fnOf "turned_items" "turned_items" (defArgs s_turned_items) (defBody s_turned_items) (defScope s_turned_items) .none kV26 dc26 pm26 an26 cd26 ct26 | 27 => PySem.W.fnOf "folded_sizes" "folded_sizes" (defArgs s_folded_sizes) (defBody s_folded_sizes) (defScope s_folded_sizes) .none kV27 dc27 pm27 an27 cd27 ct27 | 28 => PySem.W.fnOf "next_fold" "next_fold" (defArgs s_next_fold) (defBody s_next_fold) (defScope s_next_fold) .none kV28 dc28 pm28 an28 cd28 ct28 | 30 => PySem.W.fnOf "_law_hand" "_law_hand" (defArgs s__law_hand) (defBody s__law_hand) (defScope s__law_hand) .none kV30 dc30 pm30 an30 cd30 ct30 | 31 => PySem.W.fnOf "_law_draw" "_law_draw" (defArgs s__law_draw) (defBody s__law_draw) (defScope s__law_draw) .none kV31 dc31 pm31 an31 cd31 ct31 | 32 => PySem.W.fnOf "_law_any" "_law_any" (defArgs s__law_any) (defBody s__law_any) (defScope s__law_any) .none kV32 dc32 pm32 an32 cd32 ct32 | 33 => PySem.W.fnOf "_law_is" "_law_is" (defArgs s__law_is) (defBody s__law_is) (defScope s__law_is) .none kV33 dc33 pm33 an33 cd33 ct33 | 34 => PySem.W.fnOf "_law_word" "_law_word" (defArgs s__law_word) (defBody s__law_word) (defScope s__law_word) .none kV34 dc34 pm34 an34 cd34 ct34 | 35 => PySem.W.fnOf "_law_items" "_law_items" (defArgs s__law_items) (defBody s__law_items) (defScope s__law_items) .none kV35 dc35 pm35 an35 cd35 ct35 | 36 => PySem.W.fnOf "_law_sums" "_law_sums" (defArgs s__law_sums) (defBody s__law_sums) (defScope s__law_sums) .none kV36 dc36 pm36 an36 cd36 ct36 | 37 => PySem.W.fnOf "_law_no_items" "_law_no_items" (defArgs s__law_no_items) (defBody s__law_no_items) (defScope s__law_no_items) .none kV37 dc37 pm37 an37 cd37 ct37 | 38 => PySem.W.fnOf "_law_is_right" "_law_is_right" (defArgs s__law_is_right) (defBody s__law_is_right) (defScope s__law_is_right) .none kV38 dc38 pm38 an38 cd38 ct38 | 39 => PySem.W.fnOf "_law_are_refused_right" "_law_are_refused_right" (defArgs s__law_are_refused_right) (defBody s__law_are_refused_right) (defScope s__law_are_refused_right) .none kV39 dc39 pm39 an39 (.ref cc39) ct39 | 40 => PySem.W.fnOf "law" "law" (defArgs s_law) (defBody s_law) (defScope s_law) .none kV40 dc40 pm40 an40 cd40 ct40 | _ => PySem.W.fnOf "law" "law" (defArgs s_law) (defBody s_law) (defScope s_law) .none kV40 dc40 pm40 an40 cd40 ct40
  have T : Txt K mg A AI FD := {
    blt := (List.forall_mem_cons.mpr ⟨PySem.W.mg_none_of X G z0, (List.forall_mem_cons.mpr ⟨PySem.W.mg_none_of X G z1, (List.forall_mem_cons.mpr ⟨PySem.W.mg_none_of X G z2, (List.forall_mem_cons.mpr ⟨PySem.W.mg_none_of X G z3, (List.forall_mem_cons.mpr ⟨PySem.W.mg_none_of X G z4, (List.forall_mem_cons.mpr ⟨PySem.W.mg_none_of X G z5, (List.forall_mem_cons.mpr ⟨PySem.W.mg_none_of X G z6, (List.forall_mem_cons.mpr ⟨PySem.W.mg_none_of X G z7, (List.forall_mem_cons.mpr ⟨PySem.W.mg_none_of X G z8, (List.forall_mem_cons.mpr ⟨PySem.W.mg_none_of X G z9, (List.forall_mem_cons.mpr ⟨PySem.W.mg_none_of X G z10, (List.forall_mem_cons.mpr ⟨PySem.W.mg_none_of X G z11, (List.forall_mem_cons.mpr ⟨PySem.W.mg_none_of X G z12, (List.forall_mem_cons.mpr ⟨PySem.W.mg_none_of X G z13, (List.forall_mem_cons.mpr ⟨PySem.W.mg_none_of X G z14, (List.forall_mem_cons.mpr ⟨PySem.W.mg_none_of X G z15, (List.forall_mem_cons.mpr ⟨PySem.W.mg_none_of X G z16, (List.forall_mem_cons.mpr ⟨PySem.W.mg_none_of X G z17, (List.forall_mem_cons.mpr ⟨PySem.W.mg_none_of X G z18, (List.forall_mem_cons.mpr ⟨PySem.W.mg_none_of X G z19, (List.forall_mem_cons.mpr ⟨PySem.W.mg_none_of X G z20, (List.forall_mem_cons.mpr ⟨PySem.W.mg_none_of X G z21, (fun _ h => by cases h)⟩)⟩)⟩)⟩)⟩)⟩)⟩)⟩)⟩)⟩)⟩)⟩)⟩)⟩)⟩)⟩)⟩)⟩)⟩)⟩)⟩)⟩)
    e_CoinError := ⟨PySem.W.mg_of X G g6, ex6, kc6, sb6, ty6⟩
    e_BadNumber := ⟨PySem.W.mg_of X G g7, ex7, kc7, sb7, ty7⟩
    e_BadPurse := ⟨PySem.W.mg_of X G g8, ex8, kc8, sb8, ty8⟩
    e_BadSpan := ⟨PySem.W.mg_of X G g9, ex9, kc9, sb9, ty9⟩
    e_NoSystem := ⟨PySem.W.mg_of X G g10, ex10, kc10, sb10, ty10⟩
    e_NotPayable := ⟨PySem.W.mg_of X G g11, ex11, kc11, sb11, ty11⟩
    e_BadCoins := ⟨PySem.W.mg_of X G g12, ⟨⟨nm12, q12, Nx12, bs12, bm12, sn12, sub12, ab12, col12, dd12, m012, m112, m212, m312, m512, xL12, rf12⟩, sa12, sb12, ty12, kc12⟩, ii12, ti12, no12, FI12, BI12⟩
    e_TooMany := ⟨PySem.W.mg_of X G g13, ⟨⟨nm13, q13, Nx13, bs13, bm13, sn13, sub13, ab13, col13, dd13, m013, m113, m213, m313, m513, xL13, rf13⟩, sa13, sb13, ty13, kc13⟩, ii13, ti13, no13, FI13, BI13⟩
    x_BadNumber := ⟨xc7, xg7, xk7, sb7, xa7, wn, wt, xm7⟩
    v_BadNumber := xv7
    m_BadNumber := PySem.W.exm_ref sb6 wd6 ty6 xs7
    k_BadNumber_BadNumber := xx7_7
    k_BadNumber_BadPurse := xx7_8
    k_BadNumber_BadSpan := xx7_9
    k_BadNumber_NoSystem := xx7_10
    k_BadNumber_NotPayable := xx7_11
    k_BadNumber_BadCoins := xx7_12
    k_BadNumber_TooMany := xx7_13
    x_BadPurse := ⟨xc8, xg8, xk8, sb8, xa8, wn, wt, xm8⟩
    v_BadPurse := xv8
    m_BadPurse := PySem.W.exm_ref sb6 wd6 ty6 xs8
    k_BadPurse_BadNumber := xx8_7
    k_BadPurse_BadPurse := xx8_8
    k_BadPurse_BadSpan := xx8_9
    k_BadPurse_NoSystem := xx8_10
    k_BadPurse_NotPayable := xx8_11
    k_BadPurse_BadCoins := xx8_12
    k_BadPurse_TooMany := xx8_13
    x_BadSpan := ⟨xc9, xg9, xk9, sb9, xa9, wn, wt, xm9⟩
    v_BadSpan := xv9
    m_BadSpan := PySem.W.exm_ref sb6 wd6 ty6 xs9
    k_BadSpan_BadNumber := xx9_7
    k_BadSpan_BadPurse := xx9_8
    k_BadSpan_BadSpan := xx9_9
    k_BadSpan_NoSystem := xx9_10
    k_BadSpan_NotPayable := xx9_11
    k_BadSpan_BadCoins := xx9_12
    k_BadSpan_TooMany := xx9_13
    x_NoSystem := ⟨xc10, xg10, xk10, sb10, xa10, wn, wt, xm10⟩
    v_NoSystem := xv10
    m_NoSystem := PySem.W.exm_ref sb6 wd6 ty6 xs10
    k_NoSystem_BadNumber := xx10_7
    k_NoSystem_BadPurse := xx10_8
    k_NoSystem_BadSpan := xx10_9
    k_NoSystem_NoSystem := xx10_10
    k_NoSystem_NotPayable := xx10_11
    k_NoSystem_BadCoins := xx10_12
    k_NoSystem_TooMany := xx10_13
    x_NotPayable := ⟨xc11, xg11, xk11, sb11, xa11, wn, wt, xm11⟩
    v_NotPayable := xv11
    m_NotPayable := PySem.W.exm_ref sb6 wd6 ty6 xs11
    k_NotPayable_BadNumber := xx11_7
    k_NotPayable_BadPurse := xx11_8
    k_NotPayable_BadSpan := xx11_9
    k_NotPayable_NoSystem := xx11_10
    k_NotPayable_NotPayable := xx11_11
    k_NotPayable_BadCoins := xx11_12
    k_NotPayable_TooMany := xx11_13
    x_BadCoins := ⟨xc12, xg12, xk12, sb12, xa12, wn, wt, xm12⟩
    v_BadCoins := xv12
    m_BadCoins := PySem.W.exm_ref sb6 wd6 ty6 xs12
    f_BadCoins := ⟨xg12, xk12, sb12, xh12⟩
    k_BadCoins_BadNumber := xx12_7
    k_BadCoins_BadPurse := xx12_8
    k_BadCoins_BadSpan := xx12_9
    k_BadCoins_NoSystem := xx12_10
    k_BadCoins_NotPayable := xx12_11
    k_BadCoins_BadCoins := xx12_12
    k_BadCoins_TooMany := xx12_13
    x_TooMany := ⟨xc13, xg13, xk13, sb13, xa13, wn, wt, xm13⟩
    v_TooMany := xv13
    m_TooMany := PySem.W.exm_ref sb6 wd6 ty6 xs13
    f_TooMany := ⟨xg13, xk13, sb13, xh13⟩
    k_TooMany_BadNumber := xx13_7
    k_TooMany_BadPurse := xx13_8
    k_TooMany_BadSpan := xx13_9
    k_TooMany_NoSystem := xx13_10
    k_TooMany_NotPayable := xx13_11
    k_TooMany_BadCoins := xx13_12
    k_TooMany_TooMany := xx13_13
    c_MOST_FOLD := ⟨tk15, PySem.W.mg_of X G cn15⟩
    c_MOST_ITEM := ⟨tk16, PySem.W.mg_of X G cn16⟩
    d_is_integer := ⟨PySem.W.mg_of X G a1, F1, B1⟩
    d_is_within := ⟨PySem.W.mg_of X G a2, F2, B2⟩
    d_are_integers := ⟨PySem.W.mg_of X G a3, F3, B3⟩
    d_is_rising := ⟨PySem.W.mg_of X G a4, F4, B4⟩
    d_check_items := ⟨PySem.W.mg_of X G a17, F17, B17⟩
    d_fold_bits := ⟨PySem.W.mg_of X G a18, F18, B18⟩
    d_check_fold := ⟨PySem.W.mg_of X G a19, F19, B19⟩
    d_bits_on := ⟨PySem.W.mg_of X G a20, F20, B20⟩
    d_item_sums := ⟨PySem.W.mg_of X G a21, F21, B21⟩
    d_item_sums_number := ⟨PySem.W.mg_of X G a22, F22, B22⟩
    d_reach_of := ⟨PySem.W.mg_of X G a23, F23, B23⟩
    d_reach := ⟨PySem.W.mg_of X G a24, F24, B24⟩
    d_is_folded := ⟨PySem.W.mg_of X G a25, F25, B25⟩
    d_turned_items := ⟨PySem.W.mg_of X G a26, F26, B26⟩
    d_folded_sizes := ⟨PySem.W.mg_of X G a27, F27, B27⟩
    d_next_fold := ⟨PySem.W.mg_of X G a28, F28, B28⟩
    d__law_hand := ⟨PySem.W.mg_of X G a30, F30, B30⟩
    d__law_draw := ⟨PySem.W.mg_of X G a31, F31, B31⟩
    d__law_any := ⟨PySem.W.mg_of X G a32, F32, B32⟩
    d__law_is := ⟨PySem.W.mg_of X G a33, F33, B33⟩
    d__law_word := ⟨PySem.W.mg_of X G a34, F34, B34⟩
    d__law_items := ⟨PySem.W.mg_of X G a35, F35, B35⟩
    d__law_sums := ⟨PySem.W.mg_of X G a36, F36, B36⟩
    d__law_no_items := ⟨PySem.W.mg_of X G a37, F37, B37⟩
    d__law_is_right := ⟨PySem.W.mg_of X G a38, F38, B38⟩
    d__law_are_refused_right := ⟨PySem.W.mg_of X G a39, F39, B39⟩
    d_law := ⟨PySem.W.mg_of X G a40, F40, B40⟩
  }
  have L39 : DefC K mg "_law_are_refused_right" s__law_are_refused_right (A 39) (FD 39) ["hand"] cc39 := ⟨PySem.W.mg_of X G a39, ⟨oc39, od39, kV39, dc39, pm39, an39, ct39, sl39, rfl, l39, c39⟩, k39, B39⟩
  have ht39 : PySem.W.tabIn K "_law_are_refused_right" = some (cc39, P39) := by
    unfold PySem.W.tabIn
    rw [a39]
    dsimp only
    rw [l39]
    show (match K.lookup cc39 with | some ⟨_, _, .fields vs, _⟩ => (match (vs[11]? : Option Value) with | some (.ref P) => some (cc39, P) | _ => none) | _ => none) = _
    rw [tl39]
    dsimp only
    rw [tv39]
  obtain ⟨hC39, hP39⟩ := PySem.W.tab_of GR.T X tr39 ht39
  refine ⟨PySem.W.fnOf "law" "law" (defArgs s_law) (defBody s_law) (defScope s_law) .none kV40 dc40 pm40 an40 cd40 ct40, [(cc39, P39)], spLaw K [(P39, lamQ)], ?_, ?_, ?_, fun s u => .of_eq rfl, fun H a ns hl _ hT hS => ⟨a, ns, rfl, hS, hl, ?_, ?_, fun _ => rfl⟩, fun base _ _ hTB => ok_law (K := K) (mg := mg) (base := base) T L39 (hTB (cc39, P39) (by simp))⟩
  · exact (List.forall_mem_cons.mpr ⟨hP39, (fun _ h => by cases h)⟩)
  · exact (List.forall_mem_cons.mpr ⟨tn39, (fun _ h => by cases h)⟩)
  · exact (List.forall_mem_cons.mpr ⟨hC39, (fun _ h => by cases h)⟩)
  · simp
  · exact (List.forall_mem_cons.mpr ⟨hT (cc39, P39) (by simp), (fun _ h => by cases h)⟩)
end Pf
set_option Elab.async false
set_option linter.all false
set_option maxRecDepth 100000
open PySem PySem.W PyProof.Rows
set_option maxHeartbeats 0 in
theorem PySem.Challenge.cw_paidornot_k45_whole_sums_of_items_holds : PySem.Challenge.rw_paidornot_k45_whole_sums_of_items.Holds := by
  w_on; o_law; k_head; (case hw => w_witness2)
  k_fill
  refine Pf.walk_T (l := PySem.Challenge.rw_paidornot_k45_whole_sums_of_items) (n := 63) (k := 10) (x := "script") (CX := fun _ => L2.CX0) rfl (by decide) rfl ⟨rfl, by decide, by decide⟩ (fun w h Y => PySem.W.km_in_of Y) ?F (fun _ _ _ _ _ z => z)
  case F =>
    intro w s₀ mg mb fa h GR KX hmg
    refine' Pf.all_mk KX GR hmg ?g6 ?kc6 ?sb6 ?ty6 ?ex6 ?g7 ?kc7 ?sb7 ?ty7 ?ex7 ?g8 ?kc8 ?sb8 ?ty8 ?ex8 ?g9 ?kc9 ?sb9 ?ty9 ?ex9 ?g10 ?kc10 ?sb10 ?ty10 ?ex10 ?g11 ?kc11 ?sb11 ?ty11 ?ex11 ?g12 ?kc12 ?sb12 ?ty12 ?xL12 ?rf12 ?sa12 ?ii12 ?ti12 ?no12 ?li12 ?ci12 ?ki12 ?g13 ?kc13 ?sb13 ?ty13 ?xL13 ?rf13 ?sa13 ?ii13 ?ti13 ?no13 ?li13 ?ci13 ?ki13 ?wn ?wt ?wd6 ?xc7 ?xg7 ?xk7 ?xa7 ?xm7 ?xv7 ?xs7 ?xx7_7 ?xx7_8 ?xx7_9 ?xx7_10 ?xx7_11 ?xx7_12 ?xx7_13 ?xc8 ?xg8 ?xk8 ?xa8 ?xm8 ?xv8 ?xs8 ?xx8_7 ?xx8_8 ?xx8_9 ?xx8_10 ?xx8_11 ?xx8_12 ?xx8_13 ?xc9 ?xg9 ?xk9 ?xa9 ?xm9 ?xv9 ?xs9 ?xx9_7 ?xx9_8 ?xx9_9 ?xx9_10 ?xx9_11 ?xx9_12 ?xx9_13 ?xc10 ?xg10 ?xk10 ?xa10 ?xm10 ?xv10 ?xs10 ?xx10_7 ?xx10_8 ?xx10_9 ?xx10_10 ?xx10_11 ?xx10_12 ?xx10_13 ?xc11 ?xg11 ?xk11 ?xa11 ?xm11 ?xv11 ?xs11 ?xx11_7 ?xx11_8 ?xx11_9 ?xx11_10 ?xx11_11 ?xx11_12 ?xx11_13 ?xc12 ?xg12 ?xk12 ?xa12 ?xm12 ?xv12 ?xs12 ?xh12 ?xx12_7 ?xx12_8 ?xx12_9 ?xx12_10 ?xx12_11 ?xx12_12 ?xx12_13 ?xc13 ?xg13 ?xk13 ?xa13 ?xm13 ?xv13 ?xs13 ?xh13 ?xx13_7 ?xx13_8 ?xx13_9 ?xx13_10 ?xx13_11 ?xx13_12 ?xx13_13 ?cn15 ?cn16 ?a1 ?l1 ?c1 ?k1 ?a2 ?l2 ?c2 ?k2 ?a3 ?l3 ?c3 ?k3 ?a4 ?l4 ?c4 ?k4 ?a17 ?l17 ?c17 ?k17 ?a18 ?l18 ?c18 ?k18 ?a19 ?l19 ?c19 ?k19 ?a20 ?l20 ?c20 ?k20 ?a21 ?l21 ?c21 ?k21 ?a22 ?l22 ?c22 ?k22 ?a23 ?l23 ?c23 ?k23 ?a24 ?l24 ?c24 ?k24 ?a25 ?l25 ?c25 ?k25 ?a26 ?l26 ?c26 ?k26 ?a27 ?l27 ?c27 ?k27 ?a28 ?l28 ?c28 ?k28 ?a30 ?l30 ?c30 ?k30 ?a31 ?l31 ?c31 ?k31 ?a32 ?l32 ?c32 ?k32 ?a33 ?l33 ?c33 ?k33 ?a34 ?l34 ?c34 ?k34 ?a35 ?l35 ?c35 ?k35 ?a36 ?l36 ?c36 ?k36 ?a37 ?l37 ?c37 ?k37 ?a38 ?l38 ?c38 ?k38 ?a39 ?l39 ?c39 ?k39 ?a40 ?l40 ?c40 ?k40 ?z0 ?z1 ?z2 ?z3 ?z4 ?z5 ?z6 ?z7 ?z8 ?z9 ?z10 ?z11 ?z12 ?z13 ?z14 ?z15 ?z16 ?z17 ?z18 ?z19 ?z20 ?z21 ?tl39 ?tv39 ?tn39 ?tr39
    (case g6 => first | k_is | rfl)
    (case kc6 => first | k_is | rfl)
    (case sb6 => first | k_is | rfl)
    (case ty6 => first | k_is | rfl)
    (case ex6 => first | kernel_rfl | rfl)
    (case g7 => first | k_is | rfl)
    (case kc7 => first | k_is | rfl)
    (case sb7 => first | k_is | rfl)
    (case ty7 => first | k_is | rfl)
    (case ex7 => first | kernel_rfl | rfl)
    (case g8 => first | k_is | rfl)
    (case kc8 => first | k_is | rfl)
    (case sb8 => first | k_is | rfl)
    (case ty8 => first | k_is | rfl)
    (case ex8 => first | kernel_rfl | rfl)
    (case g9 => first | k_is | rfl)
    (case kc9 => first | k_is | rfl)
    (case sb9 => first | k_is | rfl)
    (case ty9 => first | k_is | rfl)
    (case ex9 => first | kernel_rfl | rfl)
    (case g10 => first | k_is | rfl)
    (case kc10 => first | k_is | rfl)
    (case sb10 => first | k_is | rfl)
    (case ty10 => first | k_is | rfl)
    (case ex10 => first | kernel_rfl | rfl)
    (case g11 => first | k_is | rfl)
    (case kc11 => first | k_is | rfl)
    (case sb11 => first | k_is | rfl)
    (case ty11 => first | k_is | rfl)
    (case ex11 => first | kernel_rfl | rfl)
    (case g12 => first | k_is | rfl)
    (case kc12 => first | k_is | rfl)
    (case sb12 => first | k_is | rfl)
    (case ty12 => first | k_is | rfl)
    (case xL12 => first | k_is | rfl)
    (case rf12 => first | (decide +kernel) | rfl)
    (case sa12 => first | k_is | rfl)
    (case ii12 => first | k_is | rfl)
    (case ti12 => first | k_is | rfl)
    (case no12 => first | k_is | rfl)
    (case li12 => first | k_is | rfl)
    (case ci12 => first | k_is | rfl)
    (case ki12 => first | k_is | rfl)
    (case g13 => first | k_is | rfl)
    (case kc13 => first | k_is | rfl)
    (case sb13 => first | k_is | rfl)
    (case ty13 => first | k_is | rfl)
    (case xL13 => first | k_is | rfl)
    (case rf13 => first | (decide +kernel) | rfl)
    (case sa13 => first | k_is | rfl)
    (case ii13 => first | k_is | rfl)
    (case ti13 => first | k_is | rfl)
    (case no13 => first | k_is | rfl)
    (case li13 => first | k_is | rfl)
    (case ci13 => first | k_is | rfl)
    (case ki13 => first | k_is | rfl)
    (case wn => first | k_is | rfl)
    (case wt => first | k_is | rfl)
    (case wd6 => first | k_is | rfl)
    (case xc7 => first | k_is | rfl)
    (case xg7 => first | k_is | rfl)
    (case xk7 => first | k_is | rfl)
    (case xa7 => first | k_is | rfl)
    (case xm7 => first | k_is | rfl)
    (case xv7 => first | kit_is | rfl)
    (case xs7 => first | k_is | rfl)
    (case xx7_7 => first | kit_is | rfl)
    (case xx7_8 => first | kit_is | rfl)
    (case xx7_9 => first | kit_is | rfl)
    (case xx7_10 => first | kit_is | rfl)
    (case xx7_11 => first | kit_is | rfl)
    (case xx7_12 => first | kit_is | rfl)
    (case xx7_13 => first | kit_is | rfl)
    (case xc8 => first | k_is | rfl)
    (case xg8 => first | k_is | rfl)
    (case xk8 => first | k_is | rfl)
    (case xa8 => first | k_is | rfl)
    (case xm8 => first | k_is | rfl)
    (case xv8 => first | kit_is | rfl)
    (case xs8 => first | k_is | rfl)
    (case xx8_7 => first | kit_is | rfl)
    (case xx8_8 => first | kit_is | rfl)
    (case xx8_9 => first | kit_is | rfl)
    (case xx8_10 => first | kit_is | rfl)
    (case xx8_11 => first | kit_is | rfl)
    (case xx8_12 => first | kit_is | rfl)
    (case xx8_13 => first | kit_is | rfl)
    (case xc9 => first | k_is | rfl)
    (case xg9 => first | k_is | rfl)
    (case xk9 => first | k_is | rfl)
    (case xa9 => first | k_is | rfl)
    (case xm9 => first | k_is | rfl)
    (case xv9 => first | kit_is | rfl)
    (case xs9 => first | k_is | rfl)
    (case xx9_7 => first | kit_is | rfl)
    (case xx9_8 => first | kit_is | rfl)
    (case xx9_9 => first | kit_is | rfl)
    (case xx9_10 => first | kit_is | rfl)
    (case xx9_11 => first | kit_is | rfl)
    (case xx9_12 => first | kit_is | rfl)
    (case xx9_13 => first | kit_is | rfl)
    (case xc10 => first | k_is | rfl)
    (case xg10 => first | k_is | rfl)
    (case xk10 => first | k_is | rfl)
    (case xa10 => first | k_is | rfl)
    (case xm10 => first | k_is | rfl)
    (case xv10 => first | kit_is | rfl)
    (case xs10 => first | k_is | rfl)
    (case xx10_7 => first | kit_is | rfl)
    (case xx10_8 => first | kit_is | rfl)
    (case xx10_9 => first | kit_is | rfl)
    (case xx10_10 => first | kit_is | rfl)
    (case xx10_11 => first | kit_is | rfl)
    (case xx10_12 => first | kit_is | rfl)
    (case xx10_13 => first | kit_is | rfl)
    (case xc11 => first | k_is | rfl)
    (case xg11 => first | k_is | rfl)
    (case xk11 => first | k_is | rfl)
    (case xa11 => first | k_is | rfl)
    (case xm11 => first | k_is | rfl)
    (case xv11 => first | kit_is | rfl)
    (case xs11 => first | k_is | rfl)
    (case xx11_7 => first | kit_is | rfl)
    (case xx11_8 => first | kit_is | rfl)
    (case xx11_9 => first | kit_is | rfl)
    (case xx11_10 => first | kit_is | rfl)
    (case xx11_11 => first | kit_is | rfl)
    (case xx11_12 => first | kit_is | rfl)
    (case xx11_13 => first | kit_is | rfl)
    (case xc12 => first | k_is | rfl)
    (case xg12 => first | k_is | rfl)
    (case xk12 => first | k_is | rfl)
    (case xa12 => first | k_is | rfl)
    (case xm12 => first | k_is | rfl)
    (case xv12 => first | kit_is | rfl)
    (case xs12 => first | k_is | rfl)
    (case xh12 => first | k_is | rfl)
    (case xx12_7 => first | kit_is | rfl)
    (case xx12_8 => first | kit_is | rfl)
    (case xx12_9 => first | kit_is | rfl)
    (case xx12_10 => first | kit_is | rfl)
    (case xx12_11 => first | kit_is | rfl)
    (case xx12_12 => first | kit_is | rfl)
    (case xx12_13 => first | kit_is | rfl)
    (case xc13 => first | k_is | rfl)
    (case xg13 => first | k_is | rfl)
    (case xk13 => first | k_is | rfl)
    (case xa13 => first | k_is | rfl)
    (case xm13 => first | k_is | rfl)
    (case xv13 => first | kit_is | rfl)
    (case xs13 => first | k_is | rfl)
    (case xh13 => first | k_is | rfl)
    (case xx13_7 => first | kit_is | rfl)
    (case xx13_8 => first | kit_is | rfl)
    (case xx13_9 => first | kit_is | rfl)
    (case xx13_10 => first | kit_is | rfl)
    (case xx13_11 => first | kit_is | rfl)
    (case xx13_12 => first | kit_is | rfl)
    (case xx13_13 => first | kit_is | rfl)
    (case cn15 => first | k_is | rfl)
    (case cn16 => first | k_is | rfl)
    (case a1 => first | k_is | rfl)
    (case l1 => first | k_is | rfl)
    (case c1 => first | k_is | rfl)
    (case k1 => first | k_is | rfl)
    (case a2 => first | k_is | rfl)
    (case l2 => first | k_is | rfl)
    (case c2 => first | k_is | rfl)
    (case k2 => first | k_is | rfl)
    (case a3 => first | k_is | rfl)
    (case l3 => first | k_is | rfl)
    (case c3 => first | k_is | rfl)
    (case k3 => first | k_is | rfl)
    (case a4 => first | k_is | rfl)
    (case l4 => first | k_is | rfl)
    (case c4 => first | k_is | rfl)
    (case k4 => first | k_is | rfl)
    (case a17 => first | k_is | rfl)
    (case l17 => first | k_is | rfl)
    (case c17 => first | k_is | rfl)
    (case k17 => first | k_is | rfl)
    (case a18 => first | k_is | rfl)
    (case l18 => first | k_is | rfl)
    (case c18 => first | k_is | rfl)
    (case k18 => first | k_is | rfl)
    (case a19 => first | k_is | rfl)
    (case l19 => first | k_is | rfl)
    (case c19 => first | k_is | rfl)
    (case k19 => first | k_is | rfl)
    (case a20 => first | k_is | rfl)
    (case l20 => first | k_is | rfl)
    (case c20 => first | k_is | rfl)
    (case k20 => first | k_is | rfl)
    (case a21 => first | k_is | rfl)
    (case l21 => first | k_is | rfl)
    (case c21 => first | k_is | rfl)
    (case k21 => first | k_is | rfl)
    (case a22 => first | k_is | rfl)
    (case l22 => first | k_is | rfl)
    (case c22 => first | k_is | rfl)
    (case k22 => first | k_is | rfl)
    (case a23 => first | k_is | rfl)
    (case l23 => first | k_is | rfl)
    (case c23 => first | k_is | rfl)
    (case k23 => first | k_is | rfl)
    (case a24 => first | k_is | rfl)
    (case l24 => first | k_is | rfl)
    (case c24 => first | k_is | rfl)
    (case k24 => first | k_is | rfl)
    (case a25 => first | k_is | rfl)
    (case l25 => first | k_is | rfl)
    (case c25 => first | k_is | rfl)
    (case k25 => first | k_is | rfl)
    (case a26 => first | k_is | rfl)
    (case l26 => first | k_is | rfl)
    (case c26 => first | k_is | rfl)
    (case k26 => first | k_is | rfl)
    (case a27 => first | k_is | rfl)
    (case l27 => first | k_is | rfl)
    (case c27 => first | k_is | rfl)
    (case k27 => first | k_is | rfl)
    (case a28 => first | k_is | rfl)
    (case l28 => first | k_is | rfl)
    (case c28 => first | k_is | rfl)
    (case k28 => first | k_is | rfl)
    (case a30 => first | k_is | rfl)
    (case l30 => first | k_is | rfl)
    (case c30 => first | k_is | rfl)
    (case k30 => first | k_is | rfl)
    (case a31 => first | k_is | rfl)
    (case l31 => first | k_is | rfl)
    (case c31 => first | k_is | rfl)
    (case k31 => first | k_is | rfl)
    (case a32 => first | k_is | rfl)
    (case l32 => first | k_is | rfl)
    (case c32 => first | k_is | rfl)
    (case k32 => first | k_is | rfl)
    (case a33 => first | k_is | rfl)
    (case l33 => first | k_is | rfl)
    (case c33 => first | k_is | rfl)
    (case k33 => first | k_is | rfl)
    (case a34 => first | k_is | rfl)
    (case l34 => first | k_is | rfl)
    (case c34 => first | k_is | rfl)
    (case k34 => first | k_is | rfl)
    (case a35 => first | k_is | rfl)
    (case l35 => first | k_is | rfl)
    (case c35 => first | k_is | rfl)
    (case k35 => first | k_is | rfl)
    (case a36 => first | k_is | rfl)
    (case l36 => first | k_is | rfl)
    (case c36 => first | k_is | rfl)
    (case k36 => first | k_is | rfl)
    (case a37 => first | k_is | rfl)
    (case l37 => first | k_is | rfl)
    (case c37 => first | k_is | rfl)
    (case k37 => first | k_is | rfl)
    (case a38 => first | k_is | rfl)
    (case l38 => first | k_is | rfl)
    (case c38 => first | k_is | rfl)
    (case k38 => first | k_is | rfl)
    (case a39 => first | k_is | rfl)
    (case l39 => first | k_is | rfl)
    (case c39 => first | k_is | rfl)
    (case k39 => first | k_is | rfl)
    (case a40 => first | k_is | rfl)
    (case l40 => first | k_is | rfl)
    (case c40 => first | k_is | rfl)
    (case k40 => first | k_is | rfl)
    (case z0 => first | k_is | rfl)
    (case z1 => first | k_is | rfl)
    (case z2 => first | k_is | rfl)
    (case z3 => first | k_is | rfl)
    (case z4 => first | k_is | rfl)
    (case z5 => first | k_is | rfl)
    (case z6 => first | k_is | rfl)
    (case z7 => first | k_is | rfl)
    (case z8 => first | k_is | rfl)
    (case z9 => first | k_is | rfl)
    (case z10 => first | k_is | rfl)
    (case z11 => first | k_is | rfl)
    (case z12 => first | k_is | rfl)
    (case z13 => first | k_is | rfl)
    (case z14 => first | k_is | rfl)
    (case z15 => first | k_is | rfl)
    (case z16 => first | k_is | rfl)
    (case z17 => first | k_is | rfl)
    (case z18 => first | k_is | rfl)
    (case z19 => first | k_is | rfl)
    (case z20 => first | k_is | rfl)
    (case z21 => first | k_is | rfl)
    (case tl39 => first | k_is | rfl)
    (case tv39 => first | rfl | rfl)
    (case tn39 => first | kernel_rfl | rfl)
    (case tr39 => first | rfl | rfl)
